import PyProof.Rows.All
import Wide.All
import OpenK.AllK
import Wide.FinOn
import HandS.ForMost
import HandS.ForExc
import HandS.Wide
import HandS.Defaults
import HandS.CallSlots
import HandS.ExcInit
import HandS.ExcIs
import HandS.ExcField
import HandS.TryMany
import HandS.Small
import HandS.Text
import KE.KExcIs
import HandS.More
import HandS.IsInst
import HandS.Style
import PySem.Challenge.RW_numberbench_k33_forms
set_option linter.all false
/-! MCore: values as trees, a frame's slots and its mutable cells; what an expression, a statement is to reach (no program, no heap). -/
namespace NB
open PySem

inductive R where
  | non | bl (b : Bool) | int (i : Int) | str (s : Str)
  | tup (xs : List R) | lst (xs : List R)
  | cell (k : Nat)
  | scr (xs : List R)
  | exn (a d : Nat) (c : String) (fs : List (String × R))

inductive Ct where
  | lst (xs : List R)
  | box (n : Nat)
  | dct (kvs : List (Sum Int Str × R))
  | dead

abbrev Cs := List Ct
abbrev Gm := List (Option R)
abbrev Qe := R → Cs → Prop
abbrev ME := Gm → Cs → Qe → Prop
abbrev MA := Gm → Cs → (List R → Cs → Prop) → Prop
abbrev MT := Gm → Cs → (Bool → Cs → Prop) → Prop
/-- what is wanted of an exception -/
abbrev MX := String → List (String × R) → Cs → Prop
structure MEnds where
  nx : Gm → Cs → Prop
  rt : Qe
  bk : Gm → Cs → Prop := fun _ _ => False
  ct : Gm → Cs → Prop := fun _ _ => False
abbrev MS := MEnds → Gm → Cs → Prop

/-! ### expressions -/
def mVar (i : Nat) : ME := fun Γ C Q => match Γ[i]? with
  | some (some r) => Q r C
  | _ => False
def mC (r : R) : ME := fun _ C Q => Q r C
def mNil : MA := fun _ C Q => Q [] C
def mCons (m : ME) (a : MA) : MA := fun Γ C Q => m Γ C fun x C1 => a Γ C1 fun xs C2 => Q (x :: xs) C2
def mOp (o : R → R → Cs → Qe → Prop) (a b : ME) : ME := fun Γ C Q => a Γ C fun x C1 => b Γ C1 fun y C2 => o x y C2 Q
def mUn (o : R → Cs → Qe → Prop) (a : ME) : ME := fun Γ C Q => a Γ C fun x C1 => o x C1 Q
/-- by the whole argument list -/
def mFn (o : List R → Cs → Qe → Prop) (a : MA) : ME := fun Γ C Q => a Γ C fun xs C1 => o xs C1 Q
def mVal (a : ME) : MT := fun Γ C Q => a Γ C fun x C1 => match x with
  | .bl b => Q b C1
  | _ => False
def mIfE (c : MT) (a b : ME) : ME := fun Γ C Q => c Γ C fun k C1 => if k = true then a Γ C1 Q else b Γ C1 Q
def mAndT (c d : MT) : MT := fun Γ C Q => c Γ C fun k C1 => if k = true then d Γ C1 Q else Q false C1
def mOrT (c d : MT) : MT := fun Γ C Q => c Γ C fun k C1 => if k = true then Q true C1 else d Γ C1 Q
def mNotT (c : MT) : MT := fun Γ C Q => c Γ C fun k C1 => Q (!k) C1
def mAndE (a b : ME) : ME := fun Γ C Q => a Γ C fun x C1 => match x with
  | .bl k => if k = true then b Γ C1 Q else Q (.bl false) C1
  | _ => False
def mOrE (a b : ME) : ME := fun Γ C Q => a Γ C fun x C1 => match x with
  | .bl k => if k = true then Q (.bl true) C1 else b Γ C1 Q
  | _ => False
def mNotE (a : ME) : ME := fun Γ C Q => a Γ C fun x C1 => match x with
  | .bl k => Q (.bl (!k)) C1
  | _ => False
def mTup (a : MA) : ME := fun Γ C Q => a Γ C fun xs C1 => xs.length ≤ 16777216 ∧ Q (.tup xs) C1
/-- a new list: frozen, or a cell -/
def newL (cell : Bool) (xs : List R) (C : Cs) (Q : Qe) : Prop := match cell with
  | true => Q (.cell C.length) (C ++ [.lst xs])
  | false => Q (.lst xs) C
def mLst (cell : Bool) (a : MA) : ME := fun Γ C Q => a Γ C fun xs C1 => xs.length ≤ 16777216 ∧ newL cell xs C1 Q

/-- the items of a list that is read -/
def lstOf (C : Cs) : R → Option (List R)
  | .lst xs => some xs
  | .scr xs => some xs
  | .cell k => match C[k]? with
    | some (.lst xs) => some xs
    | _ => none
  | _ => none

/-! ### operators on values -/
def Sz (i : Int) : Prop := i.natAbs < 2 ^ 400000
def Sd (i : Int) : Prop := i.natAbs < 2 ^ 9000
def oAdd (x y : R) (C : Cs) (Q : Qe) : Prop := match x, y with
  | .int i, .int j => Q (.int (i + j)) C
  | _, _ => False
def oSub (x y : R) (C : Cs) (Q : Qe) : Prop := match x, y with
  | .int i, .int j => Q (.int (i - j)) C
  | _, _ => False
def oMul (x y : R) (C : Cs) (Q : Qe) : Prop := match x, y with
  | .int i, .int j => (Sz i ∧ Sz j) ∧ Q (.int (i * j)) C
  | _, _ => False
def oDiv (x y : R) (C : Cs) (Q : Qe) : Prop := match x, y with
  | .int i, .int j => (0 < j ∧ Sd j) ∧ Q (.int (i / j)) C
  | _, _ => False
def oMod (x y : R) (C : Cs) (Q : Qe) : Prop := match x, y with
  | .int i, .int j => 0 < j ∧ Q (.int (i % j)) C
  | _, _ => False
def oPow (x y : R) (C : Cs) (Q : Qe) : Prop := match x, y with
  | .int i, .int j => (0 ≤ j ∧ j ≤ 1000000 ∧ i.natAbs < 2 ^ 64) ∧ Q (.int (i ^ j.toNat)) C
  | _, _ => False
def oShl (x y : R) (C : Cs) (Q : Qe) : Prop := match x, y with
  | .int i, .int j => (0 ≤ j ∧ j ≤ 1000000 ∧ i.natAbs < 2 ^ 64) ∧ Q (.int (i * 2 ^ j.toNat)) C
  | _, _ => False
def oShr (x y : R) (C : Cs) (Q : Qe) : Prop := match x, y with
  | .int i, .int j => 0 ≤ j ∧ Q (.int (i / 2 ^ j.toNat)) C
  | _, _ => False
def oNeg (x : R) (C : Cs) (Q : Qe) : Prop := match x with
  | .int i => Q (.int (-i)) C
  | _ => False
def oCmp (p : Int → Int → Bool) (x y : R) (C : Cs) (Q : Qe) : Prop := match x, y with
  | .int i, .int j => Q (.bl (p i j)) C
  | _, _ => False
abbrev oLt := oCmp fun i j => decide (i < j)
abbrev oLe := oCmp fun i j => decide (i ≤ j)
abbrev oGt := oCmp fun i j => decide (j < i)
abbrev oGe := oCmp fun i j => decide (j ≤ i)

/-! ### statements -/
def mNext : MS := fun D Γ C => D.nx Γ C
def mSeq (s t : MS) : MS := fun D Γ C => s { D with nx := t D } Γ C
def mBreak : MS := fun D Γ C => D.bk Γ C
def mCont : MS := fun D Γ C => D.ct Γ C
def mDrop (e : ME) : MS := fun D Γ C => e Γ C fun _ C1 => D.nx Γ C1
def mRet (e : ME) : MS := fun D Γ C => e Γ C D.rt
def mRetN : MS := fun D _ C => D.rt .non C
def mIfS (c : MT) (s t : MS) : MS := fun D Γ C => c Γ C fun k C1 => if k = true then s D Γ C1 else t D Γ C1
/-- a target -/
abbrev MG := R → Gm → Cs → (Gm → Cs → Prop) → Prop
abbrev MGs := List R → Gm → Cs → (Gm → Cs → Prop) → Prop
def gNm (i : Nat) : MG := fun r Γ C Q => Q (Γ.set i (some r)) C
def gNl : MGs := fun rs Γ C Q => match rs with
  | [] => Q Γ C
  | _ => False
def gCn (g : MG) (h : MGs) : MGs := fun rs Γ C Q => match rs with
  | r :: t => g r Γ C fun Γ1 C1 => h t Γ1 C1 Q
  | _ => False
/-- a tuple's places -/
def gTp (g : MGs) : MG := fun r Γ C Q => match r with
  | .tup xs => g xs Γ C Q
  | _ => False
/-- a list's places -/
def gLs (g : MGs) : MG := fun r Γ C Q => match lstOf C r with
  | some xs => g xs Γ C Q
  | _ => False
/-- (a, b) = a tuple or a list with n items -/
def gTq (n : Nat) (g : MGs) : MG := gTp fun xs Γ C Q => xs.length = n ∧ g xs Γ C Q
def gSq (n : Nat) (g : MGs) : MG := fun r Γ C Q => match r with
  | .tup xs => xs.length = n ∧ g xs Γ C Q
  | r => match lstOf C r with
    | some xs => xs.length = n ∧ g xs Γ C Q
    | none => False
/-- what is never reached -/
def mNever : ME := fun _ _ _ => False
def mNeverS : MS := fun _ _ _ => False
def mNeverT : MT := fun _ _ _ => False
/-- a new dict: {}, {k: e} -/
def mDct0 : ME := fun _ C Q => Q (.cell C.length) (C ++ [.dct []])
def mDct1 (k : String) (e : ME) : ME := fun Γ C Q => e Γ C fun r C1 => Q (.cell C1.length) (C1 ++ [.dct [(.inr (Str.ofString k), r)]])
def mAsg (e : ME) (g : MG) : MS := fun D Γ C => e Γ C fun r C1 => g r Γ C1 D.nx
def mPar (i j : Nat) (a : MA) : MS := fun D Γ C => a Γ C fun rs C1 => match rs with
  | [v, w] => D.nx ((Γ.set i (some v)).set j (some w)) C1
  | _ => False
def mAug (i : Nat) (o : R → R → Cs → Qe → Prop) (e : ME) : MS := fun D Γ C => match Γ[i]? with
  | some (some x) => e Γ C fun y C1 => o x y C1 fun z C2 => D.nx (Γ.set i (some z)) C2
  | _ => False

/-! ### what is forgotten -/
mutual
def okR (n : Nat) : R → Prop
  | .cell k => k < n
  | .tup xs => okL n xs
  | .lst xs => okL n xs
  | .scr xs => okL n xs
  | .exn _ _ _ fs => okF n fs
  | _ => True
def okL (n : Nat) : List R → Prop
  | [] => True
  | x :: xs => okR n x ∧ okL n xs
def okF (n : Nat) : List (String × R) → Prop
  | [] => True
  | x :: xs => okR n x.2 ∧ okF n xs
end
def okG (n : Nat) : Gm → Prop
  | [] => True
  | none :: g => okG n g
  | some r :: g => okR n r ∧ okG n g
def okC (n : Nat) : Cs → Prop
  | [] => True
  | .lst xs :: C => okL n xs ∧ okC n C
  | .dct kvs :: C => okL n (kvs.map (·.2)) ∧ okC n C
  | _ :: C => okC n C
/-- Γ' knows no more than Γ -/
def subG : Gm → Gm → Prop
  | [], [] => True
  | none :: a, _ :: b => subG a b
  | some r :: a, s :: b => s = some r ∧ subG a b
  | _, _ => False
/-! ### loops -/
def whileN (c : MT) (b : MS) (D : MEnds) : Nat → Gm → Cs → Prop
  | 0, _, _ => False
  | n + 1, Γ, C => c Γ C fun k C1 => if k = true then b { D with nx := whileN c b D n, ct := whileN c b D n, bk := D.nx } Γ C1 else D.nx Γ C1
def mWhile (c : MT) (b : MS) : MS := fun D Γ C => ∃ n, whileN c b D n Γ C
/-- for over items that stand -/
def forL (g : MG) (b : MS) (D : MEnds) : List R → Gm → Cs → Prop
  | [], Γ, C => D.nx Γ C
  | x :: xs, Γ, C => g x Γ C fun Γ1 C1 => b { D with nx := forL g b D xs, ct := forL g b D xs, bk := D.nx } Γ1 C1
/-- what is walked: the items -/
abbrev MI := Gm → Cs → (List R → Cs → Prop) → Prop
def mFor (it : MI) (g : MG) (b : MS) : MS := fun D Γ C => it Γ C fun xs C1 => forL g b D xs Γ C1
def upto (lo : Int) : Nat → List R
  | 0 => []
  | n + 1 => .int lo :: upto (lo + 1) n
/-- between two turns: cells beyond n and slots are let go -/
def cutK (n0 : Nat) (K : Gm → Cs → Prop) (Γ : Gm) (C : Cs) : Prop := ∃ n Γ', n0 ≤ n ∧ subG Γ' Γ ∧ okG n Γ' ∧ okC n (C.take n) ∧ K Γ' (C.take n)
def forK (n0 : Nat) (g : MG) (b : MS) (D : MEnds) : List R → Gm → Cs → Prop
  | [], Γ, C => D.nx Γ C
  | x :: xs, Γ, C => g x Γ C fun Γ1 C1 => b { D with nx := cutK n0 (forK n0 g b D xs), ct := cutK n0 (forK n0 g b D xs), bk := D.nx } Γ1 C1
def mForK (it : MI) (g : MG) (b : MS) : MS := fun D Γ C => it Γ C fun xs C1 => forK C1.length g b D xs Γ C1
def iSeqL (e : ME) : MI := fun Γ C Q => e Γ C fun r C1 => match r with
  | .lst xs => Q xs C1
  | .scr xs => Q xs C1
  | _ => False
def iSeqT (e : ME) : MI := fun Γ C Q => e Γ C fun r C1 => match r with
  | .tup xs => Q xs C1
  | _ => False
def iRg1 (a : MA) : MI := fun Γ C Q => a Γ C fun rs C1 => match rs with
  | [.int j] => (-(2 ^ 62) ≤ j ∧ j < 2 ^ 62) ∧ Q (upto 0 j.toNat) C1
  | _ => False
def iRg2 (a : MA) : MI := fun Γ C Q => a Γ C fun rs C1 => match rs with
  | [.int i, .int j] => (-(2 ^ 62) ≤ i ∧ i < 2 ^ 62 ∧ -(2 ^ 62) ≤ j ∧ j < 2 ^ 62) ∧ Q (upto i (j - i).toNat) C1
  | _ => False
/-- a comprehension: the items, the tests, the element -/
def compL (g : MG) (t : MT) (e : ME) (Q : List R → Cs → Prop) (Γ : Gm) : List R → List R → Cs → Prop
  | [], acc, C => Q acc C
  | x :: xs, acc, C => acc.length < 16777216 ∧ g x Γ C fun Γ1 C1 => t Γ1 C1 fun k C2 => if k = true then e Γ1 C2 fun y C3 => compL g t e Q Γ xs (acc ++ [y]) C3 else compL g t e Q Γ xs acc C2
def mYes : MT := fun _ C Q => Q true C
def wipeM (Γ : Gm) : List Nat → Gm
  | [] => Γ
  | i :: t => (wipeM Γ t).set i none
def mComp (cell : Bool) (it : MI) (g : MG) (t : MT) (e : ME) (own : List Nat) : ME := fun Γ C Q => it Γ C fun xs C1 =>
  compL g t e (fun ys C2 => newL cell ys C2 Q) (wipeM Γ own) xs [] C1

/-! ### calls of defs -/
/-- what a def does: the arguments, the cells, the answer, the exception -/
abbrev Wt := List R → Cs → Qe → MX → Prop
def mCall (w : Wt) (ex : Gm → MX) (a : MA) : ME := fun Γ C Q => a Γ C fun rs C1 => w rs C1 Q (ex Γ)
/-- raise c(e), c's one field f -/
def mRaise (c f : String) (ex : Gm → MX) (e : ME) : MS := fun _ Γ C => e Γ C fun r C1 => ex Γ c [(f, r)] C1
def start (n : Nat) (rs : List R) : Gm := rs.map some ++ List.replicate (n - rs.length) none
abbrev noX : MX := fun _ _ _ => False

/-! ### sequences -/
def seqOf (C : Cs) : R → Option (List R)
  | .tup xs => some xs
  | r => lstOf C r
def ixM (n : Nat) (i : Int) : Option Nat := if 0 ≤ i then (if i < n then some i.toNat else none) else if -(n : Int) ≤ i then some (i + n).toNat else none
def atM {α : Type} (xs : List α) (i : Int) : Option α := (ixM xs.length i).bind fun j => xs[j]?
def oIx (x y : R) (C : Cs) (Q : Qe) : Prop := match x, y with
  | .str z, .int i => match atM z.cps.toList i with
    | some c => z.length ≤ 16777216 ∧ Q (.str ⟨#[c]⟩) C
    | none => False
  | x, .int i => match seqOf C x with
    | some xs => match atM xs i with
      | some r => Q r C
      | none => False
    | none => False
  | _, _ => False
def sIxM (n d : Nat) : Option Int → Nat
  | none => d
  | some i => if i < 0 then (i + (n : Int)).toNat else min i.toNat n
def cutM {α : Type} (xs : List α) (lo hi : Option Int) : List α := (xs.drop (sIxM xs.length 0 lo)).take (sIxM xs.length xs.length hi - sIxM xs.length 0 lo)
/-- an optional part of a slice -/
abbrev MO := Gm → Cs → (Option Int → Cs → Prop) → Prop
def mO0 : MO := fun _ C Q => Q none C
def mO1 (e : ME) : MO := fun Γ C Q => e Γ C fun r C1 => match r with
  | .int i => Q (some i) C1
  | _ => False
def mSl (cell : Bool) (a : ME) (l u : MO) : ME := fun Γ C Q => a Γ C fun x C1 => l Γ C1 fun i C2 => u Γ C2 fun j C3 => match x with
  | .tup xs => ¬ (sIxM xs.length 0 i = 0 ∧ sIxM xs.length xs.length j = xs.length) ∧ Q (.tup (cutM xs i j)) C3
  | .str z => z.length ≤ 16777216 ∧ Q (.str ⟨(cutM z.cps.toList i j).toArray⟩) C3
  | x => match lstOf C3 x with
    | some xs => newL cell (cutM xs i j) C3 Q
    | none => False
def mRevL (cell : Bool) (e : ME) : ME := fun Γ C Q => e Γ C fun x C1 => match lstOf C1 x with
  | some xs => newL cell xs.reverse C1 Q
  | none => False
def mPar3 (i j l : Nat) (a : MA) : MS := fun D Γ C => a Γ C fun rs C1 => match rs with
  | [u, v, w] => D.nx (((Γ.set i (some u)).set j (some v)).set l (some w)) C1
  | _ => False
def fLen (xs : List R) (C : Cs) (Q : Qe) : Prop := match xs with
  | [.str z] => z.length ≤ 16777216 ∧ Q (.int z.length) C
  | [.cell k] => match C[k]? with
    | some (.lst ys) => Q (.int ys.length) C
    | some (.dct ys) => Q (.int ys.length) C
    | _ => False
  | [x] => match seqOf C x with
    | some ys => Q (.int ys.length) C
    | none => False
  | _ => False
def fAbs (xs : List R) (C : Cs) (Q : Qe) : Prop := match xs with
  | [.int i] => Q (.int (if i < 0 then -i else i)) C
  | _ => False
def fMax2 (xs : List R) (C : Cs) (Q : Qe) : Prop := match xs with
  | [.int i, .int j] => Q (.int (if j > i then j else i)) C
  | _ => False
def fMin2 (xs : List R) (C : Cs) (Q : Qe) : Prop := match xs with
  | [.int i, .int j] => Q (.int (if j < i then j else i)) C
  | _ => False
def fInt (xs : List R) (C : Cs) (Q : Qe) : Prop := match xs with
  | [.int i] => Q (.int i) C
  | [.bl b] => Q (.int (if b then 1 else 0)) C
  | _ => False
def fList (cell : Bool) (xs : List R) (C : Cs) (Q : Qe) : Prop := match xs with
  | [x] => match seqOf C x with
    | some ys => newL cell ys C Q
    | none => False
  | _ => False
def fTuple (xs : List R) (C : Cs) (Q : Qe) : Prop := match xs with
  | [.tup ys] => Q (.tup ys) C
  | [x] => match lstOf C x with
    | some ys => Q (.tup ys) C
    | none => False
  | _ => False
def intsOf : List R → Option (List Int)
  | [] => some []
  | .int i :: t => (intsOf t).map (i :: ·)
  | _ => none
def blsOf : List R → Option (List Bool)
  | [] => some []
  | .bl i :: t => (blsOf t).map (i :: ·)
  | _ => none
def fSum (xs : List R) (C : Cs) (Q : Qe) : Prop := match xs with
  | [x] => match (lstOf C x).bind intsOf with
    | some ns => Q (.int ns.sum) C
    | none => False
  | _ => False
def fMaxL (xs : List R) (C : Cs) (Q : Qe) : Prop := match xs with
  | [x] => match (lstOf C x).bind intsOf with
    | some ns => 0 < ns.length ∧ ∀ m, m ∈ ns → (∀ y, y ∈ ns → y ≤ m) → Q (.int m) C
    | none => False
  | _ => False
def fMinL (xs : List R) (C : Cs) (Q : Qe) : Prop := match xs with
  | [x] => match (lstOf C x).bind intsOf with
    | some ns => 0 < ns.length ∧ ∀ m, m ∈ ns → (∀ y, y ∈ ns → m ≤ y) → Q (.int m) C
    | none => False
  | _ => False
def fAll (xs : List R) (C : Cs) (Q : Qe) : Prop := match xs with
  | [x] => match (lstOf C x).bind blsOf with
    | some ns => Q (.bl (ns.all id)) C
    | none => False
  | _ => False
def fAny (xs : List R) (C : Cs) (Q : Qe) : Prop := match xs with
  | [x] => match (lstOf C x).bind blsOf with
    | some ns => Q (.bl (ns.any id)) C
    | none => False
  | _ => False
def fSorted (cell : Bool) (xs : List R) (C : Cs) (Q : Qe) : Prop := match xs with
  | [x] => match (lstOf C x).bind intsOf with
    | some ns => ∀ ns' : List Int, ns'.Perm ns → ns'.Pairwise (· ≤ ·) → newL cell (ns'.map .int) C Q
    | none => False
  | _ => False
/-- xs + ys of lists -/
def oCat (cell : Bool) (x y : R) (C : Cs) (Q : Qe) : Prop := match x, y with
  | .scr _, _ => False
  | _, .scr _ => False
  | x, y => match lstOf C x, lstOf C y with
    | some xs, some ys => xs.length + ys.length ≤ 16777216 ∧ newL cell (xs ++ ys) C Q
    | _, _ => False
/-- a + b, a * b of any -/
def oPlus (cell : Bool) (x y : R) (C : Cs) (Q : Qe) : Prop := match x, y with
  | .int i, .int j => Q (.int (i + j)) C
  | .str i, .str j => i.length + j.length ≤ 16777216 ∧ Q (.str (i ++ j)) C
  | .tup xs, .tup ys => (xs ≠ [] ∧ xs.length + ys.length ≤ 16777216) ∧ Q (.tup (xs ++ ys)) C
  | x, y => oCat cell x y C Q
def oRep (cell : Bool) (x y : R) (C : Cs) (Q : Qe) : Prop := match x, y with
  | .scr _, _ => False
  | x, .int k => match lstOf C x with
    | some xs => (-(2 ^ 63) ≤ k ∧ k < 2 ^ 63 ∧ xs.length * k.toNat ≤ 16777216) ∧ newL cell (List.replicate k.toNat xs).flatten C Q
    | none => False
  | _, _ => False
def oTimes (cell : Bool) (x y : R) (C : Cs) (Q : Qe) : Prop := match x, y with
  | .int i, .int j => (Sz i ∧ Sz j) ∧ Q (.int (i * j)) C
  | x, y => oRep cell x y C Q
/-- the type's name, where isinstance asks a built-in class -/
def tyOf (C : Cs) : R → Option String
  | .non => some "NoneType"
  | .bl _ => some "bool"
  | .int _ => some "int"
  | .str _ => some "str"
  | .tup _ => some "tuple"
  | .lst _ => some "list"
  | .cell k => match C[k]? with
    | some (.lst _) => some "list"
    | some (.dct _) => some "dict"
    | _ => none
  | _ => none
def isiM (t c : String) : Option Bool := if t = c then some true else if t = "bool" ∧ c = "int" then some true else some false
/-- isinstance(x, c), c a built-in class -/
def fIsi (c : String) (xs : List R) (C : Cs) (Q : Qe) : Prop := match xs with
  | [x] => match tyOf C x with
    | some t => match isiM t c with
      | some b => Q (.bl b) C
      | none => False
    | none => False
  | _ => False
/-- x is None -/
def oIsN (x y : R) (C : Cs) (Q : Qe) : Prop := match y with
  | .non => Q (.bl (match x with
    | .non => true
    | _ => false)) C
  | _ => False
def oIsNotN (x y : R) (C : Cs) (Q : Qe) : Prop := match y with
  | .non => Q (.bl (match x with
    | .non => false
    | _ => true)) C
  | _ => False
/-- x is True, both bools -/
def oIsB (x y : R) (C : Cs) (Q : Qe) : Prop := match x, y with
  | .bl a, .bl b => Q (.bl (decide (a = b))) C
  | _, _ => False
def oIsNotB (x y : R) (C : Cs) (Q : Qe) : Prop := match x, y with
  | .bl a, .bl b => Q (.bl (!decide (a = b))) C
  | _, _ => False
/-! ### == of data -/
mutual
def eqR : R → R → Bool
  | .non, .non => true
  | .bl a, .bl b => a == b
  | .bl a, .int j => (if a then 1 else 0) == j
  | .int i, .bl b => i == (if b then 1 else 0)
  | .int i, .int j => i == j
  | .str x, .str y => decide (x.cps = y.cps)
  | .lst xs, .lst ys => eqRs xs ys
  | .tup xs, .tup ys => eqRs xs ys
  | _, _ => false
def eqRs : List R → List R → Bool
  | [], [] => true
  | x :: xs, y :: ys => eqR x y && eqRs xs ys
  | _, _ => false
end
/-- the tree of data behind a value, its lists looked up n deep -/
def resN : Nat → Cs → R → Option R
  | 0, _, _ => none
  | n + 1, C, r => match r with
    | .non => some .non
    | .bl b => some (.bl b)
    | .int i => some (.int i)
    | .str z => if (z.cps.all fun c => decide (c < 0x110000)) = true then some (.str z) else none
    | .tup xs => (xs.mapM (resN n C)).map .tup
    | .lst xs => (xs.mapM (resN n C)).map .lst
    | .cell k => match C[k]? with
      | some (.lst xs) => (xs.mapM (resN n C)).map .lst
      | _ => none
    | _ => none
def oEq (x y : R) (C : Cs) (Q : Qe) : Prop := match resN 9 C x, resN 9 C y with
  | some a, some b => Q (.bl (eqR a b)) C
  | _, _ => False
def oNe (x y : R) (C : Cs) (Q : Qe) : Prop := match resN 9 C x, resN 9 C y with
  | some a, some b => Q (.bl (!eqR a b)) C
  | _, _ => False
/-- enumerate, zip of lists -/
def enumR : Nat → List R → List R
  | _, [] => []
  | n, x :: xs => .tup [.int n, x] :: enumR (n + 1) xs
def zipR : List R → List R → List R
  | x :: xs, y :: ys => .tup [x, y] :: zipR xs ys
  | _, _ => []
def iEn (a : MA) : MI := fun Γ C Q => a Γ C fun rs C1 => match rs with
  | [.lst xs] => Q (enumR 0 xs) C1
  | _ => False
def iZp (a : MA) : MI := fun Γ C Q => a Γ C fun rs C1 => match rs with
  | [.lst xs, .lst ys] => Q (zipR xs ys) C1
  | _ => False
/-- truth -/
def mTru (a : ME) : MT := fun Γ C Q => a Γ C fun x C1 => match x with
  | .non => Q false C1
  | .bl b => Q b C1
  | .int i => Q (i != 0) C1
  | .str z => z.length ≤ 16777216 ∧ Q ((z.length : Int) != 0) C1
  | x => match seqOf C1 x with
    | some xs => Q (!xs.isEmpty) C1
    | none => False
/-- one of the arguments, the keywords' values, the defaults, by places -/
def perm {α : Type} (π : List Nat) (l : List α) : List α := π.filterMap (l[·]?)
def mCall0 (w : Wt) (ex : Gm → MX) : ME := fun Γ C Q => w [] C Q (ex Γ)
def mCallD (w : Wt) (ex : Gm → MX) (ds : List R) (a : MA) : ME := fun Γ C Q => a Γ C fun rs C1 => w (rs ++ ds) C1 Q (ex Γ)
def mCallK (w : Wt) (ex : Gm → MX) (j k : Nat) (π : List Nat) (a ak : MA) : ME := fun Γ C Q => a Γ C fun rs C1 => ak Γ C1 fun qs C2 => rs.length = j ∧ qs.length = k ∧ w (perm π (rs ++ qs)) C2 Q (ex Γ)

/-! ### methods of cells -/
def isCl (C : Cs) : R → Prop
  | .cell k => match C[k]? with
    | some (.lst _) => True
    | _ => False
  | _ => False
def mApp (o e : ME) : ME := fun Γ C Q => o Γ C fun x C1 => isCl C1 x ∧ e Γ C1 fun r C2 => match x with
  | .cell k => match C2[k]? with
    | some (.lst xs) => xs.length < 16777216 ∧ Q .non (C2.set k (.lst (xs ++ [r])))
    | _ => False
  | _ => False
def mPopAt (o e : ME) : ME := fun Γ C Q => o Γ C fun x C1 => isCl C1 x ∧ e Γ C1 fun r C2 => match x, r with
  | .cell k, .int i => match C2[k]? with
    | some (.lst xs) => (-(2 ^ 63) ≤ i ∧ i < 2 ^ 63) ∧ match ixM xs.length i with
      | some j => match xs[j]? with
        | some y => Q y (C2.set k (.lst (xs.eraseIdx j)))
        | none => False
      | none => False
    | _ => False
  | _, _ => False
def mPop (o : ME) : ME := fun Γ C Q => o Γ C fun x C1 => match x with
  | .cell k => match C1[k]? with
    | some (.lst xs) => match xs[xs.length - 1]? with
      | some y => Q y (C1.set k (.lst xs.dropLast))
      | none => False
    | _ => False
  | _ => False
def mRev (o : ME) : ME := fun Γ C Q => o Γ C fun x C1 => match x with
  | .cell k => match C1[k]? with
    | some (.lst xs) => Q .non (C1.set k (.lst xs.reverse))
    | _ => False
  | _ => False
def mIns (o i e : ME) : ME := fun Γ C Q => o Γ C fun x C1 => isCl C1 x ∧ i Γ C1 fun n C2 => e Γ C2 fun r C3 => match x, n with
  | .cell k, .int n => match C3[k]? with
    | some (.lst xs) => (xs.length < 16777216 ∧ 0 ≤ n ∧ n < 2 ^ 63) ∧ Q .non (C3.set k (.lst (xs.take n.toNat ++ [r] ++ xs.drop n.toNat)))
    | _ => False
  | _, _ => False
/-- o[i] = .. of a cell -/
def gIx (o i : ME) : MG := fun r Γ C Q => o Γ C fun x C1 => i Γ C1 fun y C2 => match x, y with
  | .cell k, .int n => match C2[k]? with
    | some (.lst xs) => match ixM xs.length n with
      | some j => Q Γ (C2.set k (.lst (xs.set j r)))
      | none => False
    | _ => False
  | _, _ => False
/-- the list in slot i, a cell, is frozen ahead of a statement -/
def mIce (i : Nat) (s : MS) : MS := fun D Γ C => match Γ[i]? with
  | some (some (.cell k)) => match C[k]? with
    | some (.lst xs) => s D (Γ.set i (some (.lst xs))) (C.set k .dead)
    | _ => False
  | _ => False
/-! ### exceptions that are caught -/
/-- the handlers of a try: the class, the slot of the name, the suite -/
structure Hdr where
  c : String
  i : Nat
  s : Nat → Nat → String → MS
def dispM (sub : String → String → Bool) (ex : Gm → MX) (De : MEnds) : List Hdr → Gm → MX
  | [], Γ, c1, fs, C1 => ex Γ c1 fs C1
  | h :: t, Γ, c1, fs, C1 => if sub c1 h.c = true then ∀ a d, h.s a d c1 { nx := fun Γ2 C2 => De.nx (Γ2.set h.i none) C2, rt := De.rt, bk := fun Γ2 C2 => De.bk (Γ2.set h.i none) C2, ct := fun Γ2 C2 => De.ct (Γ2.set h.i none) C2 } (Γ.set h.i (some (.exn a d c1 fs))) C1 else dispM sub ex De t Γ c1 fs C1
/-- kn: the classes that are known, sub: the one is the other or under it -/
def mTry (kn : List String) (sub : String → String → Bool) (b : (Gm → MX) → MS) (hs : List Hdr) (ex : Gm → MX) : MS := fun De Γ C => b (fun Γ1 c1 fs C1 => c1 ∈ kn ∧ dispM sub ex De hs Γ1 c1 fs C1) De Γ C
def mExF (a d : Nat) (c f : String) (e : ME) : ME := fun Γ C Q => e Γ C fun r C1 => match r with
  | .exn a1 d1 c1 fs => (a1 = a ∧ d1 = d ∧ c1 = c) ∧ match fs.lookup f with
    | some x => Q x C1
    | none => False
  | _ => False
/-- isinstance(e, c2), e the caught exception -/
def mExI (sub : String → String → Bool) (a d : Nat) (c c2 : String) (e : ME) : ME := fun Γ C Q => e Γ C fun r C1 => match r with
  | .exn a1 d1 c1 _ => (a1 = a ∧ d1 = d ∧ c1 = c) ∧ Q (.bl (sub c c2)) C1
  | _ => False
/-- a def's end: cells beyond n are let go -/
def endD (n0 : Nat) (Q : Qe) : Qe := fun r C => Q r C ∨ ∃ n, n0 ≤ n ∧ okR n r ∧ okC n (C.take n) ∧ Q r (C.take n)
def endX (n0 : Nat) (E : MX) : MX := fun c fs C => E c fs C ∨ ∃ n, n0 ≤ n ∧ okF n fs ∧ okC n (C.take n) ∧ E c fs (C.take n)
/-- a def's body m keeps w: N names -/
def Keeps (N : Nat) (m : (Gm → MX) → MS) (n : Nat) (w : Wt) : Prop := ∀ (rs : List R) (C : Cs) (Q : Qe) (E : MX), rs.length = n → w rs C Q E →
  m (fun _ => endX C.length E) { nx := fun _ C' => endD C.length Q .non C', rt := endD C.length Q } (start N rs) C
/-- what a box holds -/
def BoxAt (a c d : Int) (n : Nat) : Prop := 0 ≤ a ∧ 0 ≤ c ∧ c < 2147483648 ∧ 0 ≤ d ∧ d ≤ n
/-- C2 is C with some of its lists taken as boxes -/
def boxed (k : Nat) (n : Nat) (C : Cs) : Prop := ∃ a b c d, C[k]? = some (.lst [.int a, .bl b, .int c, .int d]) ∧ BoxAt a c d n
/-- the box in slot i is opened for s, and shut where s returns -/
def mUnb (i : Nat) (s : MS) : MS := fun D Γ C => match Γ[i]? with
  | some (some (.cell k)) => match C[k]? with
    | some (.box n) => ∀ a b c d, BoxAt a c d n → s { nx := fun _ _ => False, rt := fun r C' => ∃ n', boxed k n' C' ∧ D.rt r (C'.set k (.box n')) } Γ (C.set k (.lst [.int a, .bl b, .int c, .int d]))
    | _ => False
  | _ => False
/-- a returned list is taken as a box -/
def mBox (n : Nat) (s : MS) : MS := fun D Γ C => s { nx := fun _ _ => False, rt := fun r C' => match r with
  | .cell k => boxed k n C' ∧ D.rt r (C'.set k (.box n))
  | _ => False } Γ C
/-- cells beyond n and slots are forgotten ahead of a statement -/
def mCut (n : Nat) (f : Gm → Gm) (s : MS) : MS := fun D Γ C => subG (f Γ) Γ ∧ okG n (f Γ) ∧ okC n (C.take n) ∧ s D (f Γ) (C.take n)
def prevW (WS : Nat → Wt) : Nat → Wt
  | 0 => fun _ _ _ _ => False
  | n + 1 => WS n
def mChain (o o' : R → R → Cs → Qe → Prop) (a b c : ME) : ME := fun Γ C Q => a Γ C fun x C1 => b Γ C1 fun y C2 => o x y C2 fun z C3 => match z with
  | .bl k => if k = true then c Γ C3 fun w C4 => o' y w C4 Q else Q (.bl false) C3
  | _ => False
end NB

set_option Elab.async false
set_option linter.all false
set_option maxRecDepth 100000
set_option maxHeartbeats 1000000
namespace NB
open PySem PySem.Spec L2

/-! ### the ghost: what is frozen, where the cells are, the exception of a suite -/
structure Wd where
  G : Hp
  ps : List Addr

section
variable (K : PySem.W.Frag) (S : Wd)
mutual
inductive D : V → R → Prop
  | non : D .non .non
  | bl (b : Bool) : D (.bl b) (.bl b)
  | int (i : Int) : D (.int i) (.int i)
  | str (z : Str) : D (.str z) (.str z)
  | tup {a : Addr} {vs : List V} {rs : List R} (h : SqT K S.G a vs) (t : DL vs rs) : D (.ref a) (.tup rs)
  | lst {a : Addr} {vs : List V} {rs : List R} (h : S.G a = some (.lst vs)) (t : DL vs rs) : D (.ref a) (.lst rs)
  | scr {a : Addr} {vs : List V} {rs : List R} (h : SqL K S.G a vs) (t : DL vs rs) : D (.ref a) (.scr rs)
  | cell {a : Addr} {k : Nat} (h : S.ps[k]? = some a) : D (.ref a) (.cell k)
  | exn {a d : Addr} {c : String} {fv : List (Str × V)} {fs : List (String × R)} (hd : S.G d = some (.xd fv)) (t : DF fv fs) : D (.ref a) (.exn a d c fs)
inductive DL : List V → List R → Prop
  | nil : DL [] []
  | cons {v : V} {vs : List V} {r : R} {rs : List R} (h : D v r) (t : DL vs rs) : DL (v :: vs) (r :: rs)
inductive DF : List (Str × V) → List (String × R) → Prop
  | nil : DF [] []
  | cons {x : String} {v : V} {vs : List (Str × V)} {r : R} {rs : List (String × R)} (h : D v r) (t : DF vs rs) : DF ((Str.ofString x, v) :: vs) ((x, r) :: rs)
end
end

/-- the world goes on -/
structure Le (S : Wd) (H : Hp) (S' : Wd) (H' : Hp) : Prop where
  g : ∀ b o, S.G b = some o → S'.G b = some o
  ps : ∀ (k : Nat) p, S.ps[k]? = some p → S'.ps[k]? = some p
  fr : ∀ b o, H b = some o → b ∉ S.ps → H' b = some o
  nw : ∀ p ∈ S'.ps, p ∈ S.ps ∨ H p = none
  gn : ∀ b o, S'.G b = some o → S.G b = some o ∨ b ∈ S.ps ∨ H b = none

section
variable {K : PySem.W.Frag} {S S' S1 S2 : Wd} {H H' H1 H2 : Hp}
theorem Le.refl (S : Wd) (H : Hp) : Le S H S H := ⟨fun _ _ h => h, fun _ _ h => h, fun _ _ h _ => h, fun _ h => .inl h, fun _ _ h => .inl h⟩
theorem Le.trans (a : Le S H S1 H1) (b : Le S1 H1 S2 H2) : Le S H S2 H2 where
  g := fun c o h => b.g c o (a.g c o h)
  ps := fun k p h => b.ps k p (a.ps k p h)
  fr := fun c o h n => b.fr c o (a.fr c o h n) fun m => (a.nw c m).elim n fun z => by rw [h] at z; cases z
  nw := fun p m => by
    rcases b.nw p m with h | h
    · exact a.nw p h
    · by_cases hp : p ∈ S.ps
      · exact .inl hp
      · refine .inr ?_
        cases e : H p with
        | none => rfl
        | some o =>
          have := a.fr p o e hp
          rw [h] at this
          cases this
  gn := fun c o h => by
    rcases b.gn c o h with h | h | h
    · exact a.gn c o h
    · exact .inr (a.nw c h)
    · by_cases hp : c ∈ S.ps
      · exact .inr (.inl hp)
      · refine .inr (.inr ?_)
        cases e : H c with
        | none => rfl
        | some o =>
          have := a.fr c o e hp
          rw [h] at this
          cases this
theorem rd_mono {G G' : Hp} {a : Addr} {u : HO} (h : ∀ b o, G b = some o → G' b = some o) : Rd G a u → Rd G' a u := fun r => r.elim (fun z => .inl (h _ _ z)) fun ⟨o, z⟩ => .inr ⟨o, h _ _ z⟩
theorem sqL_mono {G G' : Hp} {a : Addr} {xs : List V} (h : ∀ b o, G b = some o → G' b = some o) : SqL K G a xs → SqL K G' a xs := fun r => r.elim (fun z => .inl (rd_mono h z)) .inr
theorem sqT_mono {G G' : Hp} {a : Addr} {xs : List V} (h : ∀ b o, G b = some o → G' b = some o) : SqT K G a xs → SqT K G' a xs := fun r => r.elim (fun z => .inl (rd_mono h z)) .inr
section
variable (h : ∀ b o, S.G b = some o → S'.G b = some o) (hp : ∀ (k : Nat) p, S.ps[k]? = some p → S'.ps[k]? = some p)
include h hp
mutual
theorem D.mono' : ∀ {v : V} {r : R}, D K S v r → D K S' v r
  | _, _, .non => .non
  | _, _, .bl b => .bl b
  | _, _, .int i => .int i
  | _, _, .str z => .str z
  | _, _, .tup q t => .tup (sqT_mono h q) (DL.mono' t)
  | _, _, .lst q t => .lst (h _ _ q) (DL.mono' t)
  | _, _, .scr q t => .scr (sqL_mono h q) (DL.mono' t)
  | _, _, .cell q => .cell (hp _ _ q)
  | _, _, .exn d t => .exn (h _ _ d) (DF.mono' t)
theorem DL.mono' : ∀ {v : List V} {r : List R}, DL K S v r → DL K S' v r
  | _, _, .nil => .nil
  | _, _, .cons a t => .cons (D.mono' a) (DL.mono' t)
theorem DF.mono' : ∀ {v : List (Str × V)} {r : List (String × R)}, DF K S v r → DF K S' v r
  | _, _, .nil => .nil
  | _, _, .cons a t => .cons (D.mono' a) (DF.mono' t)
end
end
theorem D.mono (l : Le S H S' H') {v : V} {r : R} (d : D K S v r) : D K S' v r := D.mono' l.g l.ps d
theorem DL.mono (l : Le S H S' H') {v : List V} {r : List R} (d : DL K S v r) : DL K S' v r := DL.mono' l.g l.ps d
theorem DF.mono (l : Le S H S' H') {v : List (Str × V)} {r : List (String × R)} (d : DF K S v r) : DF K S' v r := DF.mono' l.g l.ps d
theorem DL.length : ∀ {v : List V} {r : List R}, DL K S v r → v.length = r.length
  | _, _, .nil => rfl
  | _, _, .cons _ t => congrArg (· + 1) (DL.length t)
theorem DL.append : ∀ {v v' : List V} {r r' : List R}, DL K S v r → DL K S v' r' → DL K S (v ++ v') (r ++ r')
  | _, _, _, _, .nil, q => q
  | _, _, _, _, .cons h t, q => .cons h (DL.append t q)
theorem DL.get : ∀ {v : List V} {r : List R} {i : Nat} {x : R}, DL K S v r → r[i]? = some x → ∃ y, v[i]? = some y ∧ D K S y x
  | _, _, 0, _, .cons h _, e => by simp at e; subst e; exact ⟨_, rfl, h⟩
  | _, _, i + 1, _, .cons _ t, e => by
    obtain ⟨y, h1, h2⟩ := DL.get (i := i) t (by simpa using e)
    exact ⟨y, by simpa using h1, h2⟩
theorem DL.get' : ∀ {v : List V} {r : List R} {i : Nat} {x : V}, DL K S v r → v[i]? = some x → ∃ y, r[i]? = some y ∧ D K S x y
  | _, _, 0, _, .cons h _, e => by simp at e; subst e; exact ⟨_, rfl, h⟩
  | _, _, i + 1, _, .cons _ t, e => by
    obtain ⟨y, h1, h2⟩ := DL.get' (i := i) t (by simpa using e)
    exact ⟨y, by simpa using h1, h2⟩
theorem DL.set : ∀ {v : List V} {r : List R} (i : Nat) {x : V} {y : R}, DL K S v r → D K S x y → DL K S (v.set i x) (r.set i y)
  | _, _, _, _, _, .nil, _ => .nil
  | _, _, 0, _, _, .cons _ t, d => .cons d t
  | _, _, i + 1, _, _, .cons h t, d => .cons h (DL.set i t d)
theorem DL.take : ∀ {v : List V} {r : List R} (i : Nat), DL K S v r → DL K S (v.take i) (r.take i)
  | _, _, 0, _ => .nil
  | _, _, _ + 1, .nil => .nil
  | _, _, i + 1, .cons h t => .cons h (DL.take i t)
theorem DL.drop : ∀ {v : List V} {r : List R} (i : Nat), DL K S v r → DL K S (v.drop i) (r.drop i)
  | _, _, 0, h => h
  | _, _, _ + 1, .nil => .nil
  | _, _, i + 1, .cons _ t => DL.drop i t
theorem DL.reverse : ∀ {v : List V} {r : List R}, DL K S v r → DL K S v.reverse r.reverse
  | _, _, .nil => .nil
  | _, _, .cons h t => by
    rw [List.reverse_cons, List.reverse_cons]
    exact (DL.reverse t).append (.cons h .nil)
theorem DL.erase : ∀ {v : List V} {r : List R} (i : Nat), DL K S v r → DL K S (v.eraseIdx i) (r.eraseIdx i)
  | _, _, _, .nil => .nil
  | _, _, 0, .cons _ t => t
  | _, _, i + 1, .cons h t => .cons h (DL.erase i t)
end

/-- what stands at a cell -/
def CtOk (K : PySem.W.Frag) (S : Wd) (H : Hp) (p : Addr) : Ct → Prop
  | .lst xs => ∃ vs, H p = some (.lst vs) ∧ DL K S vs xs
  | .box n => ∃ (a : Int) (b : Bool) (c d : Int), H p = some (.lst [.int a, .bl b, .int c, .int d]) ∧ 0 ≤ a ∧ 0 ≤ c ∧ c < 2147483648 ∧ 0 ≤ d ∧ d ≤ n
  | .dct kvs => ∃ kv : List (Key × V), H p = some (.dK kv) ∧ kv.map (·.1) = kvs.map (·.1) ∧ DL K S (kv.map (·.2)) (kvs.map (·.2))
  | .dead => ∃ o, H p = some o

structure Rep (K : PySem.W.Frag) (S : Wd) (H : Hp) (C : Cs) : Prop where
  sub : ∀ b o, S.G b = some o → H b = some o
  len : S.ps.length = C.length
  nd : S.ps.Nodup
  off : ∀ (k : Nat) p c, S.ps[k]? = some p → C[k]? = some c → c ≠ .dead → S.G p = none
  at_ : ∀ (k : Nat) p c, S.ps[k]? = some p → C[k]? = some c → CtOk K S H p c

/-- the slots -/
structure SG (K : PySem.W.Frag) (S : Wd) (σ : St) (Γ : Gm) : Prop where
  len : Γ.length = σ.length
  at_ : ∀ (i : Nat) r, Γ[i]? = some (some r) → ∃ v, σ[i]? = some (some v) ∧ D K S v r

section
variable {K : PySem.W.Frag} {S S' S1 S2 : Wd} {H H' H1 H2 : Hp} {σ : St} {Γ : Gm} {C : Cs}
theorem SG.mono (l : Le S H S' H') (g : SG K S σ Γ) : SG K S' σ Γ := ⟨g.len, fun i r h => let ⟨v, e, d⟩ := g.at_ i r h; ⟨v, e, d.mono l⟩⟩
theorem SG.set (g : SG K S σ Γ) (i : Nat) {v : V} {r : R} (d : D K S v r) : SG K S (σ.set i (some v)) (Γ.set i (some r)) := by
  refine ⟨by simp [g.len], fun j x h => ?_⟩
  rw [List.getElem?_set] at h
  rw [List.getElem?_set]
  split at h
  · rename_i e
    subst e
    split at h
    · cases h
      rw [if_pos rfl, if_pos (by rw [← g.len]; assumption)]
      exact ⟨v, rfl, d⟩
    · cases h
  · rename_i e
    rw [if_neg e]
    exact g.at_ j x h
theorem SG.wipe (g : SG K S σ Γ) (i : Nat) (z : Option V) : SG K S (σ.set i z) (Γ.set i none) := by
  refine ⟨by simp [g.len], fun j x h => ?_⟩
  rw [List.getElem?_set] at h
  rw [List.getElem?_set]
  split at h
  · split at h <;> cases h
  · rename_i e
    rw [if_neg e]
    exact g.at_ j x h
theorem SG.wipeΓ (g : SG K S σ Γ) (i : Nat) : SG K S σ (Γ.set i none) := by
  refine ⟨by simp [g.len], fun j x h => ?_⟩
  rw [List.getElem?_set] at h
  split at h
  · split at h <;> cases h
  · exact g.at_ j x h
/-- a new frozen object -/
theorem Rep.freeze (rp : Rep K S H C) {p : Addr} {o : HO} (n : H p = none) : Rep K { S with G := upd S.G p o } (upd H p o) C ∧ Le S H { S with G := upd S.G p o } (upd H p o) := by
  have np : ∀ q ∈ S.ps, ∀ (k : Nat) c, S.ps[k]? = some q → C[k]? = some c → c ≠ .dead → q ≠ p := fun q _ k c hk hc hd e => by
    subst e
    have := rp.at_ k q c hk hc
    cases c with
    | lst xs => obtain ⟨vs, e, _⟩ := this; rw [n] at e; cases e
    | box m => obtain ⟨_, _, _, _, e, _⟩ := this; rw [n] at e; cases e
    | dct kvs => obtain ⟨_, e, _⟩ := this; rw [n] at e; cases e
    | dead => exact absurd rfl hd
  have gn : S.G p = none := by
    cases e : S.G p with
    | none => rfl
    | some o => have := rp.sub p o e; rw [n] at this; cases this
  have gm : ∀ b u, S.G b = some u → upd S.G p o b = some u := fun b u h => by
    have : b ≠ p := fun e => by rw [e, gn] at h; cases h
    rw [upd_ne this]; exact h
  have le : Le S H { S with G := upd S.G p o } (upd H p o) := ⟨gm, fun _ _ h => h, fun b u h _ => by rw [upd_ne (ne_of_none h n)]; exact h, fun _ h => .inl h, fun b u h => by
      by_cases e : b = p
      · rw [e]; exact .inr (.inr n)
      · have h' : upd S.G p o b = some u := h
        rw [upd_ne e] at h'
        exact .inl h'⟩
  refine ⟨⟨fun b u h => ?_, rp.len, rp.nd, fun k q c hk hc hd => ?_, fun k q c hk hc => ?_⟩, le⟩
  · by_cases e : b = p
    · subst e
      have h' : upd S.G b o b = some u := h
      rw [upd_same] at h' ⊢
      exact h'
    · have h' : upd S.G p o b = some u := h
      rw [upd_ne e] at h' ⊢
      exact rp.sub b u h'
  · show upd S.G p o q = none
    rw [upd_ne (np q (List.mem_of_getElem? hk) k c hk hc hd)]
    exact rp.off k q c hk hc hd
  · have q0 := rp.at_ k q c hk hc
    cases c with
    | lst xs => obtain ⟨vs, e, d⟩ := q0; exact ⟨vs, by rw [upd_ne (ne_of_none e n)]; exact e, d.mono le⟩
    | box m => obtain ⟨a, b, c, d, e, z⟩ := q0; exact ⟨a, b, c, d, by rw [upd_ne (ne_of_none e n)]; exact e, z⟩
    | dct kvs => obtain ⟨kv, e, z, d⟩ := q0; exact ⟨kv, by rw [upd_ne (ne_of_none e n)]; exact e, z, d.mono le⟩
    | dead => obtain ⟨u, e⟩ := q0; exact ⟨u, by rw [upd_ne (ne_of_none e n)]; exact e⟩
theorem CtOk.some {p : Addr} {c : Ct} (h : CtOk K S H p c) : ∃ o, H p = some o := by
  cases c with
  | lst xs => obtain ⟨vs, e, _⟩ := h; exact ⟨_, e⟩
  | box m => obtain ⟨_, _, _, _, e, _⟩ := h; exact ⟨_, e⟩
  | dct kvs => obtain ⟨_, e, _⟩ := h; exact ⟨_, e⟩
  | dead => exact h
theorem Rep.nps (rp : Rep K S H C) {p : Addr} (n : H p = none) : p ∉ S.ps := fun m => by
  obtain ⟨k, hk, e⟩ := List.getElem_of_mem m
  have h1 : S.ps[k]? = Option.some p := by rw [List.getElem?_eq_getElem hk, e]
  have hk2 : k < C.length := by rw [← rp.len]; exact hk
  obtain ⟨o, h⟩ := (rp.at_ k p _ h1 (List.getElem?_eq_getElem hk2)).some
  rw [n] at h
  cases h
theorem CtOk.mono {p : Addr} {c : Ct} (h : CtOk K S H p c) (l : Le S H S' H') (e : ∀ o, H p = Option.some o → H' p = Option.some o) : CtOk K S' H' p c := by
  cases c with
  | lst xs => obtain ⟨vs, z, d⟩ := h; exact ⟨vs, e _ z, d.mono l⟩
  | box m => obtain ⟨a, b, c, d, z, y⟩ := h; exact ⟨a, b, c, d, e _ z, y⟩
  | dct kvs => obtain ⟨kv, z, y, d⟩ := h; exact ⟨kv, e _ z, y, d.mono l⟩
  | dead => obtain ⟨u, z⟩ := h; exact ⟨u, e _ z⟩
/-- a new cell: c stands at p in H' = upd H p o -/
theorem Rep.grow (rp : Rep K S H C) {p : Addr} {o : HO} {c : Ct} (n : H p = none) (hc : ∀ S', Le S H S' (upd H p o) → CtOk K S' (upd H p o) p c) :
    Rep K { S with ps := S.ps ++ [p] } (upd H p o) (C ++ [c]) ∧ Le S H { S with ps := S.ps ++ [p] } (upd H p o) := by
  have hq := rp.nps n
  have gn : S.G p = none := by
    cases e : S.G p with
    | none => rfl
    | some o => have := rp.sub p o e; rw [n] at this; cases this
  have le : Le S H { S with ps := S.ps ++ [p] } (upd H p o) := ⟨fun _ _ h => h, fun k q h => by
      have : k < S.ps.length := (List.getElem?_eq_some_iff.mp h).1
      show (S.ps ++ [p])[k]? = _
      rw [List.getElem?_append_left this]; exact h, fun b u h _ => by rw [upd_ne (ne_of_none h n)]; exact h,
    fun q h => by
      rcases List.mem_append.mp h with h | h
      · exact .inl h
      · rw [List.mem_singleton.mp h]; exact .inr n, fun _ _ h => .inl h⟩
  have key : ∀ (k : Nat) q c', (S.ps ++ [p])[k]? = some q → (C ++ [c])[k]? = some c' → (k < S.ps.length ∧ S.ps[k]? = some q ∧ C[k]? = some c') ∨ (q = p ∧ c' = c) := fun k q c' h1 h2 => by
    by_cases hk : k < S.ps.length
    · rw [List.getElem?_append_left hk] at h1
      rw [List.getElem?_append_left (by rw [← rp.len]; exact hk)] at h2
      exact .inl ⟨hk, h1, h2⟩
    · have hk' : k = S.ps.length := by
        have := (List.getElem?_eq_some_iff.mp h1).1
        simp at this
        omega
      subst hk'
      rw [List.getElem?_append_right (Nat.le_refl _)] at h1
      rw [List.getElem?_append_right (by rw [rp.len]; exact Nat.le_refl _)] at h2
      simp at h1
      rw [rp.len] at h2
      simp at h2
      exact .inr ⟨h1.symm, h2.symm⟩
  refine ⟨⟨fun b u h => ?_, by simp [rp.len], ?_, fun k q c' h1 h2 hd => ?_, fun k q c' h1 h2 => ?_⟩, le⟩
  · have hb : b ≠ p := fun e => by
      have h' : S.G b = some u := h
      rw [e, gn] at h'; cases h'
    rw [upd_ne hb]
    exact rp.sub b u h
  · show (S.ps ++ [p]).Nodup
    rw [List.nodup_append]
    refine ⟨rp.nd, by simp, fun a ha b hb => ?_⟩
    rw [List.mem_singleton.mp hb]
    exact fun e => hq (e ▸ ha)
  · rcases key k q c' h1 h2 with ⟨_, h1, h2⟩ | ⟨e, _⟩
    · exact rp.off k q c' h1 h2 hd
    · rw [e]; exact gn
  · rcases key k q c' h1 h2 with ⟨_, h1, h2⟩ | ⟨e, e2⟩
    · refine (rp.at_ k q c' h1 h2).mono le fun o' e => ?_
      rw [upd_ne (ne_of_none e n)]; exact e
    · rw [e, e2]
      exact hc _ le
/-- a cell is written -/
theorem Rep.write (rp : Rep K S H C) {k : Nat} {p : Addr} {o : HO} {c c0 : Ct} (hp : S.ps[k]? = some p) (h0 : C[k]? = some c0) (hd0 : c0 ≠ .dead) (hc : CtOk K S (upd H p o) p c) :
    Rep K S (upd H p o) (C.set k c) ∧ Le S H S (upd H p o) := by
  have le : Le S H S (upd H p o) := ⟨fun _ _ h => h, fun _ _ h => h, fun b u h hb => by
      rw [upd_ne (fun e => hb (by rw [e]; exact List.mem_of_getElem? hp))]; exact h, fun _ h => .inl h, fun _ _ h => .inl h⟩
  have gn : S.G p = none := rp.off k p c0 hp h0 hd0
  have hk : k < C.length := (List.getElem?_eq_some_iff.mp h0).1
  have one : ∀ (j : Nat) q, S.ps[j]? = some q → q = p → j = k := fun j q h e => by
    subst e
    have hj := (List.getElem?_eq_some_iff.mp h).1
    have hk2 := (List.getElem?_eq_some_iff.mp hp).1
    exact ((List.getElem?_inj hj rp.nd).mp (h.trans hp.symm))
  refine ⟨⟨fun b u h => ?_, by simp [rp.len], rp.nd, fun j q c' h1 h2 hd => ?_, fun j q c' h1 h2 => ?_⟩, le⟩
  · have hb : b ≠ p := fun e => by rw [e, gn] at h; cases h
    rw [upd_ne hb]
    exact rp.sub b u h
  · by_cases e : q = p
    · rw [e]; exact gn
    · have hj : j ≠ k := fun z => by subst z; rw [hp] at h1; cases h1; exact e rfl
      rw [List.getElem?_set_ne (Ne.symm hj)] at h2
      exact rp.off j q c' h1 h2 hd
  · by_cases e : q = p
    · have hj := one j q h1 e
      subst hj
      rw [List.getElem?_set_self hk] at h2
      cases h2
      rw [e]; exact hc
    · have hj : j ≠ k := fun z => by subst z; rw [hp] at h1; cases h1; exact e rfl
      rw [List.getElem?_set_ne (Ne.symm hj)] at h2
      refine (rp.at_ j q c' h1 h2).mono le fun o' z => ?_
      rw [upd_ne e]; exact z
/-- a list's cell is frozen -/
theorem Rep.ice (rp : Rep K S H C) {k : Nat} {p : Addr} {vs : List V} {xs : List R} (hp : S.ps[k]? = some p) (h0 : C[k]? = some (.lst xs)) (hv : H p = some (.lst vs)) :
    Rep K { S with G := upd S.G p (.lst vs) } H (C.set k .dead) ∧ Le S H { S with G := upd S.G p (.lst vs) } H := by
  have gn : S.G p = none := rp.off k p _ hp h0 (fun z => by cases z)
  have hk : k < C.length := (List.getElem?_eq_some_iff.mp h0).1
  have gm : ∀ b u, S.G b = some u → upd S.G p (.lst vs) b = some u := fun b u h => by
    have : b ≠ p := fun e => by rw [e, gn] at h; cases h
    rw [upd_ne this]; exact h
  have le : Le S H { S with G := upd S.G p (.lst vs) } H := ⟨gm, fun _ _ h => h, fun b u h _ => h, fun _ h => .inl h, fun b u h => by
      by_cases e : b = p
      · rw [e]; exact .inr (.inl (List.mem_of_getElem? hp))
      · have h' : upd S.G p (.lst vs) b = some u := h
        rw [upd_ne e] at h'
        exact .inl h'⟩
  have one : ∀ (j : Nat) q, S.ps[j]? = some q → q = p → j = k := fun j q h e => by
    subst e
    have hj := (List.getElem?_eq_some_iff.mp h).1
    exact ((List.getElem?_inj hj rp.nd).mp (h.trans hp.symm))
  refine ⟨⟨fun b u h => ?_, by simp [rp.len], rp.nd, fun j q c' h1 h2 hd => ?_, fun j q c' h1 h2 => ?_⟩, le⟩
  · by_cases e : b = p
    · subst e
      have h' : upd S.G b (.lst vs) b = some u := h
      rw [upd_same] at h'
      rw [hv]; exact h'
    · have h' : upd S.G p (.lst vs) b = some u := h
      rw [upd_ne e] at h'
      exact rp.sub b u h'
  · by_cases hj : j = k
    · subst hj
      rw [List.getElem?_set_self hk] at h2
      cases h2
      exact absurd rfl hd
    · rw [List.getElem?_set_ne (Ne.symm hj)] at h2
      show upd S.G p _ q = none
      rw [upd_ne (fun e => hj (one j q h1 e))]
      exact rp.off j q c' h1 h2 hd
  · by_cases hj : j = k
    · subst hj
      rw [List.getElem?_set_self hk] at h2
      cases h2
      rw [hp] at h1
      cases h1
      exact ⟨_, hv⟩
    · rw [List.getElem?_set_ne (Ne.symm hj)] at h2
      exact (rp.at_ j q c' h1 h2).mono le fun o' z => z
/-- an address beside: neither frozen nor a cell -/
theorem Rep.side (rp : Rep K S H C) {p : Addr} {o : HO} (h1 : p ∉ S.ps) (h2 : S.G p = none) : Rep K S (upd H p o) C := by
  refine ⟨fun b u h => ?_, rp.len, rp.nd, rp.off, fun k q c hk hc => ?_⟩
  · rw [upd_ne (fun e => by rw [e, h2] at h; cases h)]
    exact rp.sub b u h
  · have hq : q ≠ p := fun e => h1 (e ▸ List.mem_of_getElem? hk)
    have q0 := rp.at_ k q c hk hc
    cases c with
    | lst xs => obtain ⟨vs, e, d⟩ := q0; exact ⟨vs, by rw [upd_ne hq]; exact e, d⟩
    | box m => obtain ⟨a, b, c, d, e, z⟩ := q0; exact ⟨a, b, c, d, by rw [upd_ne hq]; exact e, z⟩
    | dct kvs => obtain ⟨kv, e, z, d⟩ := q0; exact ⟨kv, by rw [upd_ne hq]; exact e, z, d⟩
    | dead => obtain ⟨u, e⟩ := q0; exact ⟨u, by rw [upd_ne hq]; exact e⟩
theorem Le.side (l : Le S H S' H') {p : Addr} {o : HO} (n : H p = none) : Le S H S' (upd H' p o) :=
  ⟨l.g, l.ps, fun b u h hb => by rw [upd_ne (ne_of_none h n)]; exact l.fr b u h hb, l.nw, l.gn⟩
/-- it is frozen -/
theorem Rep.adoptG (rp : Rep K S H C) {p : Addr} {o : HO} (h1 : p ∉ S.ps) (h2 : S.G p = none) (h3 : H p = some o) : Rep K { S with G := upd S.G p o } H C ∧ ∀ {v : V} {r : R}, D K S v r → D K { S with G := upd S.G p o } v r := by
  have gm : ∀ b u, S.G b = some u → upd S.G p o b = some u := fun b u h => by
    have : b ≠ p := fun e => by rw [e, h2] at h; cases h
    rw [upd_ne this]; exact h
  refine ⟨⟨fun b u h => ?_, rp.len, rp.nd, fun k q c hk hc hd => ?_, fun k q c hk hc => ?_⟩, fun d => D.mono' (S := S) (S' := { S with G := upd S.G p o }) gm (fun _ _ h => h) d⟩
  · have h' : upd S.G p o b = some u := h
    by_cases e : b = p
    · subst e
      rw [upd_same] at h'
      rw [h3]; exact h'
    · rw [upd_ne e] at h'
      exact rp.sub b u h'
  · show upd S.G p o q = none
    rw [upd_ne (fun (e : q = p) => h1 (by rw [← e]; exact List.mem_of_getElem? hk))]
    exact rp.off k q c hk hc hd
  · have q0 := rp.at_ k q c hk hc
    cases c with
    | lst xs => obtain ⟨vs, e, d⟩ := q0; exact ⟨vs, e, DL.mono' (S := S) (S' := { S with G := upd S.G p o }) gm (fun _ _ h => h) d⟩
    | box m => exact q0
    | dct kvs => obtain ⟨kv, e, z, d⟩ := q0; exact ⟨kv, e, z, DL.mono' (S := S) (S' := { S with G := upd S.G p o }) gm (fun _ _ h => h) d⟩
    | dead => exact q0
theorem Le.adoptG (l : Le S H S' H') {p : Addr} {o : HO} (n : H p = none) (h2 : S'.G p = none) : Le S H { S' with G := upd S'.G p o } H' :=
  ⟨fun b u h => by
    have h' := l.g b u h
    show upd S'.G p o b = some u
    rw [upd_ne (fun e => by rw [e, h2] at h'; cases h')]; exact h', l.ps, l.fr, l.nw, fun b u h => by
      have h' : upd S'.G p o b = some u := h
      by_cases e : b = p
      · rw [e]; exact .inr (.inr n)
      · rw [upd_ne e] at h'
        exact l.gn b u h'⟩
/-- it becomes a cell -/
theorem Rep.adoptC (rp : Rep K S H C) {p : Addr} {c : Ct} (h1 : p ∉ S.ps) (h2 : S.G p = none) (hc : CtOk K S H p c) : Rep K { S with ps := S.ps ++ [p] } H (C ++ [c]) := by
  have pm : ∀ (k : Nat) q, S.ps[k]? = some q → (S.ps ++ [p])[k]? = some q := fun k q h => by
    rw [List.getElem?_append_left (List.getElem?_eq_some_iff.mp h).1]; exact h
  have cm : ∀ {q : Addr} {c : Ct}, CtOk K S H q c → CtOk K { S with ps := S.ps ++ [p] } H q c := fun {q c} h => by
    cases c with
    | lst xs => obtain ⟨vs, e, d⟩ := h; exact ⟨vs, e, DL.mono' (S := S) (S' := { S with ps := S.ps ++ [p] }) (fun _ _ h => h) pm d⟩
    | box m => exact h
    | dct kvs => obtain ⟨kv, e, z, d⟩ := h; exact ⟨kv, e, z, DL.mono' (S := S) (S' := { S with ps := S.ps ++ [p] }) (fun _ _ h => h) pm d⟩
    | dead => exact h
  have key : ∀ (k : Nat) q c', (S.ps ++ [p])[k]? = some q → (C ++ [c])[k]? = some c' → (S.ps[k]? = some q ∧ C[k]? = some c') ∨ (q = p ∧ c' = c) := fun k q c' e1 e2 => by
    by_cases hk : k < S.ps.length
    · rw [List.getElem?_append_left hk] at e1
      rw [List.getElem?_append_left (by rw [← rp.len]; exact hk)] at e2
      exact .inl ⟨e1, e2⟩
    · have hk' : k = S.ps.length := by
        have := (List.getElem?_eq_some_iff.mp e1).1
        simp at this
        omega
      subst hk'
      rw [List.getElem?_append_right (Nat.le_refl _)] at e1
      rw [List.getElem?_append_right (by rw [rp.len]; exact Nat.le_refl _)] at e2
      simp at e1
      rw [rp.len] at e2
      simp at e2
      exact .inr ⟨e1.symm, e2.symm⟩
  refine ⟨rp.sub, by simp [rp.len], ?_, fun k q c' e1 e2 hd => ?_, fun k q c' e1 e2 => ?_⟩
  · show (S.ps ++ [p]).Nodup
    rw [List.nodup_append]
    refine ⟨rp.nd, by simp, fun a ha b hb => ?_⟩
    rw [List.mem_singleton.mp hb]
    exact fun e => h1 (e ▸ ha)
  · rcases key k q c' e1 e2 with ⟨e1, e2⟩ | ⟨e, _⟩
    · exact rp.off k q c' e1 e2 hd
    · rw [e]; exact h2
  · rcases key k q c' e1 e2 with ⟨e1, e2⟩ | ⟨e, e'⟩
    · exact cm (rp.at_ k q c' e1 e2)
    · rw [e, e']; exact cm hc
theorem Le.adoptC (l : Le S H S' H') {p : Addr} (n : H p = none) : Le S H { S' with ps := S'.ps ++ [p] } H' :=
  ⟨l.g, fun k q h => by
    have h' := l.ps k q h
    show (S'.ps ++ [p])[k]? = some q
    rw [List.getElem?_append_left (List.getElem?_eq_some_iff.mp h').1]; exact h', l.fr, fun q h => by
      rcases List.mem_append.mp h with h | h
      · exact l.nw q h
      · rw [List.mem_singleton.mp h]; exact .inr n, l.gn⟩
end

/-! ### the judgements -/
structure Zx where
  cl : String → Addr
  S0 : Wd
  H0 : Hp
  W : WX
  e : Gm → MX
/-- a point of the run -/
structure At (K : PySem.W.Frag) (Z : Zx) (S : Wd) (σ : St) (H : Hp) (Γ : Gm) (C : Cs) : Prop where
  rp : Rep K S H C
  sg : SG K S σ Γ
  le : Le Z.S0 Z.H0 S H
def LkE (K : PySem.W.Frag) (Z : Zx) (S : Wd) (H : Hp) (Qm : Qe) (Q : VK) : Prop := ∀ r C' v S' H', Qm r C' → Rep K S' H' C' → Le S H S' H' → D K S' v r → Q v H'
def LkT (K : PySem.W.Frag) (Z : Zx) (S : Wd) (H : Hp) (Qm : Bool → Cs → Prop) (Q : Bool → Hp → Prop) : Prop := ∀ r C' S' H', Qm r C' → Rep K S' H' C' → Le S H S' H' → Q r H'
def LkA (K : PySem.W.Frag) (Z : Zx) (S : Wd) (H : Hp) (Qm : List R → Cs → Prop) (Q : List V → Hp → Prop) : Prop := ∀ r C' v S' H', Qm r C' → Rep K S' H' C' → Le S H S' H' → DL K S' v r → Q v H'
structure LkS (K : PySem.W.Frag) (Z : Zx) (S : Wd) (H : Hp) (Dm : MEnds) (Ds : Ends) : Prop where
  nx : ∀ Γ C σ S' H', Dm.nx Γ C → Rep K S' H' C → Le S H S' H' → SG K S' σ Γ → Ds.nx σ H'
  rt : LkE K Z S H Dm.rt Ds.rt
  bk : ∀ Γ C σ S' H', Dm.bk Γ C → Rep K S' H' C → Le S H S' H' → SG K S' σ Γ → Ds.bk σ H'
  ct : ∀ Γ C σ S' H', Dm.ct Γ C → Rep K S' H' C → Le S H S' H' → SG K S' σ Γ → Ds.ct σ H'
def TrE (K : PySem.W.Frag) (Z : Zx) (t : TE) (m : ME) : Prop := ∀ S σ H Γ C Qm Q, At K Z S σ H Γ C → LkE K Z S H Qm Q → m Γ C Qm → t σ H Q
def TrT (K : PySem.W.Frag) (Z : Zx) (t : TT) (m : MT) : Prop := ∀ S σ H Γ C Qm Q, At K Z S σ H Γ C → LkT K Z S H Qm Q → m Γ C Qm → t σ H Q
def TrA (K : PySem.W.Frag) (Z : Zx) (t : TA) (m : MA) : Prop := ∀ S σ H Γ C Qm Q, At K Z S σ H Γ C → LkA K Z S H Qm Q → m Γ C Qm → t σ H Q
def TrS (K : PySem.W.Frag) (Z : Zx) (t : TS) (m : MS) : Prop := ∀ S σ H Γ C Dm Ds, At K Z S σ H Γ C → LkS K Z S H Dm Ds → m Dm Γ C → t Ds σ H
def TrG (K : PySem.W.Frag) (Z : Zx) (t : TG) (m : MG) : Prop := ∀ S σ H Γ C v r Qm Q, At K Z S σ H Γ C → D K S v r →
  (∀ Γ' C' σ' S' H', Qm Γ' C' → Rep K S' H' C' → Le S H S' H' → SG K S' σ' Γ' → Q σ' H') → m r Γ C Qm → t v σ H Q
def TrGs (K : PySem.W.Frag) (Z : Zx) (t : TGs) (m : MGs) : Prop := ∀ S σ H Γ C v r Qm Q, At K Z S σ H Γ C → DL K S v r →
  (∀ Γ' C' σ' S' H', Qm Γ' C' → Rep K S' H' C' → Le S H S' H' → SG K S' σ' Γ' → Q σ' H') → m r Γ C Qm → t v σ H Q
def JE (X : Cx) (Z : Zx) (e : Expr) (m : ME) : Prop := ∃ t, PE X e t ∧ TrE X.K Z t m
def JT (X : Cx) (Z : Zx) (e : Expr) (m : MT) : Prop := ∃ t, PT X e t ∧ TrT X.K Z t m
def JW (X : Cx) (Z : Zx) (e : Expr) (m : MT) : Prop := ∃ t, PW X e t ∧ TrT X.K Z t m
def JA (X : Cx) (Z : Zx) (e : List Expr) (m : MA) : Prop := ∃ t, PA X e t ∧ TrA X.K Z t m
def JK (X : Cx) (Z : Zx) (e : List Keyword) (m : MA) : Prop := ∃ t, PK X e t ∧ TrA X.K Z t m
def JS (X : Cx) (Z : Zx) (e : Stmt) (m : MS) : Prop := ∃ t, PS X e t ∧ TrS X.K Z t m
def JSs (X : Cx) (Z : Zx) (e : List Stmt) (m : MS) : Prop := ∃ t, PSs X e t ∧ TrS X.K Z t m
def JG (X : Cx) (Z : Zx) (e : Expr) (m : MG) : Prop := ∃ t, PG X e t ∧ TrG X.K Z t m
def JGs (X : Cx) (Z : Zx) (e : List Expr) (m : MGs) : Prop := ∃ t, PGs X e t ∧ TrGs X.K Z t m

section
variable {K : PySem.W.Frag} {Z : Zx} {S S1 : Wd} {σ : St} {H H1 : Hp} {Γ : Gm} {C C1 : Cs}
theorem At.go (a : At K Z S σ H Γ C) (l : Le S H S1 H1) (rp : Rep K S1 H1 C1) : At K Z S1 σ H1 Γ C1 := ⟨rp, a.sg.mono l, a.le.trans l⟩
theorem At.to {σ1 : St} {Γ1 : Gm} (a : At K Z S σ H Γ C) (l : Le S H S1 H1) (rp : Rep K S1 H1 C1) (sg : SG K S1 σ1 Γ1) : At K Z S1 σ1 H1 Γ1 C1 := ⟨rp, sg, a.le.trans l⟩
theorem LkE.go {Qm : Qe} {Q : VK} (k : LkE K Z S H Qm Q) (l : Le S H S1 H1) : LkE K Z S1 H1 Qm Q := fun r C' v S' H' q rp l' d => k r C' v S' H' q rp (l.trans l') d
theorem LkT.go {Qm : Bool → Cs → Prop} {Q : Bool → Hp → Prop} (k : LkT K Z S H Qm Q) (l : Le S H S1 H1) : LkT K Z S1 H1 Qm Q := fun r C' S' H' q rp l' => k r C' S' H' q rp (l.trans l')
theorem LkA.go {Qm : List R → Cs → Prop} {Q : List V → Hp → Prop} (k : LkA K Z S H Qm Q) (l : Le S H S1 H1) : LkA K Z S1 H1 Qm Q := fun r C' v S' H' q rp l' d => k r C' v S' H' q rp (l.trans l') d
theorem LkS.go {Dm : MEnds} {Ds : Ends} (k : LkS K Z S H Dm Ds) (l : Le S H S1 H1) : LkS K Z S1 H1 Dm Ds :=
  ⟨fun Γ C σ S' H' q rp l' g => k.nx Γ C σ S' H' q rp (l.trans l') g, k.rt.go l, fun Γ C σ S' H' q rp l' g => k.bk Γ C σ S' H' q rp (l.trans l') g, fun Γ C σ S' H' q rp l' g => k.ct Γ C σ S' H' q rp (l.trans l') g⟩
theorem LkE.now {Qm : Qe} {Q : VK} (k : LkE K Z S H Qm Q) (a : At K Z S σ H Γ C) {v : V} {r : R} (d : D K S v r) (q : Qm r C) : Q v H := k r C v S H q a.rp (Le.refl _ _) d
end
/-! ### the readings that the trees themselves give -/
section
variable (K : PySem.W.Frag) (Z : Zx)
def tE (m : ME) : TE := fun σ H Q => ∃ S Γ C Qm, At K Z S σ H Γ C ∧ LkE K Z S H Qm Q ∧ m Γ C Qm
def tT (m : MT) : TT := fun σ H Q => ∃ S Γ C Qm, At K Z S σ H Γ C ∧ LkT K Z S H Qm Q ∧ m Γ C Qm
def tS (m : MS) : TS := fun Ds σ H => ∃ S Γ C Dm, At K Z S σ H Γ C ∧ LkS K Z S H Dm Ds ∧ m Dm Γ C
def tG (m : MG) : TG := fun v σ H Q => ∃ S Γ C r Qm, At K Z S σ H Γ C ∧ D K S v r ∧ (∀ Γ' C' σ' S' H', Qm Γ' C' → Rep K S' H' C' → Le S H S' H' → SG K S' σ' Γ' → Q σ' H') ∧ m r Γ C Qm
end
section
variable {X : Cx} {Z : Zx}
theorem JE.can {e : Expr} {m : ME} (h : JE X Z e m) : PE X e (tE X.K Z m) := by
  obtain ⟨t, p, k⟩ := h
  refine ⟨fun pins s σ H Q I q => p.run pins s σ H Q I ?_⟩
  obtain ⟨S, Γ, C, Qm, A, l, q⟩ := q
  exact k S σ H Γ C Qm Q A l q
theorem JT.can {e : Expr} {m : MT} (h : JT X Z e m) : PT X e (tT X.K Z m) := by
  obtain ⟨t, p, k⟩ := h
  refine ⟨fun pins s σ H Q I q => p.run pins s σ H Q I ?_⟩
  obtain ⟨S, Γ, C, Qm, A, l, q⟩ := q
  exact k S σ H Γ C Qm Q A l q
theorem JSs.can {e : List Stmt} {m : MS} (h : JSs X Z e m) : PSs X e (tS X.K Z m) := by
  obtain ⟨t, p, k⟩ := h
  refine ⟨fun pins s σ H Q I q => p.run pins s σ H Q I ?_⟩
  obtain ⟨S, Γ, C, Qm, A, l, q⟩ := q
  exact k S σ H Γ C Qm Q A l q
theorem JG.can {e : Expr} {m : MG} (h : JG X Z e m) : PG X e (tG X.K Z m) := by
  obtain ⟨t, p, k⟩ := h
  refine ⟨fun pins s σ H x v Q I rx q => p.run pins s σ H x v Q I rx ?_⟩
  obtain ⟨S, Γ, C, r, Qm, A, d, l, q⟩ := q
  exact k S σ H Γ C _ _ Qm Q A d l q
end
end NB

set_option Elab.async false
set_option linter.all false
set_option maxRecDepth 100000
set_option maxHeartbeats 1000000
namespace NB
open PySem PySem.Spec L2
section
variable {X : Cx} {Z : Zx} {a b c e : Expr} {es : List Expr} {ma mb mc m : ME} {mt mu : MT} {pos : Pos}

theorem je_var (i : Nat) {x : Str} {pos : Pos} (hN : X.N[i]? = some x := by rfl) (hv : Vis X.env.scope x := by first | exact Or.inl rfl | exact Or.inr (Or.inl rfl) | exact Or.inr (Or.inr rfl)) (hd : (x == ("__debug__" : Str)) = false := by decide)
    (hcd : (x == ("__classdict__" : Str)) = false := by decide) : JE X Z (.Name x pos) (mVar i) := by
  refine ⟨_, pe_var hN hv hd hcd, fun S σ H Γ C Qm Q A k h => ?_⟩
  unfold mVar at h
  split at h
  · rename_i r e
    obtain ⟨v, h1, h2⟩ := A.sg.at_ i r e
    exact ⟨v, h1, k.now A h2 h⟩
  · exact h.elim
theorem je_int {i j pos} : JE X Z (.Constant (.int i) j pos) (mC (.int i)) := ⟨_, pe_int, fun S σ H Γ C Qm Q A k h => k.now A (.int i) h⟩
theorem je_bl {i j pos} : JE X Z (.Constant (.bool i) j pos) (mC (.bl i)) := ⟨_, pe_bl, fun S σ H Γ C Qm Q A k h => k.now A (.bl i) h⟩
theorem je_non {j pos} : JE X Z (.Constant .none j pos) (mC .non) := ⟨_, pe_non, fun S σ H Γ C Qm Q A k h => k.now A .non h⟩
theorem je_str {x j pos} : JE X Z (.Constant (.str x) j pos) (mC (.str x)) := ⟨_, pe_str, fun S σ H Γ C Qm Q A k h => k.now A (.str x) h⟩
/-- a constant of the module -/
theorem je_gC {x : Str} {v : V} {r : R} {u : Value} {pos : Pos} (hd : ∀ S, D X.K S v r) (hm : X.mg x = some u) (rv : RelV v u) (hg : Gl X x := by rfl) (hdb : (x == ("__debug__" : Str)) = false := by decide) : JE X Z (.Name x pos) (mC r) :=
  ⟨_, pe_glob hg hm rv hdb, fun S σ H Γ C Qm Q A k h => k.now A (hd S) h⟩

/-! ### two-place operations -/
def JOp (X : Cx) (Z : Zx) (f : Value → Value → Sem Value) (o : R → R → Cs → Qe → Prop) : Prop := ∃ r, OpR X f r ∧
  ∀ S H C x y rx ry Qm Q, Rep X.K S H C → D X.K S x rx → D X.K S y ry → LkE X.K Z S H Qm Q → o rx ry C Qm → r x y H Q
theorem tr_op {r : R2} {o : R → R → Cs → Qe → Prop} {ta tb : TE} (h : ∀ S H C x y rx ry Qm Q, Rep X.K S H C → D X.K S x rx → D X.K S y ry → LkE X.K Z S H Qm Q → o rx ry C Qm → r x y H Q)
    (ha : TrE X.K Z ta ma) (hb : TrE X.K Z tb mb) : TrE X.K Z (tOp r ta tb) (mOp o ma mb) := by
  intro S σ H Γ C Qm Q A k q
  refine ha S σ H Γ C _ _ A (fun rx C1 x S1 H1 q1 rp1 l1 d1 => ?_) q
  refine hb S1 σ H1 Γ C1 _ _ (A.go l1 rp1) (fun ry C2 y S2 H2 q2 rp2 l2 d2 => ?_) q1
  exact h S2 H2 C2 x y rx ry Qm Q rp2 (d1.mono l2) d2 (k.go (l1.trans l2)) q2
theorem je_op {op : Operator} {o : R → R → Cs → Qe → Prop} (ho : JOp X Z (binaryOp op) o) (ha : JE X Z a ma) (hb : JE X Z b mb) : JE X Z (.BinOp a op b pos) (mOp o ma mb) := by
  obtain ⟨r, h1, h2⟩ := ho
  obtain ⟨ta, pa, ka⟩ := ha
  obtain ⟨tb, pb, kb⟩ := hb
  exact ⟨_, pe_op h1 pa pb, tr_op h2 ka kb⟩
theorem je_cmp {op : CmpOp} {o : R → R → Cs → Qe → Prop} (ho : JOp X Z (compareOp op) o) (ha : JE X Z a ma) (hb : JE X Z b mb) (hm : behindInMarks op b = false := by first | exact nomark _ | rfl | with_unfolding_all rfl) : JE X Z (.Compare a [op] [b] pos) (mOp o ma mb) := by
  obtain ⟨r, h1, h2⟩ := ho
  obtain ⟨ta, pa, ka⟩ := ha
  obtain ⟨tb, pb, kb⟩ := hb
  exact ⟨_, pe_cmpR h1 pa pb hm, tr_op h2 ka kb⟩
theorem tr_test {t : TE} (h : TrE X.K Z t m) : TrT X.K Z (tTest t) (mVal m) := by
  intro S σ H Γ C Qm Q A k q
  refine h S σ H Γ C _ _ A (fun r C1 v S1 H1 q1 rp1 l1 d1 => ?_) q
  cases d1 with
  | bl b => exact ⟨b, rfl, k b C1 S1 H1 q1 rp1 l1⟩
  | _ => exact q1.elim
theorem jt_cmp {op : CmpOp} {o : R → R → Cs → Qe → Prop} (ho : JOp X Z (compareOp op) o) (ha : JE X Z a ma) (hb : JE X Z b mb) (hm : behindInMarks op b = false := by first | exact nomark _ | rfl | with_unfolding_all rfl) : JT X Z (.Compare a [op] [b] pos) (mVal (mOp o ma mb)) := by
  obtain ⟨r, h1, h2⟩ := ho
  obtain ⟨ta, pa, ka⟩ := ha
  obtain ⟨tb, pb, kb⟩ := hb
  exact ⟨_, pt_cmpR h1 pa pb hm, tr_test (tr_op h2 ka kb)⟩
theorem jt_val (h : JE X Z e m) (he : ∀ whole, isTrue e X.env whole = (do let v ← whole; standAt e.pos; holding [v] (truthy v)) := by intro _; rfl) : JT X Z e (mVal m) := by
  obtain ⟨t, p, k⟩ := h
  exact ⟨_, pt_val p he, tr_test k⟩
/-- a op b op' c -/
theorem tr_chain {r r' : R2} {o o' : R → R → Cs → Qe → Prop} {ta tb tc : TE} (h : ∀ S H C x y rx ry Qm Q, Rep X.K S H C → D X.K S x rx → D X.K S y ry → LkE X.K Z S H Qm Q → o rx ry C Qm → r x y H Q)
    (h' : ∀ S H C x y rx ry Qm Q, Rep X.K S H C → D X.K S x rx → D X.K S y ry → LkE X.K Z S H Qm Q → o' rx ry C Qm → r' x y H Q)
    (ha : TrE X.K Z ta ma) (hb : TrE X.K Z tb mb) (hc : TrE X.K Z tc mc) : TrE X.K Z (tChain r r' ta tb tc) (mChain o o' ma mb mc) := by
  intro S σ H Γ C Qm Q A k q
  refine ha S σ H Γ C _ _ A (fun rx C1 x S1 H1 q1 rp1 l1 d1 => ?_) q
  refine hb S1 σ H1 Γ C1 _ _ (A.go l1 rp1) (fun ry C2 y S2 H2 q2 rp2 l2 d2 => ?_) q1
  refine h S2 H2 C2 x y rx ry _ _ rp2 (d1.mono l2) d2 (fun z C3 v S3 H3 q3 rp3 l3 d3 => ?_) q2
  cases d3 with
  | bl b =>
    refine ⟨b, rfl, ?_⟩
    cases b with
    | true =>
      rw [if_pos rfl]
      have q3' := q3
      simp only [if_true] at q3'
      refine hc S3 σ H3 Γ C3 _ _ (A.go (l1.trans (l2.trans l3)) rp3) (fun rw_ C4 w S4 H4 q4 rp4 l4 d4 => ?_) q3'
      exact h' S4 H4 C4 y w ry rw_ Qm Q rp4 (d2.mono (l3.trans l4)) d4 (k.go (l1.trans (l2.trans (l3.trans l4)))) q4
    | false =>
      rw [if_neg Bool.false_ne_true]
      have q3' := q3
      simp only [Bool.false_eq_true, if_false] at q3'
      exact k _ C3 _ S3 H3 q3' rp3 (l1.trans (l2.trans l3)) (.bl false)
  | _ => exact q3.elim
theorem je_chain {op op' : CmpOp} {o o' : R → R → Cs → Qe → Prop} (ho : JOp X Z (compareOp op) o) (ho' : JOp X Z (compareOp op') o') (ha : JE X Z a ma) (hb : JE X Z b mb) (hc : JE X Z c mc)
    (hm : lastMarks [op, op'] [b, c] = false := by with_unfolding_all rfl) : JE X Z (.Compare a [op, op'] [b, c] pos) (mChain o o' ma mb mc) := by
  obtain ⟨r, h1, h2⟩ := ho
  obtain ⟨r', h1', h2'⟩ := ho'
  obtain ⟨ta, pa, ka⟩ := ha
  obtain ⟨tb, pb, kb⟩ := hb
  obtain ⟨tc, pc, kc⟩ := hc
  exact ⟨_, pe_chain h1 h1' pa pb pc hm, tr_chain h2 h2' ka kb kc⟩
theorem jt_chain {op op' : CmpOp} {o o' : R → R → Cs → Qe → Prop} (ho : JOp X Z (compareOp op) o) (ho' : JOp X Z (compareOp op') o') (ha : JE X Z a ma) (hb : JE X Z b mb) (hc : JE X Z c mc)
    (hm : lastMarks [op, op'] [b, c] = false := by with_unfolding_all rfl) : JT X Z (.Compare a [op, op'] [b, c] pos) (mVal (mChain o o' ma mb mc)) := by
  obtain ⟨r, h1, h2⟩ := ho
  obtain ⟨r', h1', h2'⟩ := ho'
  obtain ⟨ta, pa, ka⟩ := ha
  obtain ⟨tb, pb, kb⟩ := hb
  obtain ⟨tc, pc, kc⟩ := hc
  exact ⟨_, pt_chain h1 h1' pa pb pc hm, tr_test (tr_chain h2 h2' ka kb kc)⟩

/-! ### the operators on ints -/
theorem jo_add : JOp X Z (binaryOp .Add) oAdd := ⟨_, op_add, fun S H C x y rx ry Qm Q rp dx dy k q => by
  cases dx <;> cases dy <;> first | exact q.elim | exact ⟨_, _, rfl, rfl, k _ _ _ _ _ q rp (Le.refl _ _) (.int _)⟩⟩
theorem jo_sub : JOp X Z (binaryOp .Sub) oSub := ⟨_, op_sub, fun S H C x y rx ry Qm Q rp dx dy k q => by
  cases dx <;> cases dy <;> first | exact q.elim | exact ⟨_, _, rfl, rfl, k _ _ _ _ _ q rp (Le.refl _ _) (.int _)⟩⟩
theorem jo_mul : JOp X Z (binaryOp .Mult) oMul := ⟨_, op_mulW, fun S H C x y rx ry Qm Q rp dx dy k q => by
  cases dx <;> cases dy <;> first | exact q.elim | exact ⟨_, _, rfl, rfl, wide_mul q.1.1 q.1.2 (by decide) (by decide) (by decide), k _ _ _ _ _ q.2 rp (Le.refl _ _) (.int _)⟩⟩
theorem jo_div : JOp X Z (binaryOp .FloorDiv) oDiv := ⟨_, op_fdivW, fun S H C x y rx ry Qm Q rp dx dy k q => by
  cases dx <;> cases dy <;> first | exact q.elim | exact ⟨_, _, rfl, rfl, wide_div q.1.1 q.1.2 (by decide) (by decide), k _ _ _ _ _ q.2 rp (Le.refl _ _) (.int _)⟩⟩
theorem jo_mod : JOp X Z (binaryOp .Mod) oMod := ⟨_, op_mod, fun S H C x y rx ry Qm Q rp dx dy k q => by
  cases dx <;> cases dy <;> first | exact q.elim | exact ⟨_, _, rfl, rfl, q.1, k _ _ _ _ _ q.2 rp (Le.refl _ _) (.int _)⟩⟩
theorem jo_pow : JOp X Z (binaryOp .Pow) oPow := ⟨_, op_pow, fun S H C x y rx ry Qm Q rp dx dy k q => by
  cases dx <;> cases dy <;> first | exact q.elim | exact ⟨_, _, rfl, rfl, q.1, k _ _ _ _ _ q.2 rp (Le.refl _ _) (.int _)⟩⟩
theorem jo_shl : JOp X Z (binaryOp .LShift) oShl := ⟨_, op_shl, fun S H C x y rx ry Qm Q rp dx dy k q => by
  cases dx <;> cases dy <;> first | exact q.elim | exact ⟨_, _, rfl, rfl, q.1, k _ _ _ _ _ q.2 rp (Le.refl _ _) (.int _)⟩⟩
theorem jo_shr : JOp X Z (binaryOp .RShift) oShr := ⟨_, op_shr, fun S H C x y rx ry Qm Q rp dx dy k q => by
  cases dx <;> cases dy <;> first | exact q.elim | exact ⟨_, _, rfl, rfl, q.1, k _ _ _ _ _ q.2 rp (Le.refl _ _) (.int _)⟩⟩
theorem jo_lt : JOp X Z (compareOp .Lt) oLt := ⟨_, op_lt, fun S H C x y rx ry Qm Q rp dx dy k q => by
  cases dx <;> cases dy <;> first | exact q.elim | exact ⟨_, _, rfl, rfl, k _ _ _ _ _ q rp (Le.refl _ _) (.bl _)⟩⟩
theorem jo_le : JOp X Z (compareOp .LtE) oLe := ⟨_, op_le, fun S H C x y rx ry Qm Q rp dx dy k q => by
  cases dx <;> cases dy <;> first | exact q.elim | exact ⟨_, _, rfl, rfl, k _ _ _ _ _ q rp (Le.refl _ _) (.bl _)⟩⟩
theorem jo_gt : JOp X Z (compareOp .Gt) oGt := ⟨_, op_gt, fun S H C x y rx ry Qm Q rp dx dy k q => by
  cases dx <;> cases dy <;> first | exact q.elim | exact ⟨_, _, rfl, rfl, k _ _ _ _ _ q rp (Le.refl _ _) (.bl _)⟩⟩
theorem jo_ge : JOp X Z (compareOp .GtE) oGe := ⟨_, op_ge, fun S H C x y rx ry Qm Q rp dx dy k q => by
  cases dx <;> cases dy <;> first | exact q.elim | exact ⟨_, _, rfl, rfl, k _ _ _ _ _ q rp (Le.refl _ _) (.bl _)⟩⟩

/-! ### and, or, not, if .. else -/
theorem jw_and1 (ha : JT X Z a mt) : JW X Z (.BoolOp .And [a] pos) mt := let ⟨t, p, k⟩ := ha; ⟨t, pw_and1 p, k⟩
theorem jw_or1 (ha : JT X Z a mt) : JW X Z (.BoolOp .Or [a] pos) mt := let ⟨t, p, k⟩ := ha; ⟨t, pw_or1 p, k⟩
theorem jw_and {rest : List Expr} (ha : JT X Z a mt) (hb : JW X Z (.BoolOp .And (b :: rest) pos) mu) : JW X Z (.BoolOp .And (a :: b :: rest) pos) (mAndT mt mu) := by
  obtain ⟨t, p, k⟩ := ha
  obtain ⟨u, pu, ku⟩ := hb
  refine ⟨_, pw_and p pu, fun S σ H Γ C Qm Q A l q => ?_⟩
  refine k S σ H Γ C _ _ A (fun b C1 S1 H1 q1 rp1 l1 => ?_) q
  cases b with
  | true => simp only [if_true] at q1 ⊢; exact ku S1 σ H1 Γ C1 _ _ (A.go l1 rp1) (l.go l1) q1
  | false => simp only [Bool.false_eq_true, if_false] at q1 ⊢; exact l false C1 S1 H1 q1 rp1 l1
theorem jw_or {rest : List Expr} (ha : JT X Z a mt) (hb : JW X Z (.BoolOp .Or (b :: rest) pos) mu) : JW X Z (.BoolOp .Or (a :: b :: rest) pos) (mOrT mt mu) := by
  obtain ⟨t, p, k⟩ := ha
  obtain ⟨u, pu, ku⟩ := hb
  refine ⟨_, pw_or p pu, fun S σ H Γ C Qm Q A l q => ?_⟩
  refine k S σ H Γ C _ _ A (fun b C1 S1 H1 q1 rp1 l1 => ?_) q
  cases b with
  | false => simp only [Bool.false_eq_true, if_false] at q1 ⊢; exact ku S1 σ H1 Γ C1 _ _ (A.go l1 rp1) (l.go l1) q1
  | true => simp only [if_true] at q1 ⊢; exact l true C1 S1 H1 q1 rp1 l1
theorem JW.jt (h : JW X Z a mt) : JT X Z a mt := let ⟨t, p, k⟩ := h; ⟨t, p.pt, k⟩
theorem jt_not (ha : JT X Z a mt) : JT X Z (.UnaryOp .Not a pos) (mNotT mt) := by
  obtain ⟨t, p, k⟩ := ha
  exact ⟨_, pt_not p, fun S σ H Γ C Qm Q A l q => k S σ H Γ C _ _ A (fun b C1 S1 H1 q1 rp1 l1 => l _ C1 S1 H1 q1 rp1 l1) q⟩
theorem je_one {op} (h : JE X Z a m) : JE X Z (.BoolOp op [a] pos) m := let ⟨t, p, k⟩ := h; ⟨t, pe_one p, k⟩
theorem je_and {rest : List Expr} (ha : JE X Z a ma) (hb : JE X Z (.BoolOp .And (b :: rest) pos) mb) : JE X Z (.BoolOp .And (a :: b :: rest) pos) (mAndE ma mb) := by
  obtain ⟨t, p, k⟩ := ha
  obtain ⟨u, pu, ku⟩ := hb
  refine ⟨_, pe_and p pu, fun S σ H Γ C Qm Q A l q => ?_⟩
  refine k S σ H Γ C _ _ A (fun r C1 v S1 H1 q1 rp1 l1 d1 => ?_) q
  cases d1 with
  | bl b =>
    refine ⟨b, rfl, ?_⟩
    cases b with
    | true => simp only [if_true] at q1 ⊢; exact ku S1 σ H1 Γ C1 _ _ (A.go l1 rp1) (l.go l1) q1
    | false => simp only [Bool.false_eq_true, if_false] at q1 ⊢; exact l _ C1 _ S1 H1 q1 rp1 l1 (.bl false)
  | _ => exact q1.elim
theorem je_or {rest : List Expr} (ha : JE X Z a ma) (hb : JE X Z (.BoolOp .Or (b :: rest) pos) mb) : JE X Z (.BoolOp .Or (a :: b :: rest) pos) (mOrE ma mb) := by
  obtain ⟨t, p, k⟩ := ha
  obtain ⟨u, pu, ku⟩ := hb
  refine ⟨_, pe_or p pu, fun S σ H Γ C Qm Q A l q => ?_⟩
  refine k S σ H Γ C _ _ A (fun r C1 v S1 H1 q1 rp1 l1 d1 => ?_) q
  cases d1 with
  | bl b =>
    refine ⟨b, rfl, ?_⟩
    cases b with
    | false => simp only [Bool.false_eq_true, if_false] at q1 ⊢; exact ku S1 σ H1 Γ C1 _ _ (A.go l1 rp1) (l.go l1) q1
    | true => simp only [if_true] at q1 ⊢; exact l _ C1 _ S1 H1 q1 rp1 l1 (.bl true)
  | _ => exact q1.elim
theorem je_not (ha : JE X Z a ma) : JE X Z (.UnaryOp .Not a pos) (mNotE ma) := by
  obtain ⟨t, p, k⟩ := ha
  refine ⟨_, pe_not p, fun S σ H Γ C Qm Q A l q => k S σ H Γ C _ _ A (fun r C1 v S1 H1 q1 rp1 l1 d1 => ?_) q⟩
  cases d1 with
  | bl b => exact ⟨b, rfl, l _ C1 _ S1 H1 q1 rp1 l1 (.bl _)⟩
  | _ => exact q1.elim
theorem je_if (hc : JT X Z c mt) (ha : JE X Z a ma) (hb : JE X Z b mb) : JE X Z (.IfExp c a b pos) (mIfE mt ma mb) := by
  obtain ⟨tc, pc, kc⟩ := hc
  obtain ⟨t, p, k⟩ := ha
  obtain ⟨u, pu, ku⟩ := hb
  refine ⟨_, pe_ifExp pc p pu, fun S σ H Γ C Qm Q A l q => ?_⟩
  refine kc S σ H Γ C _ _ A (fun b C1 S1 H1 q1 rp1 l1 => ?_) q
  cases b with
  | true => simp only [if_true] at q1 ⊢; exact k S1 σ H1 Γ C1 _ _ (A.go l1 rp1) (l.go l1) q1
  | false => simp only [Bool.false_eq_true, if_false] at q1 ⊢; exact ku S1 σ H1 Γ C1 _ _ (A.go l1 rp1) (l.go l1) q1
theorem je_neg (ha : JE X Z a ma) : JE X Z (.UnaryOp .USub a pos) (mUn oNeg ma) := by
  obtain ⟨t, p, k⟩ := ha
  refine ⟨_, pe_un un_neg p, fun S σ H Γ C Qm Q A l q => k S σ H Γ C _ _ A (fun r C1 v S1 H1 q1 rp1 l1 d1 => ?_) q⟩
  cases d1 with
  | int i => exact ⟨i, rfl, l _ C1 _ S1 H1 q1 rp1 l1 (.int _)⟩
  | _ => exact q1.elim

/-! ### argument lists, displays -/
theorem ja_nil : JA X Z [] mNil := ⟨_, pa_nil, fun S σ H Γ C Qm Q A l q => l [] C [] S H q A.rp (Le.refl _ _) .nil⟩
theorem ja_cons {am : MA} (ha : JE X Z e m) (hr : JA X Z es am) (hs : starEach (e :: es) X.env = (false, eval e X.env) :: starEach es X.env := by rfl) : JA X Z (e :: es) (mCons m am) := by
  obtain ⟨t, p, k⟩ := ha
  obtain ⟨u, pu, ku⟩ := hr
  refine ⟨_, pa_cons p pu hs, fun S σ H Γ C Qm Q A l q => ?_⟩
  refine k S σ H Γ C _ _ A (fun r C1 v S1 H1 q1 rp1 l1 d1 => ?_) q
  refine ku S1 σ H1 Γ C1 _ _ (A.go l1 rp1) (fun rs C2 vs S2 H2 q2 rp2 l2 d2 => ?_) q1
  exact l _ C2 _ S2 H2 q2 rp2 (l1.trans l2) (.cons (d1.mono l2) d2)
theorem jk_nil : JK X Z [] mNil := ⟨_, pk_nil, fun S σ H Γ C Qm Q A l q => l [] C [] S H q A.rp (Le.refl _ _) .nil⟩
theorem jk_cons {am : MA} {nm : Option Str} {kpos : Pos} {kws : List Keyword} (ha : JE X Z e m) (hr : JK X Z kws am) : JK X Z (⟨nm, e, kpos⟩ :: kws) (mCons m am) := by
  obtain ⟨t, p, k⟩ := ha
  obtain ⟨u, pu, ku⟩ := hr
  refine ⟨_, pk_cons p pu, fun S σ H Γ C Qm Q A l q => ?_⟩
  refine k S σ H Γ C _ _ A (fun r C1 v S1 H1 q1 rp1 l1 d1 => ?_) q
  refine ku S1 σ H1 Γ C1 _ _ (A.go l1 rp1) (fun rs C2 vs S2 H2 q2 rp2 l2 d2 => ?_) q1
  exact l _ C2 _ S2 H2 q2 rp2 (l1.trans l2) (.cons (d1.mono l2) d2)
theorem je_tup {x1} {am : MA} (h : JA X Z es am) : JE X Z (.Tuple es x1 pos) (mTup am) := by
  obtain ⟨t, p, k⟩ := h
  refine ⟨_, pe_tup p, fun S σ H Γ C Qm Q A l q => k S σ H Γ C _ _ A (fun rs C1 vs S1 H1 q1 rp1 l1 d1 => ?_) q⟩
  refine ⟨by rw [d1.length, sizeLine_eq]; exact q1.1, fun p hp => ?_⟩
  obtain ⟨rp2, l2⟩ := rp1.freeze (o := .tup vs) hp
  exact l _ C1 _ _ _ q1.2 rp2 (l1.trans l2) (.tup (SqT.of (by exact upd_same)) (d1.mono l2))
/-- a new list has come -/
theorem new_lst {S : Wd} {H : Hp} {C : Cs} {cell : Bool} {Qm : Qe} {Q : VK} {vs : List V} {rs : List R} {p : Addr} (rp : Rep X.K S H C) (k : LkE X.K Z S H Qm Q) (d : DL X.K S vs rs) (hp : H p = none) (q : newL cell rs C Qm) :
    Q (.ref p) (upd H p (.lst vs)) := by
  cases cell with
  | false =>
    obtain ⟨rp2, l2⟩ := rp.freeze (o := .lst vs) hp
    exact k _ C _ _ _ q rp2 l2 (.lst (by exact upd_same) (d.mono l2))
  | true =>
    obtain ⟨rp2, l2⟩ := rp.grow (o := .lst vs) (c := .lst rs) hp fun S' l => ⟨vs, upd_same, d.mono l⟩
    exact k _ _ _ _ _ q rp2 l2 (.cell (by show (S.ps ++ [p])[C.length]? = some p; rw [← rp.len]; simp))
theorem je_lst (cell : Bool) {am : MA} (h : JA X Z es am) : JE X Z (.List es pos) (mLst cell am) := by
  obtain ⟨t, p, k⟩ := h
  refine ⟨_, pe_lst p, fun S σ H Γ C Qm Q A l q => k S σ H Γ C _ _ A (fun rs C1 vs S1 H1 q1 rp1 l1 d1 => ?_) q⟩
  exact ⟨by rw [d1.length, sizeLine_eq]; exact q1.1, fun p hp => new_lst rp1 (l.go l1) d1 hp q1.2⟩
end
end NB

set_option Elab.async false
set_option linter.all false
set_option maxRecDepth 100000
set_option maxHeartbeats 1000000
namespace NB
open PySem PySem.Spec L2

/-! ### what stands behind a tree -/
section
variable {K : PySem.W.Frag} {S : Wd} {H : Hp} {C : Cs} {v : V} {r : R} {xs : List R}
theorem cell_at (rp : Rep K S H C) {k : Nat} {a : Addr} {c : Ct} (h : S.ps[k]? = some a) (hc : C[k]? = some c) : CtOk K S H a c := rp.at_ k a c h hc
theorem lst_of (rp : Rep K S H C) (d : D K S v r) (h : lstOf C r = some xs) : ∃ a vs, v = .ref a ∧ SqL K H a vs ∧ DL K S vs xs := by
  cases d with
  | lst q t =>
    cases (show some _ = some xs from h)
    exact ⟨_, _, rfl, SqL.of (rp.sub _ _ q), t⟩
  | scr q t =>
    cases (show some _ = some xs from h)
    exact ⟨_, _, rfl, sqL_mono rp.sub q, t⟩
  | @cell a k q =>
    unfold lstOf at h
    dsimp only at h
    cases e : C[k]? with
    | none => rw [e] at h; cases h
    | some c =>
      rw [e] at h
      cases c with
      | lst ys =>
        cases (show some _ = some xs from h)
        obtain ⟨vs, z, t⟩ := cell_at rp q e
        exact ⟨_, _, rfl, SqL.of z, t⟩
      | _ => cases h
  | _ => cases h
/-- not the script -/
theorem lst_ofH (rp : Rep K S H C) (d : D K S v r) (h : lstOf C r = some xs) (hn : ∀ ys, r ≠ .scr ys) : ∃ a vs, v = .ref a ∧ H a = some (.lst vs) ∧ DL K S vs xs := by
  cases d with
  | lst q t =>
    cases (show some _ = some xs from h)
    exact ⟨_, _, rfl, rp.sub _ _ q, t⟩
  | scr q t => exact absurd rfl (hn _)
  | @cell a k q =>
    unfold lstOf at h
    dsimp only at h
    cases e : C[k]? with
    | none => rw [e] at h; cases h
    | some c =>
      rw [e] at h
      cases c with
      | lst ys =>
        cases (show some _ = some xs from h)
        obtain ⟨vs, z, t⟩ := cell_at rp q e
        exact ⟨_, _, rfl, z, t⟩
      | _ => cases h
  | _ => cases h
theorem tup_of (rp : Rep K S H C) (d : D K S v (.tup xs)) : ∃ a vs, v = .ref a ∧ SqT K H a vs ∧ DL K S vs xs := by
  cases d with
  | tup q t => exact ⟨_, _, rfl, sqT_mono rp.sub q, t⟩
theorem seq_of (rp : Rep K S H C) (d : D K S v r) (h : seqOf C r = some xs) : ∃ a vs, v = .ref a ∧ (SqL K H a vs ∨ SqT K H a vs) ∧ DL K S vs xs := by
  cases d with
  | tup q t =>
    cases (show some _ = some xs from h)
    exact ⟨_, _, rfl, .inr (sqT_mono rp.sub q), t⟩
  | lst q t => obtain ⟨a, vs, e, z, t⟩ := lst_of rp (.lst q t) h; exact ⟨a, vs, e, .inl z, t⟩
  | scr q t => obtain ⟨a, vs, e, z, t⟩ := lst_of rp (.scr q t) h; exact ⟨a, vs, e, .inl z, t⟩
  | cell q => obtain ⟨a, vs, e, z, t⟩ := lst_of rp (.cell q) h; exact ⟨a, vs, e, .inl z, t⟩
  | _ => cases h
theorem ixM_eq : ixM = ixN := rfl
theorem atM_dl {vs : List V} (t : DL K S vs xs) {i : Int} {x : R} (h : atM xs i = some x) : ∃ y, atI vs i = some y ∧ D K S y x := by
  unfold atM at h
  unfold atI
  rw [← ixM_eq, t.length]
  cases e : ixM xs.length i with
  | none => rw [e] at h; cases h
  | some j =>
    rw [e] at h
    exact t.get (by simpa using h)
theorem cutM_dl {vs : List V} (t : DL K S vs xs) (lo hi : Option Int) : DL K S (cutV vs lo hi) (cutM xs lo hi) := by
  have e : ∀ n d o, HT.sIx n d o = sIxM n d o := fun n d o => by cases o <;> rfl
  unfold cutV cutM
  rw [e, e, t.length]
  exact (t.drop _).take _
theorem dl_ints : ∀ {vs : List V} {xs : List R} {ns : List Int}, DL K S vs xs → intsOf xs = some ns → vs = ns.map V.int
  | _, _, ns, .nil, h => by cases h; rfl
  | _, _, ns, .cons d t, h => by
    cases d with
    | int i =>
      unfold intsOf at h
      obtain ⟨ms, e, z⟩ := Option.map_eq_some_iff.mp h
      subst z
      rw [dl_ints t e]
      rfl
    | _ => cases h
theorem dl_bls : ∀ {vs : List V} {xs : List R} {ns : List Bool}, DL K S vs xs → blsOf xs = some ns → vs = ns.map V.bl
  | _, _, ns, .nil, h => by cases h; rfl
  | _, _, ns, .cons d t, h => by
    cases d with
    | bl i =>
      unfold blsOf at h
      obtain ⟨ms, e, z⟩ := Option.map_eq_some_iff.mp h
      subst z
      rw [dl_bls t e]
      rfl
    | _ => cases h
theorem dl_int : ∀ ns : List Int, DL K S (ns.map V.int) (ns.map R.int)
  | [] => .nil
  | n :: ns => .cons (.int n) (dl_int ns)
end

section
variable {X : Cx} {Z : Zx} {a b c e o : Expr} {es : List Expr} {ma mb mc m : ME} {mt mu : MT} {am ak : MA} {pos : Pos} {id T : String} {f : List R → Cs → Qe → Prop}

/-! ### subscripts, slices -/
theorem je_ix (ha : JE X Z a ma) (hb : JE X Z b mb) (hs : PlainIx b := by exact fun _ _ => rfl) : JE X Z (.Subscript a b pos) (mOp oIx ma mb) := by
  obtain ⟨ta, pa, ka⟩ := ha
  obtain ⟨tb, pb, kb⟩ := hb
  refine ⟨_, pe_ix ix_seq pa pb hs, tr_op (fun S H C x y rx ry Qm Q rp dx dy k q => ?_) ka kb⟩
  cases dy with
  | int i =>
    have main : ∀ {xs : List R}, seqOf C rx = some xs → (match atM xs i with
      | some r => Qm r C
      | none => False) → rIx X.K x (.int i) H Q := fun {xs} hs q => by
      cases e : atM xs i with
      | none => rw [e] at q; exact q.elim
      | some r =>
        rw [e] at q
        obtain ⟨p, vs, rfl, z, t⟩ := seq_of rp dx hs
        obtain ⟨y, h1, h2⟩ := atM_dl t e
        rcases z with z | z
        · exact .inl ⟨p, vs, i, y, rfl, rfl, z, h1, k _ _ _ _ _ q rp (Le.refl _ _) h2⟩
        · exact .inr (.inl ⟨p, vs, i, y, rfl, rfl, z, h1, k _ _ _ _ _ q rp (Le.refl _ _) h2⟩)
    have alt : ∀ {r : R} {xs : List R}, rx = r → seqOf C r = some xs → (match atM xs i with
      | some r => Qm r C
      | none => False) → rIx X.K x (.int i) H Q := fun e h q => main (by rw [e]; exact h) q
    cases dx with
    | str z =>
      unfold oIx at q
      dsimp only at q
      cases e : atM z.cps.toList i with
      | none => rw [e] at q; exact q.elim
      | some c =>
        rw [e] at q
        exact .inr (.inr ⟨z, i, c, rfl, rfl, by rw [sizeLine_eq]; exact q.1, e, k _ _ _ _ _ q.2 rp (Le.refl _ _) (.str _)⟩)
    | tup h t => exact main rfl q
    | lst h t => exact main rfl q
    | scr h t => exact main rfl q
    | @cell a kk h =>
      unfold oIx at q
      dsimp only at q
      cases e : seqOf C (.cell kk) with
      | none => rw [e] at q; exact q.elim
      | some xs => rw [e] at q; exact main e q
    | _ => exact q.elim
  | _ => cases dx <;> exact q.elim
def JO (X : Cx) (Z : Zx) (e : Option Expr) (m : MO) : Prop := ∃ t, PO X e t ∧ ∀ S σ H Γ C Qm Q, At X.K Z S σ H Γ C → (∀ r C' S' H', Qm r C' → Rep X.K S' H' C' → Le S H S' H' → Q r H') → m Γ C Qm → t σ H Q
theorem jo_none : JO X Z none mO0 := ⟨_, po_none, fun S σ H Γ C Qm Q A k q => k _ C S H q A.rp (Le.refl _ _)⟩
theorem jo_some (h : JE X Z e m) : JO X Z (some e) (mO1 m) := by
  obtain ⟨t, p, k⟩ := h
  refine ⟨_, po_some p, fun S σ H Γ C Qm Q A l q => k S σ H Γ C _ _ A (fun r C1 v S1 H1 q1 rp1 l1 d1 => ?_) q⟩
  cases d1 with
  | int i => exact ⟨i, rfl, l _ C1 S1 H1 q1 rp1 l1⟩
  | _ => exact q1.elim
theorem je_slice (cell : Bool) {lo hi : Option Expr} {ml mh : MO} {p2 : Pos} (ha : JE X Z a ma) (hl : JO X Z lo ml) (hh : JO X Z hi mh) : JE X Z (.Subscript a (.Slice lo hi none p2) pos) (mSl cell ma ml mh) := by
  obtain ⟨t, p, k⟩ := ha
  obtain ⟨tl, pl, kl⟩ := hl
  obtain ⟨th, ph, kh⟩ := hh
  refine ⟨_, pe_slice (SlR.or (SlR.or sl_list sl_tup) sl_str) p pl ph, fun S σ H Γ C Qm Q A l q => ?_⟩
  refine k S σ H Γ C _ _ A (fun r C1 v S1 H1 q1 rp1 l1 d1 => ?_) q
  refine kl S1 σ H1 Γ C1 _ _ (A.go l1 rp1) (fun i C2 S2 H2 q2 rp2 l2 => ?_) q1
  refine kh S2 σ H2 Γ C2 _ _ (A.go (l1.trans l2) rp2) (fun j C3 S3 H3 q3 rp3 l3 => ?_) q2
  have d3 := d1.mono (l2.trans l3)
  have l' := l.go (l1.trans (l2.trans l3))
  have main : ∀ {xs : List R}, lstOf C3 r = some xs → newL cell (cutM xs i j) C3 Qm → (rSlL X.K v i j H3 Q ∨ rSlT X.K v i j H3 Q) ∨ rSlS v i j H3 Q := fun {xs} hs q => by
    obtain ⟨p, vs, rfl, z, t⟩ := lst_of rp3 d3 hs
    exact .inl (.inl ⟨p, vs, rfl, z, fun p hp => new_lst rp3 l' (cutM_dl t i j) hp q⟩)
  cases d3 with
  | @tup _ _ xs h t =>
    obtain ⟨a, vs, e, z, t⟩ := tup_of rp3 (D.tup h t)
    have e' : ∀ n d o, HT.sIx n d o = sIxM n d o := fun n d o => by cases o <;> rfl
    refine .inl (.inr ⟨a, vs, e, z, ?_, fun p hp => ?_⟩)
    · rw [e', e', t.length]; exact q3.1
    · obtain ⟨rp4, l4⟩ := rp3.freeze (o := .tup (cutV vs i j)) hp
      exact l' _ C3 _ _ _ q3.2 rp4 l4 (.tup (SqT.of (by exact upd_same)) ((cutM_dl t i j).mono l4))
  | str z =>
    have e' : ∀ n d o, HT.sIx n d o = sIxM n d o := fun n d o => by cases o <;> rfl
    refine .inr ⟨z, rfl, q3.1, ?_⟩
    have e : L2.cutS z i j = ⟨(cutM z.cps.toList i j).toArray⟩ := by
      unfold L2.cutS cutM
      rw [e', e', Array.length_toList]
      rfl
    rw [e]
    exact l' _ C3 _ _ _ q3.2 rp3 (Le.refl _ _) (.str _)
  | lst h t => exact main rfl q3
  | scr h t => exact main rfl q3
  | @cell a kk h =>
    unfold mSl at *
    dsimp only at q3
    cases e : lstOf C3 (.cell kk) with
    | none => rw [e] at q3; exact q3.elim
    | some xs => rw [e] at q3; exact main e q3
  | _ => exact q3.elim

/-! ### built-in functions by their argument lists -/
def JF (X : Cx) (Z : Zx) (f : Value) (o : List R → Cs → Qe → Prop) : Prop := ∃ r, CallR X f r ∧
  ∀ S H C xs rs Qm Q, Rep X.K S H C → DL X.K S xs rs → LkE X.K Z S H Qm Q → o rs C Qm → r xs H Q
theorem tr_fn {r : List V → Hp → VK → Prop} {t : TA} (h : ∀ S H C xs rs Qm Q, Rep X.K S H C → DL X.K S xs rs → LkE X.K Z S H Qm Q → f rs C Qm → r xs H Q) (ha : TrA X.K Z t am) : TrE X.K Z (tCB r t) (mFn f am) := by
  intro S σ H Γ C Qm Q A k q
  exact ha S σ H Γ C _ _ A (fun rs C1 vs S1 H1 q1 rp1 l1 d1 => h S1 H1 C1 vs rs Qm Q rp1 d1 (k.go l1) q1) q
theorem je_bltn {x : Str} {p : Pos} (hf : JF X Z (.builtin id) f) (hm : X.mg x = none) (ha : JA X Z (e :: es) am) (hg : Gl X x := by rfl) (hv : bootBuiltins x = some (.builtin id) := by decide +kernel) (hn : x ≠ "__name__" := by decide) (hdb : (x == ("__debug__" : Str)) = false := by decide)
    (he : starEach (e :: es) X.env = (false, eval e X.env) :: starEach es X.env := by rfl) (hpl : (backTo pos (starEach es X.env)).any (·.1) = false := by rfl) : JE X Z (.Call (.Name x p) (e :: es) [] pos) (mFn f am) := by
  obtain ⟨r, h1, h2⟩ := hf
  obtain ⟨t, pa, ka⟩ := ha
  exact ⟨_, pe_callB h1 hg hm hv pa hn hdb he hpl, tr_fn h2 ka⟩
theorem je_type {x : Str} {p : Pos} (hf : JF X Z (.type T) f) (hm : X.mg x = none) (ha : JA X Z (e :: es) am) (hg : Gl X x := by rfl) (hv : bootBuiltins x = some (.type T) := by decide +kernel) (hn : x ≠ "__name__" := by decide) (hdb : (x == ("__debug__" : Str)) = false := by decide)
    (he : starEach (e :: es) X.env = (false, eval e X.env) :: starEach es X.env := by rfl) (hpl : (backTo pos (starEach es X.env)).any (·.1) = false := by rfl) : JE X Z (.Call (.Name x p) (e :: es) [] pos) (mFn f am) := by
  obtain ⟨r, h1, h2⟩ := hf
  obtain ⟨t, pa, ka⟩ := ha
  exact ⟨_, pe_callTy h1 hg hm hv pa hn hdb he hpl, tr_fn h2 ka⟩
theorem CallR.or' {g : Value} {r r' : List V → Hp → VK → Prop} (h : CallR X g r) (h' : CallR X g r') : CallR X g (fun xs H Q => r xs H Q ∨ r' xs H Q) := by
  intro pins s σ H xs us Q I rv q
  rcases q with q | q
  · exact h pins s σ H xs us Q I rv q
  · exact h' pins s σ H xs us Q I rv q
theorem jf_abs : JF X Z (.builtin "abs") fAbs := ⟨_, call_abs, fun S H C xs rs Qm Q rp d k q => by
  unfold fAbs at q
  split at q
  · cases d with
    | cons d t => cases t; cases d; exact ⟨_, rfl, k _ _ _ _ _ q rp (Le.refl _ _) (.int _)⟩
  · exact q.elim⟩
theorem jf_max2 (hc : X.calm = true) : JF X Z (.builtin "max") fMax2 := ⟨_, call_max2 hc, fun S H C xs rs Qm Q rp d k q => by
  unfold fMax2 at q
  split at q
  · cases d with
    | cons d t => cases t with
      | cons d2 t => cases t; cases d; cases d2; exact ⟨_, _, rfl, k _ _ _ _ _ q rp (Le.refl _ _) (.int _)⟩
  · exact q.elim⟩
theorem jf_min2 (hc : X.calm = true) : JF X Z (.builtin "min") fMin2 := ⟨_, call_min2 hc, fun S H C xs rs Qm Q rp d k q => by
  unfold fMin2 at q
  split at q
  · cases d with
    | cons d t => cases t with
      | cons d2 t => cases t; cases d; cases d2; exact ⟨_, _, rfl, k _ _ _ _ _ q rp (Le.refl _ _) (.int _)⟩
  · exact q.elim⟩
theorem jf_int : JF X Z (.type "int") fInt := ⟨_, call_int1, fun S H C xs rs Qm Q rp d k q => by
  unfold fInt at q
  split at q
  · cases d with
    | cons d t => cases t; cases d; exact .inl ⟨_, rfl, k _ _ _ _ _ q rp (Le.refl _ _) (.int _)⟩
  · cases d with
    | cons d t => cases t; cases d; exact .inr ⟨_, rfl, k _ _ _ _ _ q rp (Le.refl _ _) (.int _)⟩
  · exact q.elim⟩
theorem jf_len : JF X Z (.builtin "len") fLen := ⟨_, CallR.or' call_len_str (CallR.or' call_len_seq call_lenD), fun S H C xs rs Qm Q rp d k q => by
  unfold fLen at q
  split at q
  · cases d with
    | cons d t => cases t; cases d; exact .inl ⟨_, rfl, by rw [sizeLine_eq]; exact q.1, k _ _ _ _ _ q.2 rp (Le.refl _ _) (.int _)⟩
  · rename_i kk
    cases d with
    | cons d t =>
      cases t
      cases d with
      | @cell a _ hp =>
        cases e : C[kk]? with
        | none => rw [e] at q; exact q.elim
        | some c =>
          rw [e] at q
          cases c with
          | lst ys =>
            obtain ⟨vs, z, t⟩ := cell_at rp hp e
            exact .inr (.inl ⟨a, vs, rfl, .inl (SqL.of z), by rw [t.length]; exact k _ _ _ _ _ q rp (Le.refl _ _) (.int _)⟩)
          | dct ys =>
            obtain ⟨kv, z, ek, t⟩ := cell_at rp hp e
            have el : kv.length = ys.length := by have := congrArg List.length ek; simpa using this
            exact .inr (.inr ⟨a, kv, rfl, z, by rw [el]; exact k _ _ _ _ _ q rp (Le.refl _ _) (.int _)⟩)
          | _ => exact q.elim
  · rename_i x _ _
    cases d with
    | cons d t =>
      cases t
      cases e : seqOf C x with
      | none => rw [e] at q; exact q.elim
      | some ys =>
        rw [e] at q
        obtain ⟨p, vs, rfl, z, t⟩ := seq_of rp d e
        exact .inr (.inl ⟨p, vs, rfl, z, by rw [t.length]; exact k _ _ _ _ _ q rp (Le.refl _ _) (.int _)⟩)
  · exact q.elim⟩
theorem jf_maxL (hc : X.calm = true) : JF X Z (.builtin "max") fMaxL := ⟨_, cr_max hc, fun S H C xs rs Qm Q rp d k q => by
  unfold fMaxL at q
  split at q
  · rename_i x
    cases d with
    | cons d t =>
      cases t
      cases e : lstOf C x with
      | none => rw [e] at q; exact q.elim
      | some ys =>
        rw [e] at q
        obtain ⟨p, vs, rfl, z, t⟩ := lst_of rp d e
        cases e2 : intsOf ys with
        | none => rw [Option.bind_some, e2] at q; exact q.elim
        | some ns =>
          rw [Option.bind_some, e2] at q
          exact ⟨p, ns, rfl, by rw [← dl_ints t e2]; exact z, q.1, fun m hm hy => k _ _ _ _ _ (q.2 m hm hy) rp (Le.refl _ _) (.int _)⟩
  · exact q.elim⟩
theorem jf_minL (hc : X.calm = true) : JF X Z (.builtin "min") fMinL := ⟨_, cr_min hc, fun S H C xs rs Qm Q rp d k q => by
  unfold fMinL at q
  split at q
  · rename_i x
    cases d with
    | cons d t =>
      cases t
      cases e : lstOf C x with
      | none => rw [e] at q; exact q.elim
      | some ys =>
        rw [e] at q
        obtain ⟨p, vs, rfl, z, t⟩ := lst_of rp d e
        cases e2 : intsOf ys with
        | none => rw [Option.bind_some, e2] at q; exact q.elim
        | some ns =>
          rw [Option.bind_some, e2] at q
          exact ⟨p, ns, rfl, by rw [← dl_ints t e2]; exact z, q.1, fun m hm hy => k _ _ _ _ _ (q.2 m hm hy) rp (Le.refl _ _) (.int _)⟩
  · exact q.elim⟩
theorem jf_list (cell : Bool) : JF X Z (.type "list") (fList cell) := ⟨_, call_list_of, fun S H C xs rs Qm Q rp d k q => by
  unfold fList at q
  split at q
  · rename_i x
    cases d with
    | cons d t =>
      cases t
      cases e : seqOf C x with
      | none => rw [e] at q; exact q.elim
      | some ys =>
        rw [e] at q
        obtain ⟨p, vs, rfl, z, t⟩ := seq_of rp d e
        exact ⟨p, vs, rfl, z, fun l hl => new_lst rp k t hl q⟩
  · exact q.elim⟩
theorem jf_tuple : JF X Z (.type "tuple") fTuple := ⟨_, call_tuple_of, fun S H C xs rs Qm Q rp d k q => by
  unfold fTuple at q
  split at q
  · cases d with
    | cons d t =>
      cases t
      obtain ⟨p, vs, rfl, z, t⟩ := tup_of rp d
      exact ⟨p, vs, rfl, .inr ⟨z, k _ _ _ _ _ q rp (Le.refl _ _) d⟩⟩
  · rename_i x _
    cases d with
    | cons d t =>
      cases t
      cases e : lstOf C x with
      | none => rw [e] at q; exact q.elim
      | some ys =>
        rw [e] at q
        obtain ⟨p, vs, rfl, z, t⟩ := lst_of rp d e
        refine ⟨p, vs, rfl, .inl ⟨z, fun l hl => ?_⟩⟩
        obtain ⟨rp2, l2⟩ := rp.freeze (o := .tup vs) hl
        exact k _ C _ _ _ q rp2 l2 (.tup (SqT.of (by exact upd_same)) (t.mono l2))
  · exact q.elim⟩
theorem jf_sum (hc : X.calm = true) : JF X Z (.builtin "sum") fSum := ⟨_, cr_sum hc, fun S H C xs rs Qm Q rp d k q => by
  unfold fSum at q
  split at q
  · rename_i x
    cases d with
    | cons d t =>
      cases t
      cases e : lstOf C x with
      | none => rw [e] at q; exact q.elim
      | some ys =>
        rw [e] at q
        obtain ⟨p, vs, rfl, z, t⟩ := lst_of rp d e
        cases e2 : intsOf ys with
        | none => rw [Option.bind_some, e2] at q; exact q.elim
        | some ns =>
          rw [Option.bind_some, e2] at q
          exact ⟨p, ns, rfl, by rw [← dl_ints t e2]; exact z, k _ _ _ _ _ q rp (Le.refl _ _) (.int _)⟩
  · exact q.elim⟩
theorem jf_all (hc : X.calm = true) : JF X Z (.builtin "all") fAll := ⟨_, cr_all hc, fun S H C xs rs Qm Q rp d k q => by
  unfold fAll at q
  split at q
  · rename_i x
    cases d with
    | cons d t =>
      cases t
      cases e : lstOf C x with
      | none => rw [e] at q; exact q.elim
      | some ys =>
        rw [e] at q
        obtain ⟨p, vs, rfl, z, t⟩ := lst_of rp d e
        cases e2 : blsOf ys with
        | none => rw [Option.bind_some, e2] at q; exact q.elim
        | some ns =>
          rw [Option.bind_some, e2] at q
          exact ⟨p, ns, rfl, by rw [← dl_bls t e2]; exact z, k _ _ _ _ _ q rp (Le.refl _ _) (.bl _)⟩
  · exact q.elim⟩
theorem jf_any (hc : X.calm = true) : JF X Z (.builtin "any") fAny := ⟨_, cr_any hc, fun S H C xs rs Qm Q rp d k q => by
  unfold fAny at q
  split at q
  · rename_i x
    cases d with
    | cons d t =>
      cases t
      cases e : lstOf C x with
      | none => rw [e] at q; exact q.elim
      | some ys =>
        rw [e] at q
        obtain ⟨p, vs, rfl, z, t⟩ := lst_of rp d e
        cases e2 : blsOf ys with
        | none => rw [Option.bind_some, e2] at q; exact q.elim
        | some ns =>
          rw [Option.bind_some, e2] at q
          exact ⟨p, ns, rfl, by rw [← dl_bls t e2]; exact z, k _ _ _ _ _ q rp (Le.refl _ _) (.bl _)⟩
  · exact q.elim⟩
theorem jo_cat (cell : Bool) : JOp X Z (binaryOp .Add) (oCat cell) := ⟨_, op_cat, fun S H C x y rx ry Qm Q rp dx dy k q => by
  unfold oCat at q
  split at q
  · exact q.elim
  · exact q.elim
  · rename_i n1 n2
    split at q
    · rename_i xs ys e1 e2
      obtain ⟨a, vs, rfl, h1, t1⟩ := lst_ofH rp dx e1 n1
      obtain ⟨b, us, rfl, h2, t2⟩ := lst_ofH rp dy e2 n2
      exact ⟨a, b, vs, us, rfl, rfl, h1, h2, by rw [t1.length, t2.length, sizeLine_eq]; exact q.1, fun p hp => new_lst rp k (t1.append t2) hp q.2⟩
    · exact q.elim⟩
theorem JOp.or {g : Value → Value → Sem Value} {o1 o2 : R → R → Cs → Qe → Prop} (h1 : JOp X Z g o1) (h2 : JOp X Z g o2) : JOp X Z g (fun x y C Q => o1 x y C Q ∨ o2 x y C Q) := by
  obtain ⟨r1, a1, b1⟩ := h1
  obtain ⟨r2, a2, b2⟩ := h2
  refine ⟨fun x y H Q => r1 x y H Q ∨ r2 x y H Q, fun pins s σ H x y v u Q I rx ry q => ?_, fun S H C x y rx ry Qm Q rp dx dy k q => ?_⟩
  · rcases q with q | q
    · exact a1 pins s σ H x y v u Q I rx ry q
    · exact a2 pins s σ H x y v u Q I rx ry q
  · rcases q with q | q
    · exact .inl (b1 S H C x y rx ry Qm Q rp dx dy k q)
    · exact .inr (b2 S H C x y rx ry Qm Q rp dx dy k q)
theorem jo_isN : JOp X Z (compareOp .Is) oIsN := ⟨_, op_isN, fun S H C x y rx ry Qm Q rp dx dy k q => by
  cases dy <;> first | exact q.elim | (refine ⟨rfl, ?_⟩; have q := k _ _ _ _ _ q rp (Le.refl _ _) (.bl _); cases dx <;> simpa using q)⟩
theorem jo_isNotN : JOp X Z (compareOp .IsNot) oIsNotN := ⟨_, op_notN, fun S H C x y rx ry Qm Q rp dx dy k q => by
  cases dy <;> first | exact q.elim | (refine ⟨rfl, ?_⟩; have q := k _ _ _ _ _ q rp (Le.refl _ _) (.bl _); cases dx <;> simpa using q)⟩
end
end NB

set_option Elab.async false
set_option linter.all false
set_option maxRecDepth 100000
set_option maxHeartbeats 1000000
namespace NB
open PySem PySem.Spec L2
section
variable {X : Cx} {Z : Zx} {a b c e o i tg iter : Expr} {es : List Expr} {st : Stmt} {rest sts sts' : List Stmt} {ma mb mc m mo mi : ME} {mt mu : MT} {am : MA} {ms mr : MS} {mg : MG} {mgs : MGs} {it : MI} {pos : Pos}

/-! ### statements -/
theorem jss_nil : JSs X Z [] mNext := ⟨_, pss_nil, fun S σ H Γ C Dm Ds A l q => l.nx Γ C σ S H q A.rp (Le.refl _ _) A.sg⟩
theorem jss_cons (h1 : JS X Z st ms) (h2 : JSs X Z rest mr) : JSs X Z (st :: rest) (mSeq ms mr) := by
  obtain ⟨t, p, k⟩ := h1
  obtain ⟨u, pu, ku⟩ := h2
  refine ⟨_, pss_cons p pu, fun S σ H Γ C Dm Ds A l q => k S σ H Γ C { Dm with nx := mr Dm } _ A ⟨fun Γ1 C1 σ1 S1 H1 q1 rp1 l1 g1 => ?_, l.rt, l.bk, l.ct⟩ q⟩
  exact ku S1 σ1 H1 Γ1 C1 _ _ (A.to l1 rp1 g1) (l.go l1) q1
theorem jss_one (h1 : JS X Z st ms) : JSs X Z [st] ms := let ⟨t, p, k⟩ := h1; ⟨t, pss_one p, k⟩
theorem js_expr (he : JE X Z e m) (hs : swapsWith e none pos.line X.env = pure false := by rfl) : JS X Z (.Expr e pos) (mDrop m) := by
  obtain ⟨t, p, k⟩ := he
  exact ⟨_, ps_expr p hs, fun S σ H Γ C Dm Ds A l q => k S σ H Γ C _ _ A (fun r C1 v S1 H1 q1 rp1 l1 d1 => l.nx Γ C1 σ S1 H1 q1 rp1 l1 (A.sg.mono l1)) q⟩
theorem js_ret (he : JE X Z e m) : JS X Z (.Return (some e) pos) (mRet m) := by
  obtain ⟨t, p, k⟩ := he
  exact ⟨_, ps_ret p, fun S σ H Γ C Dm Ds A l q => k S σ H Γ C _ _ A l.rt q⟩
theorem js_retN : JS X Z (.Return none pos) mRetN := ⟨_, ps_retN, fun S σ H Γ C Dm Ds A l q => l.rt.now A .non q⟩
theorem js_pass : JS X Z (.Pass pos) mNext := ⟨_, ps_pass, fun S σ H Γ C Dm Ds A l q => l.nx Γ C σ S H q A.rp (Le.refl _ _) A.sg⟩
theorem js_break : JS X Z (.Break pos) mBreak := ⟨_, ps_break, fun S σ H Γ C Dm Ds A l q => l.bk Γ C σ S H q A.rp (Le.refl _ _) A.sg⟩
theorem js_cont : JS X Z (.Continue pos) mCont := ⟨_, ps_continue, fun S σ H Γ C Dm Ds A l q => l.ct Γ C σ S H q A.rp (Le.refl _ _) A.sg⟩
theorem js_if (hc : JT X Z c mt) (ha : JSs X Z sts ms) (hb : JSs X Z sts' mr) : JS X Z (.If c sts sts' pos) (mIfS mt ms mr) := by
  obtain ⟨tc, pc, kc⟩ := hc
  obtain ⟨t, p, k⟩ := ha
  obtain ⟨u, pu, ku⟩ := hb
  refine ⟨_, ps_if pc p pu, fun S σ H Γ C Dm Ds A l q => kc S σ H Γ C _ _ A (fun b C1 S1 H1 q1 rp1 l1 => ?_) q⟩
  cases b with
  | true => simp only [if_true] at q1 ⊢; exact k S1 σ H1 Γ C1 _ _ (A.go l1 rp1) (l.go l1) q1
  | false => simp only [Bool.false_eq_true, if_false] at q1 ⊢; exact ku S1 σ H1 Γ C1 _ _ (A.go l1 rp1) (l.go l1) q1

/-! ### targets -/
theorem jg_name (n : Nat) {x : Str} (hN : X.N.Nodup) (hi : X.N[n]? = some x := by rfl) (hx : Loc X.env.scope x := by first | exact Or.inl rfl | exact Or.inr rfl) (hf : X.fn x = true ∨ X.env.scope.names.lookup x = some .local := by first | exact .inl rfl | exact .inr rfl) :
    JG X Z (.Name x pos) (gNm n) := ⟨_, pg_name hN hi hx hf, fun S σ H Γ C v r Qm Q A d l q => l _ C _ S H q A.rp (Le.refl _ _) (A.sg.set n d)⟩
theorem jgs_nil : JGs X Z [] gNl := ⟨_, pgs_nil, fun S σ H Γ C v r Qm Q A d l q => by
  cases d with
  | nil => exact ⟨rfl, l _ C _ S H q A.rp (Le.refl _ _) A.sg⟩
  | cons _ _ => exact q.elim⟩
theorem jgs_cons (h1 : JG X Z e mg) (h2 : JGs X Z es mgs) (he : (assignEach (e :: es) X.env).map (·.2) = assign e X.env :: (assignEach es X.env).map (·.2) := by rfl) : JGs X Z (e :: es) (gCn mg mgs) := by
  obtain ⟨t, p, k⟩ := h1
  obtain ⟨u, pu, ku⟩ := h2
  refine ⟨_, pgs_cons p pu he, fun S σ H Γ C v r Qm Q A d l q => ?_⟩
  cases d with
  | nil => exact q.elim
  | cons d t =>
    refine ⟨_, _, rfl, k S σ H Γ C _ _ _ _ A d (fun Γ1 C1 σ1 S1 H1 q1 rp1 l1 g1 => ?_) q⟩
    exact ku S1 σ1 H1 Γ1 C1 _ _ _ _ (A.to l1 rp1 g1) (t.mono l1) (fun Γ2 C2 σ2 S2 H2 q2 rp2 l2 g2 => l Γ2 C2 σ2 S2 H2 q2 rp2 (l1.trans l2) g2) q1
/-- (a, b) = a tuple: n the number of targets -/
theorem jg_tup {k n : Nat} (hc : X.calm = true) (h : JGs X Z es mgs) (hn : (assignEach es X.env).length = n := by rfl) (hst : (assignEach es X.env).findIdx? (·.1) = none := by rfl) :
    JG X Z (.Tuple es k pos) (gTp fun xs Γ C Q => xs.length = n ∧ mgs xs Γ C Q) := by
  obtain ⟨t, p, kk⟩ := h
  refine ⟨_, pg_tup (n := n) hc p hn hst, fun S σ H Γ C v r Qm Q A d l q => ?_⟩
  cases d with
  | @tup a vs rs hh t =>
    obtain ⟨a, vs, e, z, t⟩ := tup_of A.rp (D.tup hh t)
    exact ⟨a, vs, e, z, by rw [t.length]; exact q.1, kk S σ H Γ C vs rs Qm Q A t l q.2⟩
  | _ => exact q.elim
theorem jg_lst {k n : Nat} (hc : X.calm = true) (h : JGs X Z es mgs) (hn : (assignEach es X.env).length = n := by rfl) (hst : (assignEach es X.env).findIdx? (·.1) = none := by rfl) :
    JG X Z (.Tuple es k pos) (gLs fun xs Γ C Q => xs.length = n ∧ mgs xs Γ C Q) := by
  obtain ⟨t, p, kk⟩ := h
  refine ⟨_, pg_lst (n := n) hc p hn hst, fun S σ H Γ C v r Qm Q A d l q => ?_⟩
  unfold gLs at q
  split at q
  · rename_i xs e
    obtain ⟨a, vs, e, z, t⟩ := lst_of A.rp d e
    exact ⟨a, vs, e, z, by rw [t.length]; exact q.1, kk S σ H Γ C vs xs Qm Q A t l q.2⟩
  · exact q.elim
theorem js_asg (he : JE X Z e m) (hg : JG X Z tg mg) (hs : swapsWithSole [tg] e pos.line X.env = pure false := by rfl) (hw : swappedStores [tg] e X.env = pure none := by rfl) (h3 : (assignEach [tg] X.env).map (·.2) = [assign tg X.env] := by rfl) : JS X Z (.Assign [tg] e pos) (mAsg m mg) := by
  obtain ⟨t, p, k⟩ := he
  obtain ⟨u, pu, ku⟩ := hg
  refine ⟨_, ps_asg p pu hs hw h3, fun S σ H Γ C Dm Ds A l q => k S σ H Γ C _ _ A (fun r C1 v S1 H1 q1 rp1 l1 d1 => ?_) q⟩
  exact ku S1 σ H1 Γ C1 v r _ _ (A.go l1 rp1) d1 (fun Γ2 C2 σ2 S2 H2 q2 rp2 l2 g2 => l.nx Γ2 C2 σ2 S2 H2 q2 rp2 (l1.trans l2) g2) q1
theorem js_par (n k : Nat) {x y : Str} {px py pt pt2 : Pos} {kt k2 : Nat} (hc : X.calm = true) (hN : X.N.Nodup) (ha : JA X Z [a, b] am) (hi : X.N[n]? = some x := by rfl) (hj : X.N[k]? = some y := by rfl) (hij : n ≠ k := by decide)
    (hx : X.env.scope.names.lookup x = some .local := by rfl) (hy : X.env.scope.names.lookup y = some .local := by rfl)
    (hsw : swappedStores [.Tuple [.Name x px, .Name y py] kt pt] (.Tuple [a, b] k2 pt2) X.env = pure (some [x, y]) := by rfl) :
    JS X Z (.Assign [.Tuple [.Name x px, .Name y py] kt pt] (.Tuple [a, b] k2 pt2) pos) (mPar n k am) := by
  obtain ⟨t, p, kk⟩ := ha
  refine ⟨_, ps_par hc hN hi hj hij hx hy p hsw, fun S σ H Γ C Dm Ds A l q => kk S σ H Γ C _ _ A (fun r C1 v S1 H1 q1 rp1 l1 d1 => ?_) q⟩
  cases d1 with
  | nil => exact q1.elim
  | cons d1 t1 => cases t1 with
    | nil => exact q1.elim
    | cons d2 t2 => cases t2 with
      | nil => exact ⟨_, _, rfl, l.nx _ C1 _ S1 H1 q1 rp1 l1 (((A.sg.mono l1).set n d1).set k d2)⟩
      | cons _ _ => exact q1.elim
def JIp (X : Cx) (Z : Zx) (op : Operator) (o : R → R → Cs → Qe → Prop) : Prop := ∃ r, PIp X op r ∧
  ∀ S H C x y rx ry Qm Q, Rep X.K S H C → D X.K S x rx → D X.K S y ry → LkE X.K Z S H Qm Q → o rx ry C Qm → r x y H Q
theorem ji_add : JIp X Z .Add oAdd := ⟨_, ip_add, fun S H C x y rx ry Qm Q rp dx dy k q => by
  cases dx <;> cases dy <;> first | exact q.elim | exact ⟨_, _, rfl, rfl, k _ _ _ _ _ q rp (Le.refl _ _) (.int _)⟩⟩
theorem ji_sub : JIp X Z .Sub oSub := ⟨_, ip_sub, fun S H C x y rx ry Qm Q rp dx dy k q => by
  cases dx <;> cases dy <;> first | exact q.elim | exact ⟨_, _, rfl, rfl, k _ _ _ _ _ q rp (Le.refl _ _) (.int _)⟩⟩
theorem js_aug (n : Nat) {x : Str} {op : Operator} {oo : R → R → Cs → Qe → Prop} {pos' : Pos} (hN : X.N.Nodup) (he : JE X Z e m) (ho : JIp X Z op oo) (hi : X.N[n]? = some x := by rfl) (hx : Loc X.env.scope x := by first | exact Or.inl rfl | exact Or.inr rfl)
    (hf : X.fn x = true ∨ X.env.scope.names.lookup x = some .local := by first | exact .inl rfl | exact .inr rfl) : JS X Z (.AugAssign (.Name x pos') op e pos) (mAug n oo m) := by
  obtain ⟨t, p, k⟩ := he
  obtain ⟨r, h1, h2⟩ := ho
  refine ⟨_, ps_aug hN hi hx p h1 hf, fun S σ H Γ C Dm Ds A l q => ?_⟩
  unfold mAug at q
  split at q
  · rename_i rx ex
    obtain ⟨v, hv, dv⟩ := A.sg.at_ n rx ex
    refine ⟨v, hv, k S σ H Γ C _ _ A (fun ry C1 y S1 H1 q1 rp1 l1 d1 => ?_) q⟩
    refine h2 S1 H1 C1 v y rx ry _ _ rp1 (dv.mono l1) d1 (fun rz C2 z S2 H2 q2 rp2 l2 d2 => ?_) q1
    exact l.nx _ C2 _ S2 H2 q2 rp2 (l1.trans l2) ((A.sg.mono (l1.trans l2)).set n d2)
  · exact q.elim

/-! ### while -/
theorem js_while (hp : PassesOwn (model X.prog X.w) X.A X.env X.xe) (hc : JT X Z c mt) (hb : JSs X Z sts ms) : JS X Z (.While c sts [] pos) (mWhile mt ms) := by
  obtain ⟨tc, pc, kc⟩ := hc
  obtain ⟨t, p, k⟩ := hb
  refine ⟨_, ps_while hp pc p, fun S σ H Γ C Dm Ds A l q => ?_⟩
  obtain ⟨n, q⟩ := q
  refine ⟨fun m σ' H' => ∃ S' Γ' C', At X.K Z S' σ' H' Γ' C' ∧ Le S H S' H' ∧ whileN mt ms Dm m Γ' C', ⟨n, S, Γ, C, A, Le.refl _ _, q⟩, ?_⟩
  rintro m σ1 H1 ⟨S1, Γ1, C1, A1, l1, w⟩
  cases m with
  | zero => exact w.elim
  | succ m =>
    refine kc S1 σ1 H1 Γ1 C1 _ _ A1 (fun b C2 S2 H2 q2 rp2 l2 => ?_) w
    cases b with
    | true =>
      simp only [if_true] at q2 ⊢
      refine ⟨fun σ' H' => ∃ S' Γ' C', At X.K Z S' σ' H' Γ' C' ∧ Le S H S' H' ∧ whileN mt ms Dm m Γ' C', fun σ' H' h => ⟨m, Nat.lt_succ_self m, h⟩, ?_⟩
      have l12 := l1.trans l2
      refine k S2 σ1 H2 Γ1 C2 { Dm with nx := whileN mt ms Dm m, ct := whileN mt ms Dm m, bk := Dm.nx } _ (A1.go l2 rp2) ⟨fun Γ3 C3 σ3 S3 H3 q3 rp3 l3 g3 => ?_, (l.go l12).rt, (l.go l12).nx, fun Γ3 C3 σ3 S3 H3 q3 rp3 l3 g3 => ?_⟩ q2
      · exact ⟨S3, Γ3, C3, A1.to (l2.trans l3) rp3 g3, l12.trans l3, q3⟩
      · exact ⟨S3, Γ3, C3, A1.to (l2.trans l3) rp3 g3, l12.trans l3, q3⟩
    | false =>
      simp only [Bool.false_eq_true, if_false] at q2 ⊢
      exact (l.go (l1.trans l2)).nx Γ1 C2 σ1 S2 H2 q2 rp2 (Le.refl _ _) (A1.sg.mono l2)

/-! ### what is walked -/
/-- J yields the items xs from here on -/
structure Yl (K : PySem.W.Frag) (S : Wd) (H : Hp) (J : It) (xs : List R) : Prop where
  go : ∀ (i : Nat) S' H' C, Rep K S' H' C → Le S H S' H' → i < xs.length → J.go i H'
  yl : ∀ (i : Nat) S' H' C x H2, Rep K S' H' C → Le S H S' H' → i < xs.length → J.yld i H' x H2 → ∃ S2 r, xs[i]? = some r ∧ Rep K S2 H2 C ∧ Le S' H' S2 H2 ∧ D K S2 x r
  stop : ∀ (i : Nat) S' H' C, Rep K S' H' C → Le S H S' H' → xs.length ≤ i → J.stop i H'
def JI (X : Cx) (Z : Zx) (tg iter : Expr) (it : MI) : Prop := ∃ wi, PI X tg iter wi ∧ ∀ S σ H Γ C Qm R, At X.K Z S σ H Γ C →
  (∀ xs C' S' H' J, Qm xs C' → Rep X.K S' H' C' → Le S H S' H' → Yl X.K S' H' J xs → R J H') → it Γ C Qm → wi σ H R
theorem yl_list {K : PySem.W.Frag} {S : Wd} {H : Hp} {a : Addr} {vs : List V} {xs : List R} (h : SqL K S.G a vs) (t : DL K S vs xs) : Yl K S H (Itl K a) xs where
  go := fun i S' H' C rp l hi => ⟨vs, vs[i]'(by rw [t.length]; exact hi), sqL_mono (fun b o z => rp.sub b o (l.g b o z)) h, List.getElem?_eq_getElem _⟩
  yl := fun i S' H' C x H2 rp l hi y => by
    obtain ⟨rfl, y⟩ := y
    have e := y vs (sqL_mono (fun b o z => rp.sub b o (l.g b o z)) h)
    obtain ⟨r, hr, d⟩ := t.get' e
    exact ⟨S', r, hr, rp, Le.refl _ _, d.mono l⟩
  stop := fun i S' H' C rp l hi => ⟨vs, sqL_mono (fun b o z => rp.sub b o (l.g b o z)) h, by rw [t.length]; exact hi⟩
theorem yl_tup {K : PySem.W.Frag} {S : Wd} {H : Hp} {a : Addr} {vs : List V} {xs : List R} (h : SqT K S.G a vs) (t : DL K S vs xs) : Yl K S H (Itt K a) xs where
  go := fun i S' H' C rp l hi => ⟨vs, vs[i]'(by rw [t.length]; exact hi), sqT_mono (fun b o z => rp.sub b o (l.g b o z)) h, List.getElem?_eq_getElem _⟩
  yl := fun i S' H' C x H2 rp l hi y => by
    obtain ⟨rfl, y⟩ := y
    have e := y vs (sqT_mono (fun b o z => rp.sub b o (l.g b o z)) h)
    obtain ⟨r, hr, d⟩ := t.get' e
    exact ⟨S', r, hr, rp, Le.refl _ _, d.mono l⟩
  stop := fun i S' H' C rp l hi => ⟨vs, sqT_mono (fun b o z => rp.sub b o (l.g b o z)) h, by rw [t.length]; exact hi⟩
theorem ints_len : ∀ (n : Nat) (lo : Int), (upto lo n).length = n
  | 0, _ => rfl
  | n + 1, lo => congrArg (· + 1) (ints_len n (lo + 1))
theorem ints_get : ∀ (n : Nat) (lo : Int) (i : Nat), i < n → (upto lo n)[i]? = some (.int (lo + i))
  | n + 1, lo, 0, _ => by simp [upto]
  | n + 1, lo, i + 1, h => by
    have := ints_get n (lo + 1) i (by omega)
    simp only [upto, List.getElem?_cons_succ, this]
    congr 2
    push_cast
    omega
theorem yl_rng {K : PySem.W.Frag} {S : Wd} {H : Hp} (lo : Int) (n : Nat) : Yl K S H (Itr lo n) (upto lo n) where
  go := fun i S' H' C rp l hi => by rw [ints_len] at hi; exact hi
  yl := fun i S' H' C x H2 rp l hi y => by
    obtain ⟨rfl, rfl⟩ := y
    rw [ints_len] at hi
    exact ⟨S', _, ints_get n lo i hi, rp, Le.refl _ _, .int _⟩
  stop := fun i S' H' C rp l hi => by rw [ints_len] at hi; exact hi
theorem ji_list (h : JE X Z e m) : JI X Z tg e (iSeqL m) := by
  obtain ⟨t, p, k⟩ := h
  refine ⟨_, pi_list p, fun S σ H Γ C Qm Q A l q => k S σ H Γ C _ _ A (fun r C1 v S1 H1 q1 rp1 l1 d1 => ?_) q⟩
  cases d1 with
  | lst z t => exact ⟨_, rfl, ⟨_, SqL.of (rp1.sub _ _ z)⟩, l _ C1 S1 H1 _ q1 rp1 l1 (yl_list (SqL.of z) t)⟩
  | scr z t => exact ⟨_, rfl, ⟨_, sqL_mono rp1.sub z⟩, l _ C1 S1 H1 _ q1 rp1 l1 (yl_list z t)⟩
  | _ => exact q1.elim
theorem ji_tup (h : JE X Z e m) : JI X Z tg e (iSeqT m) := by
  obtain ⟨t, p, k⟩ := h
  refine ⟨_, pi_tup p, fun S σ H Γ C Qm Q A l q => k S σ H Γ C _ _ A (fun r C1 v S1 H1 q1 rp1 l1 d1 => ?_) q⟩
  cases d1 with
  | tup z t => exact ⟨_, rfl, ⟨_, sqT_mono rp1.sub z⟩, l _ C1 S1 H1 _ q1 rp1 l1 (yl_tup z t)⟩
  | _ => exact q1.elim
theorem ji_rng1 {p : Pos} (hm : X.mg "range" = none) (ha : JA X Z [a] am) (hg : Gl X "range" := by rfl) (hs : starEach [a] X.env = [(false, eval a X.env)] := by rfl) : JI X Z tg (.Call (.Name "range" p) [a] [] pos) (iRg1 am) := by
  obtain ⟨t, pa, k⟩ := ha
  refine ⟨_, pi_range1 hg hm pa hs, fun S σ H Γ C Qm Q A l q => k S σ H Γ C _ _ A (fun r C1 v S1 H1 q1 rp1 l1 d1 => ?_) q⟩
  split at q1
  · cases d1 with
    | cons d t => cases t; cases d; exact ⟨_, rfl, q1.1.1, q1.1.2, l _ C1 S1 H1 _ q1.2 rp1 l1 (yl_rng 0 _)⟩
  · exact q1.elim
theorem ji_rng2 {p : Pos} (hm : X.mg "range" = none) (ha : JA X Z [a, b] am) (hg : Gl X "range" := by rfl) (hs : starEach [a, b] X.env = [(false, eval a X.env), (false, eval b X.env)] := by rfl) (hs2 : starEach [b] X.env = [(false, eval b X.env)] := by rfl) : JI X Z tg (.Call (.Name "range" p) [a, b] [] pos) (iRg2 am) := by
  obtain ⟨t, pa, k⟩ := ha
  refine ⟨_, pi_range2 hg hm pa hs hs2, fun S σ H Γ C Qm Q A l q => k S σ H Γ C _ _ A (fun r C1 v S1 H1 q1 rp1 l1 d1 => ?_) q⟩
  split at q1
  · cases d1 with
    | cons d t => cases t with
      | cons d2 t => cases t; cases d; cases d2; exact ⟨_, _, rfl, q1.1, l _ C1 S1 H1 _ q1.2 rp1 l1 (yl_rng _ _)⟩
  · exact q1.elim
/-! ### for -/
theorem js_for (hp : PassesOwn (model X.prog X.w) X.A X.env X.xe) (hc : X.calm = true) (hi : JI X Z tg iter it) (hg : JG X Z tg mg) (hb : JSs X Z sts ms) (hs : ∀ x, foldedSetIterable iter X.env x = pure x := by intro _; rfl) : JS X Z (.For tg iter sts [] pos) (mFor it mg ms) := by
  obtain ⟨wi, pi, ki⟩ := hi
  obtain ⟨g, pg, kg⟩ := hg
  obtain ⟨t, p, k⟩ := hb
  refine ⟨_, ps_for hp hc pi pg p hs, fun S σ H Γ C Dm Ds A l q => ki S σ H Γ C _ _ A (fun xs C1 S1 H1 J q1 rp1 l1 y => ?_) q⟩
  refine ⟨fun i m σ' H' => m = xs.length - i ∧ ∃ S' Γ' C', At X.K Z S' σ' H' Γ' C' ∧ Le S1 H1 S' H' ∧ forL mg ms Dm (xs.drop i) Γ' C', ⟨xs.length, by simp, S1, Γ, C1, A.go l1 rp1, Le.refl _ _, q1⟩, ?_⟩
  rintro i n σ2 H2 ⟨rfl, S2, Γ2, C2, A2, l2, w⟩
  by_cases hi : i < xs.length
  · refine .inr ⟨y.go i S2 H2 C2 A2.rp l2 hi, fun σ' H' => ∃ S' Γ' C', At X.K Z S' σ' H' Γ' C' ∧ Le S1 H1 S' H' ∧ forL mg ms Dm (xs.drop (i + 1)) Γ' C', fun σ' H' h => ⟨xs.length - (i + 1), by omega, rfl, h⟩, fun x H3 hy => ?_⟩
    obtain ⟨S3, r, hr, rp3, l3, d3⟩ := y.yl i S2 H2 C2 x H3 A2.rp l2 hi hy
    have e : xs.drop i = r :: xs.drop (i + 1) := by
      obtain ⟨h1, h2⟩ := List.getElem?_eq_some_iff.mp hr
      rw [← h2]
      exact List.drop_eq_getElem_cons h1
    rw [e] at w
    refine kg S3 σ2 H3 Γ2 C2 x r _ _ (A2.go l3 rp3) d3 (fun Γ4 C4 σ4 S4 H4 q4 rp4 l4 g4 => ?_) w
    have l14 := l2.trans (l3.trans l4)
    refine k S4 σ4 H4 Γ4 C4 { Dm with nx := forL mg ms Dm (xs.drop (i + 1)), ct := forL mg ms Dm (xs.drop (i + 1)), bk := Dm.nx } _ (A2.to (l3.trans l4) rp4 g4) ⟨fun Γ5 C5 σ5 S5 H5 q5 rp5 l5 g5 => ?_, (l.go (l1.trans l14)).rt, (l.go (l1.trans l14)).nx, fun Γ5 C5 σ5 S5 H5 q5 rp5 l5 g5 => ?_⟩ q4
    · exact ⟨S5, Γ5, C5, A2.to ((l3.trans l4).trans l5) rp5 g5, l14.trans l5, q5⟩
    · exact ⟨S5, Γ5, C5, A2.to ((l3.trans l4).trans l5) rp5 g5, l14.trans l5, q5⟩
  · refine .inl ⟨y.stop i S2 H2 C2 A2.rp l2 (by omega), ?_⟩
    rw [List.drop_eq_nil_of_le (by omega)] at w
    exact (l.go (l1.trans l2)).nx Γ2 C2 σ2 S2 H2 w A2.rp (Le.refl _ _) A2.sg
end
end NB

set_option Elab.async false
set_option linter.all false
set_option maxRecDepth 100000
set_option maxHeartbeats 1000000
namespace NB
open PySem PySem.Spec L2
section
variable {K : PySem.W.Frag} {S S1 : Wd} {H H1 : Hp} {σ : L2.St} {Γ : Gm} {C : Cs}
theorem sg_wipes (g : SG K S σ Γ) : ∀ vs : List Nat, SG K S (L2.wipe σ vs) (wipeM Γ vs)
  | [] => g
  | v :: vs => (sg_wipes g vs).wipe v none
theorem set_set_comm {α : Type} {l : List α} {i j : Nat} {x y : α} (h : i ≠ j) : (l.set i x).set j y = (l.set j y).set i x := List.set_comm x y h
theorem wipe_set : ∀ (vs : List Nat) (σ : L2.St) (i : Nat) (x : Option V), i ∈ vs → wipe (σ.set i x) vs = wipe σ vs
  | v :: vs, σ, i, x, h => by
    by_cases hm : i ∈ vs
    · show (wipe (σ.set i x) vs).set v none = (wipe σ vs).set v none
      rw [wipe_set vs σ i x hm]
    · have e : i = v := by
        rcases List.mem_cons.mp h with h | h
        · exact h
        · exact absurd h hm
      subst e
      have key : ∀ (us : List Nat), i ∉ us → wipe (σ.set i x) us = (wipe σ us).set i x := by
        intro us
        induction us with
        | nil => intro _; rfl
        | cons u us ih =>
          intro hn
          show (wipe (σ.set i x) us).set u none = ((wipe σ us).set u none).set i x
          rw [ih (fun z => hn (List.mem_cons_of_mem _ z)), set_set_comm (fun z => hn (by rw [z]; exact List.mem_cons_self))]
      show (wipe (σ.set i x) vs).set i none = (wipe σ vs).set i none
      rw [key vs hm, List.set_set]
theorem wipe_wipe (σ : L2.St) (vs : List Nat) : wipe (wipe σ vs) vs = wipe σ vs := by
  have key : ∀ (us : List Nat), (∀ u ∈ us, u ∈ vs) → wipe (wipe σ us) vs = wipe σ vs := by
    intro us
    induction us with
    | nil => intro _; rfl
    | cons u us ih =>
      intro h
      show wipe ((wipe σ us).set u none) vs = _
      rw [wipe_set vs _ u none (h u List.mem_cons_self), ih fun z hz => h z (List.mem_cons_of_mem _ hz)]
  exact key vs fun _ h => h
end
section
variable {X : Cx} {Z : Zx} {a b c e o i tg iter elt : Expr} {es ifs : List Expr} {ma mb mc m mo mi : ME} {mt mu : MT} {am : MA} {mg : MG} {mgs : MGs} {it : MI} {pos : Pos}

/-! ### targets of comprehensions: names of the block -/
def TrGw (K : PySem.W.Frag) (Z : Zx) (vs : List Nat) (t : TG) (m : MG) : Prop := ∀ S σ H Γ C v r Qm Q, At K Z S σ H Γ C → D K S v r →
  (∀ Γ' C' σ' S' H', Qm Γ' C' → Rep K S' H' C' → Le S H S' H' → SG K S' σ' Γ' → wipe σ' vs = wipe σ vs → Q σ' H') → m r Γ C Qm → t v σ H Q
def TrGsw (K : PySem.W.Frag) (Z : Zx) (vs : List Nat) (t : TGs) (m : MGs) : Prop := ∀ S σ H Γ C v r Qm Q, At K Z S σ H Γ C → DL K S v r →
  (∀ Γ' C' σ' S' H', Qm Γ' C' → Rep K S' H' C' → Le S H S' H' → SG K S' σ' Γ' → wipe σ' vs = wipe σ vs → Q σ' H') → m r Γ C Qm → t v σ H Q
/-- by a family of contexts -/
def JGw (P : Cx → Prop) (K : PySem.W.Frag) (Z : Zx) (vs : List Nat) (e : Expr) (m : MG) : Prop := ∃ t, (∀ Y, P Y → PG Y e t) ∧ TrGw K Z vs t m
def JGsw (P : Cx → Prop) (K : PySem.W.Frag) (Z : Zx) (vs : List Nat) (e : List Expr) (m : MGs) : Prop := ∃ t, (∀ Y, P Y → PGs Y e t) ∧ TrGsw K Z vs t m
/-- the blocks of a comprehension -/
def Blk (X : Cx) (scope : Scope) (Y : Cx) : Prop := ∃ (s : Shared) (H : Hp) (C : Addr) (cl : List (Str × Addr)) (fp : List Addr), Y = X.blk s H scope (compEnvC scope cl C X.env) fp
theorem jgw_name {P : Cx → Prop} {K : PySem.W.Frag} {vs : List Nat} (n : Nat) {x : Str} (h : ∀ Y, P Y → PG Y (.Name x pos) (gName n)) (hv : n ∈ vs := by decide) : JGw P K Z vs (.Name x pos) (gNm n) :=
  ⟨_, h, fun S σ H Γ C v r Qm Q A d l q => l _ C _ S H q A.rp (Le.refl _ _) (A.sg.set n d) (wipe_set vs σ n _ hv)⟩
theorem jgsw_nil {P : Cx → Prop} {K : PySem.W.Frag} {vs : List Nat} : JGsw P K Z vs [] gNl := ⟨_, fun Y _ => pgs_nil, fun S σ H Γ C v r Qm Q A d l q => by
  cases d with
  | nil => exact ⟨rfl, l _ C _ S H q A.rp (Le.refl _ _) A.sg rfl⟩
  | cons _ _ => exact q.elim⟩
theorem jgsw_cons {P : Cx → Prop} {K : PySem.W.Frag} {vs : List Nat} (h1 : JGw P K Z vs e mg) (h2 : JGsw P K Z vs es mgs) (he : ∀ Y, P Y → (assignEach (e :: es) Y.env).map (·.2) = assign e Y.env :: (assignEach es Y.env).map (·.2) := by intro _ _; rfl) : JGsw P K Z vs (e :: es) (gCn mg mgs) := by
  obtain ⟨t, p, k⟩ := h1
  obtain ⟨u, pu, ku⟩ := h2
  refine ⟨_, fun Y hY => pgs_cons (p Y hY) (pu Y hY) (he Y hY), fun S σ H Γ C v r Qm Q A d l q => ?_⟩
  cases d with
  | nil => exact q.elim
  | cons d t =>
    refine ⟨_, _, rfl, k S σ H Γ C _ _ _ _ A d (fun Γ1 C1 σ1 S1 H1 q1 rp1 l1 g1 w1 => ?_) q⟩
    exact ku S1 σ1 H1 Γ1 C1 _ _ _ _ (A.to l1 rp1 g1) (t.mono l1) (fun Γ2 C2 σ2 S2 H2 q2 rp2 l2 g2 w2 => l Γ2 C2 σ2 S2 H2 q2 rp2 (l1.trans l2) g2 (w2.trans w1)) q1
theorem jgw_tup {P : Cx → Prop} {K : PySem.W.Frag} {vs : List Nat} {k n : Nat} (h : JGsw P K Z vs es mgs) (hK : ∀ Y, P Y → Y.K = K) (hc : ∀ Y, P Y → Y.calm = true)
    (hn : ∀ Y, P Y → (assignEach es Y.env).length = n := by intro _ _; rfl) (hst : ∀ Y, P Y → (assignEach es Y.env).findIdx? (·.1) = none := by intro _ _; rfl) :
    JGw P K Z vs (.Tuple es k pos) (gTq n mgs) := by
  obtain ⟨t, p, kk⟩ := h
  refine ⟨gTup K n t, fun Y hY => by have z := pg_tup (k := k) (pos := pos) (n := n) (hc Y hY) (p Y hY) (hn Y hY) (hst Y hY); rw [hK Y hY] at z; exact z, fun S σ H Γ C v r Qm Q A d l q => ?_⟩
  cases d with
  | @tup a vs rs hh t =>
    obtain ⟨a, vs, e, z, t⟩ := tup_of A.rp (D.tup hh t)
    exact ⟨a, vs, e, z, by rw [t.length]; exact q.1, kk S σ H Γ C vs rs Qm Q A t l q.2⟩
  | _ => exact q.elim

/-! ### comprehensions -/
def Zx.calm (Z : Zx) : Zx := { Z with W := fun _ _ _ _ => False, e := fun _ => noX }
def JTs (X : Cx) (Z : Zx) (e : List Expr) (m : MT) : Prop := ∃ t, PTs X e t ∧ TrT X.K Z t m
theorem jts_nil : JTs X Z [] mYes := ⟨_, pts_nil, fun S σ H Γ C Qm Q A l q => l true C S H q A.rp (Le.refl _ _)⟩
theorem jts_one (h : JT X Z c mt) : JTs X Z [c] mt := let ⟨t, p, k⟩ := h; ⟨t, pts_one p, k⟩
theorem JTs.can (h : JTs X Z es mt) : PTs X es (tT X.K Z mt) := by
  obtain ⟨t, p, k⟩ := h
  refine ⟨fun pins s σ H Q I q => p.run pins s σ H Q I ?_⟩
  obtain ⟨S, Γ, C, Qm, A, l, q⟩ := q
  exact k S σ H Γ C Qm Q A l q
/-- the list that a comprehension has made -/
theorem comp_end {S S2 : Wd} {H H2 : Hp} {C2 : Cs} {cell : Bool} {Qm : Qe} {Q : VK} {vs : List V} {rs : List R} {p : Addr} (k : LkE X.K Z S H Qm Q) (n : H p = none) (rp : Rep X.K S2 H2 C2) (l : Le S H S2 H2)
    (h1 : p ∉ S2.ps) (h2 : S2.G p = none) (h3 : H2 p = some (.lst vs)) (d : DL X.K S2 vs rs) (q : newL cell rs C2 Qm) : Q (.ref p) H2 := by
  cases cell with
  | false =>
    obtain ⟨rp2, dm⟩ := rp.adoptG h1 h2 h3
    refine k _ C2 _ _ _ q rp2 (l.adoptG n h2) (.lst (by exact upd_same) ?_)
    exact DL.mono' (S := S2) (S' := { S2 with G := upd S2.G p (.lst vs) }) (fun b u h => by
      have : b ≠ p := fun e => by rw [e, h2] at h; cases h
      show upd S2.G p _ b = _
      rw [upd_ne this]; exact h) (fun _ _ h => h) d
  | true =>
    have rp2 := rp.adoptC (c := .lst rs) h1 h2 ⟨vs, h3, d⟩
    exact k _ _ _ _ _ q rp2 (l.adoptC n) (.cell (by show (S2.ps ++ [p])[C2.length]? = some p; rw [← rp.len]; simp))
theorem tr_comp (cell : Bool) {wi : TI} {g : TG} {vs : List Nat} (ki : ∀ S σ H Γ C Qm R, At X.K Z S σ H Γ C → (∀ xs C' S' H' J, Qm xs C' → Rep X.K S' H' C' → Le S H S' H' → Yl X.K S' H' J xs → R J H') → it Γ C Qm → wi σ H R)
    (kg : TrGw X.K Z vs g mg) : TrE X.K Z (tLc wi g (tT X.K Z.calm mt) (tE X.K Z.calm m) vs) (mComp cell it mg mt m vs) := by
  intro S σ H Γ C Qm Q A l q
  refine ki S σ H Γ C _ _ A (fun xs C1 S1 H1 J q1 rp1 l1 y => ?_) q
  intro p hp
  have l' := l.go l1
  have hps : p ∉ S1.ps := rp1.nps hp
  have hpg : S1.G p = none := by
    cases e : S1.G p with
    | none => rfl
    | some o => have := rp1.sub p o e; rw [hp] at this; cases this
  refine ⟨fun i n H' => n = xs.length - i ∧ ∃ S' C' acc vsA, Rep X.K S' H' C' ∧ Le S1 H1 S' H' ∧ p ∉ S'.ps ∧ S'.G p = none ∧ H' p = some (.lst vsA) ∧ DL X.K S' vsA acc ∧
    compL mg mt m (fun ys C2 => newL cell ys C2 Qm) (wipeM Γ vs) (xs.drop i) acc C', ⟨xs.length, by simp, S1, C1, [], [], rp1.side hps hpg, (Le.refl _ _).side hp, hps, hpg, upd_same, .nil, q1⟩, ?_⟩
  rintro i n H2 ⟨rfl, S2, C2, acc, vsA, rp2, l2, n1, n2, hv, dA, w⟩
  by_cases hi : i < xs.length
  · refine .inr ⟨y.go i S2 H2 C2 rp2 l2 hi, fun H' => ∃ S' C' acc vsA, Rep X.K S' H' C' ∧ Le S1 H1 S' H' ∧ p ∉ S'.ps ∧ S'.G p = none ∧ H' p = some (.lst vsA) ∧ DL X.K S' vsA acc ∧
      compL mg mt m (fun ys C2 => newL cell ys C2 Qm) (wipeM Γ vs) (xs.drop (i + 1)) acc C', fun H' h => ⟨xs.length - (i + 1), by omega, rfl, h⟩, fun x H3 hy => ?_⟩
    obtain ⟨S3, r, hr, rp3, l3, d3⟩ := y.yl i S2 H2 C2 x H3 rp2 l2 hi hy
    have e : xs.drop i = r :: xs.drop (i + 1) := by
      obtain ⟨h1, h2⟩ := List.getElem?_eq_some_iff.mp hr
      rw [← h2]
      exact List.drop_eq_getElem_cons h1
    rw [e] at w
    obtain ⟨wz, w⟩ := w
    -- how the new list keeps
    have kp : ∀ {S' : Wd} {H' : Hp}, Le S2 H2 S' H' → H' p = some (.lst vsA) ∧ p ∉ S'.ps ∧ S'.G p = none := fun {S' H'} lx => by
      refine ⟨lx.fr p _ hv n1, fun z => (lx.nw p z).elim n1 (fun z => by rw [hv] at z; cases z), ?_⟩
      cases e : S'.G p with
      | none => rfl
      | some o =>
        rcases lx.gn p o e with z | z | z
        · rw [n2] at z; cases z
        · exact absurd z n1
        · rw [hv] at z; cases z
    have A3 : At X.K Z S3 (wipe σ vs) H3 (wipeM Γ vs) C2 := ⟨rp3, (sg_wipes (A.sg.mono (l1.trans (l2.trans l3))) vs), A.le.trans (l1.trans (l2.trans l3))⟩
    refine kg S3 (wipe σ vs) H3 (wipeM Γ vs) C2 x r _ _ A3 d3 (fun Γ4 C4 σ4 S4 H4 q4 rp4 l4 g4 w4 => ?_) w
    refine ⟨w4.trans (wipe_wipe σ vs), S4, Γ4, C4, _, ⟨rp4, g4, A3.le.trans l4⟩, fun bb C5 S5 H5 q5 rp5 l5 => ?_, q4⟩
    have l25 := l3.trans (l4.trans l5)
    cases bb with
    | true =>
      simp only [if_true] at q5 ⊢
      refine ⟨S5, Γ4, C5, _, ⟨rp5, g4.mono l5, A3.le.trans (l4.trans l5)⟩, fun yr C6 yv S6 H6 q6 rp6 l6 d6 => ?_, q5⟩
      obtain ⟨k1, k2, k3⟩ := kp (l25.trans l6)
      refine ⟨vsA, k1, by rw [dA.length, sizeLine_eq]; exact wz, ?_⟩
      exact ⟨S6, C6, acc ++ [yr], vsA ++ [yv], rp6.side k2 k3, (l2.trans (l25.trans l6)).side hp, k2, k3, upd_same, (dA.mono (l25.trans l6)).append (.cons d6 .nil), q6⟩
    | false =>
      simp only [Bool.false_eq_true, if_false] at q5 ⊢
      obtain ⟨k1, k2, k3⟩ := kp l25
      exact ⟨S5, C5, acc, vsA, rp5, l2.trans l25, k2, k3, k1, dA.mono l25, q5⟩
  · refine .inl ⟨y.stop i S2 H2 C2 rp2 l2 (by omega), ?_⟩
    rw [List.drop_eq_nil_of_le (by omega)] at w
    exact comp_end l' hp rp2 l2 n1 n2 hv dA w
theorem je_comp (cell : Bool) {scope : Scope} (own : List (Str × Nat)) (hc : X.calm = true) (hN : X.N.Nodup) (hi : JI X Z tg iter it) (ok : BlkOk X.N X.env.scope scope own)
    (hg : JGw (Blk X scope) X.K Z (own.map (·.2)) tg mg) (ht : ∀ Y, Blk X scope Y → JTs Y Z.calm ifs mt) (he : ∀ Y, Blk X scope Y → JE Y Z.calm elt m)
    (hs : ∀ x, foldedSetIterable iter X.env x = pure x := by intro _; rfl) : JE X Z (.ListComp elt [⟨tg, iter, ifs, 0⟩] scope pos) (mComp cell it mg mt m (own.map (·.2))) := by
  obtain ⟨wi, pi, ki⟩ := hi
  obtain ⟨g, pg, kg⟩ := hg
  exact ⟨_, pe_lc (tt := tT X.K Z.calm mt) (te := tE X.K Z.calm m) hc hN pi ok (fun s H C cl fp => pg _ ⟨s, H, C, cl, fp, rfl⟩) (fun s H C cl fp => (ht _ ⟨s, H, C, cl, fp, rfl⟩).can) (fun s H C cl fp => (he _ ⟨s, H, C, cl, fp, rfl⟩).can) hs, tr_comp cell ki kg⟩
/-- x = [.. for ..] on one line -/
theorem js_setComp (cell : Bool) (n : Nat) {x : Str} {py : Pos} {scope : Scope} {cpos : Pos} (own : List (Str × Nat)) (hc : X.calm = true) (hN : X.N.Nodup) (hi : JI X Z tg iter it) (ok : BlkOk X.N X.env.scope scope own)
    (hg : JGw (Blk X scope) X.K Z (own.map (·.2)) tg mg) (ht : ∀ Y, Blk X scope Y → JTs Y Z.calm ifs mt) (he : ∀ Y, Blk X scope Y → JE Y Z.calm elt m)
    (hsw : swapsWith (.ListComp elt [⟨tg, iter, ifs, 0⟩] scope cpos) (some (.Name x py)) pos.line X.env = pure true)
    (hy : X.N[n]? = some x := by rfl) (hyl : X.env.scope.names.lookup x = some .local := by rfl)
    (hs : ∀ x, foldedSetIterable iter X.env x = pure x := by intro _; rfl) : JS X Z (.Assign [.Name x py] (.ListComp elt [⟨tg, iter, ifs, 0⟩] scope cpos) pos) (mAsg (mComp cell it mg mt m (own.map (·.2))) (gNm n)) := by
  obtain ⟨wi, pi, ki⟩ := hi
  obtain ⟨g, pg, kg⟩ := hg
  refine ⟨_, ps_setLc (tt := tT X.K Z.calm mt) (te := tE X.K Z.calm m) hc hN hy hyl hsw pi ok (fun s H C cl fp => pg _ ⟨s, H, C, cl, fp, rfl⟩) (fun s H C cl fp => (ht _ ⟨s, H, C, cl, fp, rfl⟩).can) (fun s H C cl fp => (he _ ⟨s, H, C, cl, fp, rfl⟩).can) hs, ?_⟩
  intro S σ H Γ C Dm Ds A l q
  refine tr_comp cell ki kg S σ H Γ C _ _ A (fun r C1 v S1 H1 q1 rp1 l1 d1 => ?_) q
  exact l.nx _ C1 _ S1 H1 q1 rp1 l1 ((A.sg.mono l1).set n d1)
end
end NB

set_option Elab.async false
set_option linter.all false
set_option maxRecDepth 100000
set_option maxHeartbeats 1000000
namespace NB
open PySem PySem.Spec L2
open PyProof.Rows (envOfC)

/-! ### what is let go -/
section
variable {K : PySem.W.Frag} {S : Wd} {n : Nat}
theorem take_at {α : Type} {l : List α} {n k : Nat} {x : α} (h : l[k]? = some x) (hk : k < n) : (l.take n)[k]? = some x := by rw [List.getElem?_take_of_lt hk]; exact h
theorem of_take {α : Type} {l : List α} {n k : Nat} {x : α} (h : (l.take n)[k]? = some x) : l[k]? = some x ∧ k < n := by
  rw [List.getElem?_take] at h
  split at h
  · exact ⟨h, by assumption⟩
  · cases h
mutual
theorem cutD : ∀ {v : V} {r : R}, okR n r → D K S v r → D K { S with ps := S.ps.take n } v r
  | _, _, _, .non => .non
  | _, _, _, .bl b => .bl b
  | _, _, _, .int i => .int i
  | _, _, _, .str z => .str z
  | _, _, o, .tup q t => .tup q (cutL (by simpa only [okR] using o) t)
  | _, _, o, .lst q t => .lst q (cutL (by simpa only [okR] using o) t)
  | _, _, o, .scr q t => .scr q (cutL (by simpa only [okR] using o) t)
  | _, _, o, .cell q => .cell (take_at q (by simpa only [okR] using o))
  | _, _, o, .exn d t => .exn d (cutF (by simpa only [okR] using o) t)
theorem cutL : ∀ {v : List V} {r : List R}, okL n r → DL K S v r → DL K { S with ps := S.ps.take n } v r
  | _, _, _, .nil => .nil
  | _, _, o, .cons a t => .cons (cutD (by simp only [okL] at o; exact o.1) a) (cutL (by simp only [okL] at o; exact o.2) t)
theorem cutF : ∀ {v : List (Str × V)} {r : List (String × R)}, okF n r → DF K S v r → DF K { S with ps := S.ps.take n } v r
  | _, _, _, .nil => .nil
  | _, _, o, .cons a t => .cons (cutD (by simp only [okF] at o; exact o.1) a) (cutF (by simp only [okF] at o; exact o.2) t)
end
theorem okC_at {n : Nat} : ∀ {C : Cs} {k : Nat} {c : Ct}, okC n C → C[k]? = some c → okC n [c]
  | c :: C, 0, _, h, e => by
    cases e
    cases c <;> simp only [okC] at h ⊢ <;> first | exact ⟨h.1, trivial⟩ | trivial
  | c :: C, k + 1, _, h, e => okC_at (C := C) (k := k) (by cases c <;> simp only [okC] at h <;> first | exact h.2 | exact h) (by simpa using e)
theorem cutRep {H : Hp} {C : Cs} (rp : Rep K S H C) (o : okC n (C.take n)) : Rep K { S with ps := S.ps.take n } H (C.take n) := by
  refine ⟨rp.sub, by show (S.ps.take n).length = _; rw [List.length_take, List.length_take, rp.len], rp.nd.sublist (List.take_sublist _ _), fun k p c h1 h2 hd => ?_, fun k p c h1 h2 => ?_⟩
  · exact rp.off k p c (of_take h1).1 (of_take h2).1 hd
  · have q := rp.at_ k p c (of_take h1).1 (of_take h2).1
    have oc := okC_at o h2
    cases c with
    | lst xs => obtain ⟨vs, e, d⟩ := q; exact ⟨vs, e, cutL (by simp only [okC] at oc; exact oc.1) d⟩
    | box m => exact q
    | dct kvs => obtain ⟨kv, e, z, d⟩ := q; exact ⟨kv, e, z, cutL (by simp only [okC] at oc; exact oc.1) d⟩
    | dead => exact q
theorem cutLe {S0 : Wd} {H0 H : Hp} (l : Le S0 H0 S H) (h : S0.ps.length ≤ n) : Le S0 H0 { S with ps := S.ps.take n } H :=
  ⟨l.g, fun k p e => take_at (l.ps k p e) (Nat.lt_of_lt_of_le (List.getElem?_eq_some_iff.mp e).1 h), l.fr, fun p hp => l.nw p (List.take_subset _ _ hp), l.gn⟩
end

/-! ### defs -/
def spM (K : PySem.W.Frag) (cl : String → Addr) (n : Nat) (w : Wt) : Sp := fun vs H Q E => vs.length = n ∧ ∃ S C rs Qm Em, Rep K S H C ∧ DL K S vs rs ∧ w rs C Qm Em ∧
  (∀ r C' v S' H', Qm r C' → Rep K S' H' C' → Le S H S' H' → D K S' v r → Q v H') ∧
  (∀ c fs C' S' H' d fv, Em c fs C' → Rep K S' H' C' → Le S H S' H' → S'.G d = some (.xd fv) → DF K S' fv fs → E (.ref (cl c)) (some d) H')
/-- where what is raised goes -/
structure ZOk (X : Cx) (Z : Zx) : Prop where
  tk : Takes X Z.W
  link : ∀ S σ H Γ C c fs d fv, At X.K Z S σ H Γ C → Z.e Γ c fs C → S.G d = some (.xd fv) → DF X.K S fv fs → Z.W (.ref (Z.cl c)) (some d) σ H
theorem ZOk.calm {X : Cx} {Z : Zx} : ZOk X Z.calm := ⟨takes0, fun _ _ _ _ _ _ _ _ _ _ h _ _ => h.elim⟩
structure Fn (P : Program) (w : World) (K : PySem.W.Frag) (mg : Str → Option Value) (base : Heap) (cl : String → Addr) (lv : Nat) (x : Str) (n : Nat) (wt : Wt) (f : Addr) (fd : FuncData) (ps : List Str) : Prop where
  ok : FnOk P w K mg base (L2.CX P w) lv f fd ps (spM K cl n wt)
  gl : mg x = some (.ref f)
  kp : PySem.W.keepIn K (.ref f) = true
  ar : ∀ rs C Q E, wt rs C Q E → rs.length = n
theorem Fn.up {P : Program} {w : World} {K : PySem.W.Frag} {mg : Str → Option Value} {base : Heap} {cl : String → Addr} {lv k : Nat} {x : Str} {n : Nat} {wt : Wt} {f : Addr} {fd : FuncData} {ps : List Str} (F : Fn P w K mg base cl lv x n wt f fd ps) (h : lv ≤ k) :
    Fn P w K mg base cl k x n wt f fd ps := ⟨F.ok.mono h, F.gl, F.kp, F.ar⟩
section
variable {X : Cx} {Z : Zx} {e : Expr} {es : List Expr} {kws : List Keyword} {m : ME} {am ak : MA} {pos p : Pos} {lv n : Nat} {x : Str} {wt : Wt} {f : Addr} {fd : FuncData} {ps ks : List Str}
/-- the arguments' values make the promise true -/
theorem call_sp {S : Wd} {σ : L2.St} {H : Hp} {Γ : Gm} {C : Cs} {Qm : Qe} {Q : VK} {vs : List V} {rs : List R} (ok : ZOk X Z) (A : At X.K Z S σ H Γ C) (k : LkE X.K Z S H Qm Q) (d : DL X.K S vs rs) (hn : rs.length = n) (q : wt rs C Qm (Z.e Γ)) :
    spM X.K Z.cl n wt vs H Q (WE Z.W σ) :=
  ⟨d.length.trans hn, S, C, rs, Qm, Z.e Γ, A.rp, d, q, fun r C' v S' H' q rp l d => k r C' v S' H' q rp l d, fun c fs C' S' H' dd fv q rp l h1 h2 => ok.link S' σ H' Γ C' c fs dd fv (A.go l rp) q h1 h2⟩
/-- f(e, ..), the defaults behind -/
theorem je_callD (F : Fn X.prog X.w X.K X.mg X.base Z.cl lv x n wt f fd ps) (ok : ZOk X Z) (hr : Room lv X.A) {ds : List Value} {dvs : List V} {dm : List R} (hb : Binds X.K fd ps ds) (hd : Vals dvs ds) (hdm : ∀ S, DL X.K S dvs dm)
    (ha : JA X Z (e :: es) am) (hg : Gl X x := by rfl) (hdb : (x == ("__debug__" : Str)) = false := by decide)
    (he : starEach (e :: es) X.env = (false, eval e X.env) :: starEach es X.env := by rfl) (hpl : (backTo pos (starEach es X.env)).any (·.1) = false := by rfl) : JE X Z (.Call (.Name x p) (e :: es) [] pos) (mCallD wt Z.e dm am) := by
  obtain ⟨t, pa, ka⟩ := ha
  refine ⟨_, pe_callSD F.ok hr hg F.gl F.kp hb hd (fun σ => passAt ok.tk σ) pa hdb he hpl, fun S σ H Γ C Qm Q A k q => ?_⟩
  refine ka S σ H Γ C _ _ A (fun rs C1 vs S1 H1 q1 rp1 l1 d1 => ?_) q
  exact call_sp ok (A.go l1 rp1) (k.go l1) (d1.append (hdm S1)) (F.ar _ _ _ _ q1) q1
theorem je_call (F : Fn X.prog X.w X.K X.mg X.base Z.cl lv x n wt f fd ps) (ok : ZOk X Z) (hr : Room lv X.A) (hb : Binds X.K fd ps [])
    (ha : JA X Z (e :: es) am) (hg : Gl X x := by rfl) (hdb : (x == ("__debug__" : Str)) = false := by decide)
    (he : starEach (e :: es) X.env = (false, eval e X.env) :: starEach es X.env := by rfl) (hpl : (backTo pos (starEach es X.env)).any (·.1) = false := by rfl) : JE X Z (.Call (.Name x p) (e :: es) [] pos) (mCall wt Z.e am) := by
  obtain ⟨t, pa, ka⟩ := ha
  refine ⟨_, pe_callSD F.ok hr hg F.gl F.kp hb .nil (fun σ => passAt ok.tk σ) pa hdb he hpl, fun S σ H Γ C Qm Q A k q => ?_⟩
  refine ka S σ H Γ C _ _ A (fun rs C1 vs S1 H1 q1 rp1 l1 d1 => ?_) q
  show spM _ _ _ _ (vs ++ []) H1 Q _
  rw [List.append_nil]
  exact call_sp ok (A.go l1 rp1) (k.go l1) d1 (F.ar _ _ _ _ q1) q1
/-- the call of a def whose arguments are bound -/
theorem run_fnM {pins : List (Addr × Obj)} {σ : L2.St} {H : Hp} {s : Shared} {Q : VK} {us ws zs : List Value} {vs : List V} (F : Fn X.prog X.w X.K X.mg X.base Z.cl lv x n wt f fd ps) (ok : ZOk X Z) (hr : Room lv X.A) (hb : BindsTo s fd ⟨us, ks.zip ws⟩ (ps.zip zs))
    (I : Inv X pins σ H s) (r : Vals vs zs) (h : spM X.K Z.cl n wt vs H Q (WE Z.W σ)) : wpAny (model X.prog X.w) X.A (call (.ref f) us (ks.zip ws)) (EP X pins σ Q) X.xe s := by
  refine wpAny_call (codeAny_mono (F.ok.run X.A X.stack s H ⟨us, ks.zip ws⟩ zs vs Q (WE Z.W σ) hr I.env0 hb r h) fun res s' hq => ?_)
  cases res with
  | error er => exact passAt ok.tk σ pins H s er s' I hq
  | ok fl =>
    cases fl with
    | ret u => exact I.after hq
    | next => exact False.elim hq
    | brk => exact False.elim hq
    | cont => exact False.elim hq
theorem perm_vals (π : List Nat) {vs : List V} {us : List Value} (r : Vals vs us) : Vals (perm π vs) (perm π us) := by
  induction π with
  | nil => exact .nil
  | cons i π ih =>
    unfold perm at ih ⊢
    cases e : vs[i]? with
    | none =>
      rw [List.filterMap_cons_none e, List.filterMap_cons_none (r.none_of e)]
      exact ih
    | some v =>
      obtain ⟨u, hu, ru⟩ := r.get e
      rw [List.filterMap_cons_some e, List.filterMap_cons_some hu]
      exact .cons ru ih
theorem perm_dl {K : PySem.W.Frag} {S : Wd} (π : List Nat) {vs : List V} {rs : List R} (r : DL K S vs rs) : DL K S (perm π vs) (perm π rs) := by
  induction π with
  | nil => exact .nil
  | cons i π ih =>
    unfold perm at ih ⊢
    cases e : vs[i]? with
    | none =>
      have e2 : rs[i]? = none := by
        rw [List.getElem?_eq_none_iff] at e ⊢
        rw [← r.length]; exact e
      rw [List.filterMap_cons_none e, List.filterMap_cons_none e2]
      exact ih
    | some v =>
      obtain ⟨u, hu, ru⟩ := r.get' e
      rw [List.filterMap_cons_some e, List.filterMap_cons_some hu]
      exact .cons ru ih
/-- how a call with j positional values and the keywords ks binds -/
def BindK (K : PySem.W.Frag) (fd : FuncData) (ps : List Str) (j : Nat) (ks : List Str) (π : List Nat) : Prop :=
  ∀ (s : Shared) (us ws : List Value), us.length = j → ws.length = ks.length → BindsTo s fd ⟨us, ks.zip ws⟩ (ps.zip (perm π (us ++ ws)))
/-- f(k = e, ..) -/
theorem je_callK0 {π : List Nat} (F : Fn X.prog X.w X.K X.mg X.base Z.cl lv x n wt f fd ps) (ok : ZOk X Z) (hr : Room lv X.A) (hb : BindK X.K fd ps 0 ks π) (hkw : JK X Z kws ak) (hg : Gl X x := by rfl)
    (hall : (backToKw pos (keywordEach kws X.env)).all (·.1.isSome) = true := by rfl) (hks : (backToKw pos (keywordEach kws X.env)).filterMap (·.1) = ks := by rfl) (hdb : (x == ("__debug__" : Str)) = false := by decide)
    (hpl : ((backTo pos (starEach [] X.env)).any (·.1) || (backToKw pos (keywordEach kws X.env)).any (·.1.isNone)) = false := by rfl) : JE X Z (.Call (.Name x p) [] kws pos) (mCallK wt Z.e 0 ks.length π mNil ak) := by
  obtain ⟨tk, pk, kk⟩ := hkw
  refine ⟨fun σ H Q => tk σ H fun zs H2 => zs.length = ks.length ∧ spM X.K Z.cl n wt (perm π zs) H2 Q (WE Z.W σ), ⟨fun pins s σ H Q I h => ?_⟩, fun S σ H Γ C Qm Q A k q => ?_⟩
  · refine wpAny_Call_Name_kw (ld_glob I hg F.gl ?_ hdb)
    refine PySem.W.callWith_KW0 (h₀ := X.base) I.ok.mod.kin F.kp hall ?_ hpl
    refine thn (pk.run pos pins s σ H _ I h) fun ws s2 ⟨zs, H2, I2, rz, l2, q2⟩ => ⟨I2.kIn, ?_⟩
    rw [hks]
    exact run_fnM (us := []) F ok hr (hb s2 [] ws rfl (rz.length.symm.trans l2)) I2 (perm_vals π rz) q2
  · refine kk S σ H Γ C _ _ A (fun rs C1 vs S1 H1 q1 rp1 l1 d1 => ?_) q
    exact ⟨d1.length.trans q1.2.1, call_sp ok (A.go l1 rp1) (k.go l1) (perm_dl π d1) (F.ar _ _ _ _ q1.2.2) q1.2.2⟩
/-- f(e, .., k = e, ..) -/
theorem je_callK {π : List Nat} (F : Fn X.prog X.w X.K X.mg X.base Z.cl lv x n wt f fd ps) (ok : ZOk X Z) (hr : Room lv X.A) {j : Nat} (hb : BindK X.K fd ps j ks π) (ha : JA X Z (e :: es) am) (hkw : JK X Z kws ak) (hg : Gl X x := by rfl)
    (hall : (backToKw pos (keywordEach kws X.env)).all (·.1.isSome) = true := by rfl) (hks : (backToKw pos (keywordEach kws X.env)).filterMap (·.1) = ks := by rfl) (hdb : (x == ("__debug__" : Str)) = false := by decide)
    (he : starEach (e :: es) X.env = (false, eval e X.env) :: starEach es X.env := by rfl)
    (hpl : ((backTo pos (starEach (e :: es) X.env)).any (·.1) || (backToKw pos (keywordEach kws X.env)).any (·.1.isNone)) = false := by rfl) : JE X Z (.Call (.Name x p) (e :: es) kws pos) (mCallK wt Z.e j ks.length π am ak) := by
  obtain ⟨t, pa, ka⟩ := ha
  obtain ⟨tk, pk, kk⟩ := hkw
  refine ⟨fun σ H Q => t σ H fun vs H1 => tk σ H1 fun zs H2 => vs.length = j ∧ zs.length = ks.length ∧ spM X.K Z.cl n wt (perm π (vs ++ zs)) H2 Q (WE Z.W σ), ⟨fun pins s σ H Q I h => ?_⟩, fun S σ H Γ C Qm Q A k q => ?_⟩
  · refine wpAny_Call_Name_kw (ld_glob I hg F.gl ?_ hdb)
    refine PySem.W.callWith_KW (h₀ := X.base) I.ok.mod.kin F.kp hall (thn (pa.run pos pins s σ H _ I h) fun us s1 ⟨vs, H1, I1, r, q⟩ => ?_) hpl he
    refine thn (pk.run pos pins s1 σ H1 _ I1 q) fun ws s2 ⟨zs, H2, I2, rz, l1, l2, q2⟩ => ⟨I2.kIn, ?_⟩
    rw [hks]
    exact run_fnM F ok hr (hb s2 us ws (r.length.symm.trans l1) (rz.length.symm.trans l2)) I2 (perm_vals π (r.append rz)) q2
  · refine ka S σ H Γ C _ _ A (fun rs C1 vs S1 H1 q1 rp1 l1 d1 => ?_) q
    refine kk S1 σ H1 Γ C1 _ _ (A.go l1 rp1) (fun qs C2 zs S2 H2 q2 rp2 l2 d2 => ?_) q1
    exact ⟨d1.length.trans q2.1, d2.length.trans q2.2.1, call_sp ok (A.go (l1.trans l2) rp2) (k.go (l1.trans l2)) (perm_dl π ((d1.mono l2).append d2)) (F.ar _ _ _ _ q2.2.2) q2.2.2⟩
theorem je_call0 (F : Fn X.prog X.w X.K X.mg X.base Z.cl lv x n wt f fd ps) (ok : ZOk X Z) (hr : Room lv X.A) (hb : Binds X.K fd ps []) (hg : Gl X x := by rfl) (hdb : (x == ("__debug__" : Str)) = false := by decide) : JE X Z (.Call (.Name x p) [] [] pos) (mCall0 wt Z.e) := by
  refine ⟨fun σ H Q => spM X.K Z.cl n wt [] H Q (WE Z.W σ), ⟨fun pins s σ H Q I h => ?_⟩, fun S σ H Γ C Qm Q A k q => call_sp ok A k .nil (F.ar _ _ _ _ q) q⟩
  refine wpAny_Call_Name_kw (ld_glob I hg F.gl ?_ hdb)
  refine PySem.W.callWith_K0 I.kIn F.kp ?_
  have hl : ([] : List V).length = ps.length := F.ok.len _ _ _ _ h
  have b := hb s [] I.kIn hl
  exact run_fnM (ks := []) (ws := []) F ok hr b I .nil h

/-! ### a def's body -/
section
variable {P : Program} {w : World} {K : PySem.W.Frag} {mg : Str → Option Value} {base : Heap} {qual : Str} {st : Stmt} {N : List Str} {k : Nat}
/-- THE RULE for a def: its body's derivation, and that the body keeps w -/
theorem fn_M {cl : String → Addr} {m : (Gm → MX) → MS} (F : Fun K x qual st f fd) (Sc : FnScope N ps (defScope st)) (hn : ps.length = n) (hmg : mg x = some (.ref f)) (har : ∀ rs C Q E, wt rs C Q E → rs.length = n)
    (hder : ∀ (cdv : Value) (A : Around) (outer : List Env) (s : Shared) (H : Hp) (E : XK) (Z : Zx), Z.cl = cl → Room k (A.deeper (envOfC qual (defScope st) s.heap.objs.size f cdv)) →
      ZOk (cxOf (L2.CX P w) P w K mg base N qual (defScope st) f cdv A outer s H E) Z → JSs (cxOf (L2.CX P w) P w K mg base N qual (defScope st) f cdv A outer s H E) Z (defBody st) (m Z.e))
    (hm : Keeps N.length m n wt) : Fn P w K mg base cl (k + 1) x n wt f fd ps := by
  refine ⟨F.okX Sc (fun vs H Q E h => h.1.trans hn.symm) fun cdv A outer s H vs Q E hr hsp => ?_, hmg, F.kp, har⟩
  obtain ⟨hl, S, C, rs, Qm, Em, rp, d, hw, hq, hx⟩ := hsp
  let Z : Zx := { cl := cl, S0 := S, H0 := H, W := fun c d _ H => E c d H, e := fun _ => endX C.length Em }
  have ok : ZOk (cxOf (L2.CX P w) P w K mg base N qual (defScope st) f cdv A outer s H E) Z := ⟨takes_of rfl rfl rfl rfl, fun S' σ' H' Γ' C' c fs dd fv a hE hd hf => by
    rcases hE with h4 | ⟨n', h1, h2, h3, h4⟩
    · exact hx c fs C' S' H' dd fv h4 a.rp a.le hd hf
    exact hx c fs (C'.take n') { S' with ps := S'.ps.take n' } H' dd fv h4 (cutRep a.rp h3) (cutLe a.le (by rw [rp.len]; exact h1)) hd (cutF h2 hf)⟩
  obtain ⟨t, pt, kt⟩ := hder cdv A outer s H E Z rfl hr ok
  refine ⟨t, pt, kt S (L2.start N vs) H (NB.start N.length rs) C { nx := fun _ C' => endD C.length Qm .non C', rt := endD C.length Qm } _ ⟨rp, ?_, Le.refl _ _⟩ ⟨?_, ?_, fun _ _ _ _ _ z _ _ _ => z.elim, fun _ _ _ _ _ z _ _ _ => z.elim⟩ (hm rs C Qm Em (d.length.symm.trans hl) hw)⟩
  · have hle : vs.length ≤ N.length := by
      have := Sc.pre
      have h2 : (N.take ps.length).length = ps.length := by rw [this]
      rw [List.length_take] at h2
      omega
    refine ⟨by unfold L2.start NB.start; simp only [List.length_append, List.length_map, List.length_replicate]; rw [d.length], fun i r h => ?_⟩
    unfold NB.start at h
    by_cases hi : i < rs.length
    · rw [List.getElem?_append_left (by simpa using hi), List.getElem?_map] at h
      cases e : rs[i]? with
      | none => rw [e] at h; cases h
      | some y =>
        rw [e] at h
        cases h
        obtain ⟨v, hv, dv⟩ := d.get e
        refine ⟨v, ?_, dv⟩
        unfold L2.start
        rw [List.getElem?_append_left (by simpa using (List.getElem?_eq_some_iff.mp hv).1), List.getElem?_map, hv] <;> rfl
    · rw [List.getElem?_append_right (by simpa using hi), List.getElem?_replicate] at h
      split at h <;> cases h
  · intro Γ C' σ S' H' z rp' l _
    rcases z with h4 | ⟨n', h1, h2, h3, h4⟩
    · exact hq _ _ _ _ _ h4 rp' l .non
    exact hq _ _ _ _ _ h4 (cutRep rp' h3) (cutLe l (by rw [rp.len]; exact h1)) .non
  · intro r C' v S' H' z rp' l d'
    rcases z with h4 | ⟨n', h1, h2, h3, h4⟩
    · exact hq _ _ _ _ _ h4 rp' l d'
    exact hq _ _ _ _ _ h4 (cutRep rp' h3) (cutLe l (by rw [rp.len]; exact h1)) (cutD h2 d')
end
end
end NB

set_option Elab.async false
set_option linter.all false
set_option maxRecDepth 100000
set_option maxHeartbeats 1000000
namespace NB
open PySem PySem.Spec L2
open PyProof.Rows (envOfC)
section
variable {X : Cx} {Z : Zx} {a b c e e2 o i tg iter elt : Expr} {es ifs : List Expr} {ma mb mc m m2 mo mi : ME} {mt mu : MT} {am : MA} {mg : MG} {mgs : MGs} {it : MI} {ms : MS} {pos apos cpos : Pos} {sts : List Stmt} {st : Stmt}

/-! ### methods of lists that are cells -/
theorem cl_of {K : PySem.W.Frag} {S : Wd} {H : Hp} {C : Cs} {v : V} {r : R} (rp : Rep K S H C) (d : D K S v r) (h : isCl C r) : ∃ k a xs vs, r = .cell k ∧ v = .ref a ∧ S.ps[k]? = some a ∧ C[k]? = some (.lst xs) ∧ H a = some (.lst vs) ∧ DL K S vs xs := by
  cases d with
  | @cell a k q =>
    unfold isCl at h
    dsimp only at h
    cases e : C[k]? with
    | none => rw [e] at h; exact h.elim
    | some c =>
      rw [e] at h
      cases c with
      | lst xs =>
        obtain ⟨vs, z, t⟩ := cell_at rp q e
        exact ⟨k, a, xs, vs, rfl, rfl, q, e, z, t⟩
      | _ => exact h.elim
  | _ => exact h.elim
theorem tyL {K : PySem.W.Frag} {H : Hp} {a : Addr} {vs : List V} (h : H a = some (.lst vs)) : tyV K "list" (.ref a) H := Or.inl ⟨rfl, _, SqL.of h⟩
/-- a cell's list is rewritten -/
theorem cell_put {S : Wd} {H : Hp} {C : Cs} {Qm : Qe} {Q : VK} {k : Nat} {p : Addr} {xs ys : List R} {vs : List V} {v : V} {r : R} (rp : Rep X.K S H C) (l : LkE X.K Z S H Qm Q) (hp : S.ps[k]? = some p) (h0 : C[k]? = some (.lst xs)) (d : DL X.K S vs ys)
    (dv : D X.K S v r) (q : Qm r (C.set k (.lst ys))) : Q v (upd H p (.lst vs)) := by
  obtain ⟨rp2, l2⟩ := rp.write (o := .lst vs) (c := .lst ys) hp h0 (fun z => by cases z) ⟨vs, upd_same, d⟩
  exact l _ _ _ _ _ q rp2 l2 (dv.mono l2)
theorem je_append (ho : JE X Z o mo) (he : JE X Z e m) (hbase : attributeBase o "append" X.env (eval o X.env) = eval o X.env := by rfl) (hline : (apos.endLine == cpos.line) = true := by rfl)
    (h1 : starEach [e] X.env = (false, eval e X.env) :: starEach [] X.env := by rfl) (h2 : (backTo cpos (starEach [] X.env)).any (·.1) = false := by rfl)
    (hfew : ((backTo cpos (starEach [e] X.env)).all (fun x => !x.1) && (backToKw cpos (keywordEach [] X.env)).all (fun x => x.1.isSome) && decide (([e] : List Expr).length + ([] : List Keyword).length + (if ([] : List Keyword).isEmpty then 0 else 1) < 30)) = true := by rfl) : JE X Z (.Call (.Attribute o "append" apos) [e] [] cpos) (mApp mo m) := by
  obtain ⟨t, p, k⟩ := ho
  obtain ⟨u, pu, ku⟩ := he
  refine ⟨_, pe_bm PySem.F.plainAttrs_list PySem.F.slot_list_append PySem.F.type_list_append mt_append p (pa_cons pu pa_nil h1) hbase hfew hline h1 h2, fun S σ H Γ C Qm Q A l q => k S σ H Γ C _ _ A (fun r C1 v S1 H1 q1 rp1 l1 d1 => ?_) q⟩
  obtain ⟨kk, a, xs, vs, rfl, rfl, hp, hc, hv, dl⟩ := cl_of rp1 d1 q1.1
  refine ⟨tyL hv, ku S1 σ H1 Γ C1 _ _ (A.go l1 rp1) (fun y C2 w S2 H2 q2 rp2 l2 d2 => ?_) q1.2⟩
  dsimp only at q2
  have hp2 := l2.ps kk a hp
  cases e : C2[kk]? with
  | none => rw [e] at q2; exact q2.elim
  | some cc =>
    rw [e] at q2
    cases cc with
    | lst ys =>
      obtain ⟨us, z, t⟩ := cell_at rp2 hp2 e
      exact ⟨a, us, w, rfl, rfl, z, by rw [t.length, sizeLine_eq]; exact q2.1, cell_put rp2 (l.go (l1.trans l2)) hp2 e (t.append (.cons d2 .nil)) .non q2.2⟩
    | _ => exact q2.elim
theorem je_popAt (ho : JE X Z o mo) (he : JE X Z e m) (hbase : attributeBase o "pop" X.env (eval o X.env) = eval o X.env := by rfl) (hline : (apos.endLine == cpos.line) = true := by rfl)
    (h1 : starEach [e] X.env = (false, eval e X.env) :: starEach [] X.env := by rfl) (h2 : (backTo cpos (starEach [] X.env)).any (·.1) = false := by rfl)
    (hfew : ((backTo cpos (starEach [e] X.env)).all (fun x => !x.1) && (backToKw cpos (keywordEach [] X.env)).all (fun x => x.1.isSome) && decide (([e] : List Expr).length + ([] : List Keyword).length + (if ([] : List Keyword).isEmpty then 0 else 1) < 30)) = true := by rfl) : JE X Z (.Call (.Attribute o "pop" apos) [e] [] cpos) (mPopAt mo m) := by
  obtain ⟨t, p, k⟩ := ho
  obtain ⟨u, pu, ku⟩ := he
  refine ⟨_, pe_bm PySem.F.plainAttrs_list PySem.F.slot_list_pop PySem.F.type_list_pop mt_popAt p (pa_cons pu pa_nil h1) hbase hfew hline h1 h2, fun S σ H Γ C Qm Q A l q => k S σ H Γ C _ _ A (fun r C1 v S1 H1 q1 rp1 l1 d1 => ?_) q⟩
  obtain ⟨kk, a, xs, vs, rfl, rfl, hp, hc, hv, dl⟩ := cl_of rp1 d1 q1.1
  refine ⟨tyL hv, ku S1 σ H1 Γ C1 _ _ (A.go l1 rp1) (fun y C2 w S2 H2 q2 rp2 l2 d2 => ?_) q1.2⟩
  have hp2 := l2.ps kk a hp
  cases d2 with
  | int n =>
    dsimp only at q2
    cases e : C2[kk]? with
    | none => rw [e] at q2; exact q2.elim
    | some cc =>
      rw [e] at q2
      cases cc with
      | lst ys =>
        obtain ⟨us, z, t⟩ := cell_at rp2 hp2 e
        obtain ⟨⟨b1, b2⟩, q2⟩ := q2
        cases ej : ixM ys.length n with
        | none => rw [ej] at q2; exact q2.elim
        | some j =>
          rw [ej] at q2
          dsimp only at q2
          cases ey : ys[j]? with
          | none => rw [ey] at q2; exact q2.elim
          | some y =>
            rw [ey] at q2
            obtain ⟨v, hv2, dv⟩ := t.get ey
            have hj := ixN_seq (show ixN us.length n = some j by rw [t.length]; exact ej)
            exact ⟨a, us, n, j, v, rfl, rfl, z, b1, b2, hj.1, hv2, cell_put rp2 (l.go (l1.trans l2)) hp2 e (t.erase j) dv q2⟩
      | _ => exact q2.elim
  | _ => exact q2.elim
theorem dl_dropLast {K : PySem.W.Frag} {S : Wd} {v : List V} {r : List R} (t : DL K S v r) : DL K S v.dropLast r.dropLast := by
  rw [List.dropLast_eq_take, List.dropLast_eq_take, t.length]
  exact t.take _
theorem je_pop (ho : JE X Z o mo) (hbase : attributeBase o "pop" X.env (eval o X.env) = eval o X.env := by rfl) (hline : (apos.endLine == cpos.line) = true := by rfl) : JE X Z (.Call (.Attribute o "pop" apos) [] [] cpos) (mPop mo) := by
  obtain ⟨t, p, k⟩ := ho
  refine ⟨_, pe_bm0 PySem.F.plainAttrs_list PySem.F.slot_list_pop PySem.F.type_list_pop mt_pop p hbase hline, fun S σ H Γ C Qm Q A l q => k S σ H Γ C _ _ A (fun r C1 v S1 H1 q1 rp1 l1 d1 => ?_) q⟩
  cases d1 with
  | @cell a kk hp =>
    dsimp only at q1
    cases e : C1[kk]? with
    | none => rw [e] at q1; exact q1.elim
    | some cc =>
      rw [e] at q1
      cases cc with
      | lst ys =>
        dsimp only at q1
        obtain ⟨us, z, t⟩ := cell_at rp1 hp e
        cases ey : ys[ys.length - 1]? with
        | none => rw [ey] at q1; exact q1.elim
        | some y =>
          rw [ey] at q1
          obtain ⟨v, hv2, dv⟩ := t.get ey
          exact ⟨tyL z, a, us, v, rfl, rfl, z, by rw [t.length]; exact hv2, cell_put rp1 (l.go l1) hp e (dl_dropLast t) dv q1⟩
      | _ => exact q1.elim
  | _ => exact q1.elim
theorem je_reverse (ho : JE X Z o mo) (hbase : attributeBase o "reverse" X.env (eval o X.env) = eval o X.env := by rfl) (hline : (apos.endLine == cpos.line) = true := by rfl) : JE X Z (.Call (.Attribute o "reverse" apos) [] [] cpos) (mRev mo) := by
  obtain ⟨t, p, k⟩ := ho
  refine ⟨_, pe_bm0 PySem.F.plainAttrs_list PySem.F.slot_list_reverse PySem.F.type_list_reverse mt_reverse p hbase hline, fun S σ H Γ C Qm Q A l q => k S σ H Γ C _ _ A (fun r C1 v S1 H1 q1 rp1 l1 d1 => ?_) q⟩
  cases d1 with
  | @cell a kk hp =>
    dsimp only at q1
    cases e : C1[kk]? with
    | none => rw [e] at q1; exact q1.elim
    | some cc =>
      rw [e] at q1
      cases cc with
      | lst ys =>
        dsimp only at q1
        obtain ⟨us, z, t⟩ := cell_at rp1 hp e
        exact ⟨tyL z, a, us, rfl, rfl, z, cell_put rp1 (l.go l1) hp e t.reverse .non q1⟩
      | _ => exact q1.elim
  | _ => exact q1.elim
theorem je_insert (ho : JE X Z o mo) (he : JE X Z e m) (he2 : JE X Z e2 m2) (hbase : attributeBase o "insert" X.env (eval o X.env) = eval o X.env := by rfl) (hline : (apos.endLine == cpos.line) = true := by rfl)
    (h1 : starEach [e, e2] X.env = (false, eval e X.env) :: starEach [e2] X.env := by rfl) (h2 : starEach [e2] X.env = (false, eval e2 X.env) :: starEach [] X.env := by rfl) (h3 : (backTo cpos (starEach [e2] X.env)).any (·.1) = false := by rfl)
    (hfew : ((backTo cpos (starEach [e, e2] X.env)).all (fun x => !x.1) && (backToKw cpos (keywordEach [] X.env)).all (fun x => x.1.isSome) && decide (([e, e2] : List Expr).length + ([] : List Keyword).length + (if ([] : List Keyword).isEmpty then 0 else 1) < 30)) = true := by rfl) :
    JE X Z (.Call (.Attribute o "insert" apos) [e, e2] [] cpos) (mIns mo m m2) := by
  obtain ⟨t, p, k⟩ := ho
  obtain ⟨u, pu, ku⟩ := he
  obtain ⟨y, py, ky⟩ := he2
  refine ⟨_, pe_bm PySem.F.plainAttrs_list PySem.F.slot_list_insert PySem.F.type_list_insert mt_insert p (pa_cons pu (pa_cons py pa_nil h2) h1) hbase hfew hline h1 h3, fun S σ H Γ C Qm Q A l q => k S σ H Γ C _ _ A (fun r C1 v S1 H1 q1 rp1 l1 d1 => ?_) q⟩
  obtain ⟨kk, a, xs, vs, rfl, rfl, hp, hc, hv, dl⟩ := cl_of rp1 d1 q1.1
  refine ⟨tyL hv, ku S1 σ H1 Γ C1 _ _ (A.go l1 rp1) (fun n C2 w S2 H2 q2 rp2 l2 d2 => ?_) q1.2⟩
  refine ky S2 σ H2 Γ C2 _ _ (A.go (l1.trans l2) rp2) (fun r3 C3 w3 S3 H3 q3 rp3 l3 d3 => ?_) q2
  have hp3 := (l2.trans l3).ps kk a hp
  cases d2 with
  | int n =>
    dsimp only at q3
    cases e : C3[kk]? with
    | none => rw [e] at q3; exact q3.elim
    | some cc =>
      rw [e] at q3
      cases cc with
      | lst ys =>
        obtain ⟨us, z, t⟩ := cell_at rp3 hp3 e
        obtain ⟨⟨b0, b1, b2⟩, q3⟩ := q3
        refine ⟨a, us, n, w3, rfl, rfl, z, by rw [t.length, sizeLine_eq]; exact b0, b1, b2, ?_⟩
        exact cell_put rp3 (l.go (l1.trans (l2.trans l3))) hp3 e (((t.take n.toNat).append (.cons d3 .nil)).append (t.drop n.toNat)) .non q3
      | _ => exact q3.elim
  | _ => exact q3.elim

/-! ### isinstance -/
theorem tyX_of {K : PySem.W.Frag} {S : Wd} {H : Hp} {C : Cs} {v : V} {r : R} {t : String} (rp : Rep K S H C) (d : D K S v r) (h : tyOf C r = some t) : TyX K H v (.type t) := by
  cases d with
  | non => cases h; exact .base .non
  | bl b => cases h; exact .base (.bl b)
  | int i => cases h; exact .base (.int i)
  | str z => cases h; exact .base (.str z)
  | tup q _ =>
    cases h
    rcases sqT_mono rp.sub q with (z | ⟨o, z⟩) | ⟨o, its, n, h1, h2, _⟩
    · exact .base (.tup z)
    · exact .fTuple z
    · exact .kTuple h1 h2
  | lst q _ => cases h; exact .base (.lst (rp.sub _ _ q))
  | scr _ _ => cases h
  | @cell a k q =>
    unfold tyOf at h
    dsimp only at h
    cases e : C[k]? with
    | none => rw [e] at h; cases h
    | some c =>
      rw [e] at h
      cases c with
      | lst xs => cases h; obtain ⟨vs, z, _⟩ := cell_at rp q e; exact .base (.lst z)
      | dct kvs => cases h; obtain ⟨vs, z, _⟩ := cell_at rp q e; exact .base (.dK z)
      | _ => cases h
  | exn _ _ => cases h
def kitM (K : PySem.W.Frag) (c : String) : Prop := ∀ t ∈ ["NoneType", "bool", "int", "str", "tuple", "list", "dict"], PySem.W.kitOne K (.type t) (.type c) = isiM t c
theorem tyOf_mem {C : Cs} {r : R} {t : String} (h : tyOf C r = some t) : t ∈ ["NoneType", "bool", "int", "str", "tuple", "list", "dict"] := by
  unfold tyOf at h
  split at h <;> try (cases h <;> decide)
  split at h <;> cases h <;> decide
/-- isinstance(x, T) -/
theorem je_isi (c : String) {p p2 : Pos} {y : Str} (hk : kitM X.K c) (hm : X.mg "isinstance" = none) (hmy : X.mg y = none) (ha : JE X Z e m) (hg : Gl X "isinstance" := by rfl) (hgy : Gl X y := by rfl) (hv : bootBuiltins "isinstance" = some (.builtin "isinstance") := by decide +kernel)
    (hvy : bootBuiltins y = some (.type c) := by decide +kernel) (hn : y ≠ "__name__" := by decide) (hdb : (y == ("__debug__" : Str)) = false := by decide)
    (he : starEach [e, .Name y p2] X.env = (false, eval e X.env) :: starEach [.Name y p2] X.env := by rfl) (he2 : starEach [.Name y p2] X.env = (false, eval (.Name y p2) X.env) :: starEach [] X.env := by rfl) (hpl : (backTo pos (starEach [.Name y p2] X.env)).any (·.1) = false := by rfl) :
    JE X Z (.Call (.Name "isinstance" p) [e, .Name y p2] [] pos) (mFn (fIsi c) (mCons m mNil)) := by
  obtain ⟨t, pa, ka⟩ := ha
  refine ⟨_, pe_callB call_isi hg hm hv (pa_cons pa (pa_cons (pe_bltn hgy hmy hvy (v := .ty c) rfl hn hdb) pa_nil he2) he) (by decide) (by decide) he hpl, fun S σ H Γ C Qm Q A l q => ka S σ H Γ C _ _ A (fun r C1 v S1 H1 q1 rp1 l1 d1 => ?_) q⟩
  unfold fIsi mNil at q1
  dsimp only at q1
  cases et : tyOf C1 r with
  | none => rw [et] at q1; exact q1.elim
  | some t =>
    rw [et] at q1
    dsimp only at q1
    cases eb : isiM t c with
    | none => rw [eb] at q1; exact q1.elim
    | some b =>
      rw [eb] at q1
      exact ⟨v, .ty c, .type t, .type c, b, rfl, .ty c, tyX_of rp1 d1 et, (hk t (tyOf_mem et)).trans eb, l _ C1 _ S1 H1 q1 rp1 l1 (.bl b)⟩
theorem kitM_int {K : PySem.W.Frag} : kitM K "int" := by intro t ht; simp only [List.mem_cons, List.not_mem_nil, or_false] at ht; rcases ht with rfl | rfl | rfl | rfl | rfl | rfl | rfl <;> first | exact (kit_ty (r := true) (by decide +kernel)).trans (by decide) | exact (kit_ty (r := false) (by decide +kernel)).trans (by decide)
theorem kitM_bool {K : PySem.W.Frag} : kitM K "bool" := by intro t ht; simp only [List.mem_cons, List.not_mem_nil, or_false] at ht; rcases ht with rfl | rfl | rfl | rfl | rfl | rfl | rfl <;> first | exact (kit_ty (r := true) (by decide +kernel)).trans (by decide) | exact (kit_ty (r := false) (by decide +kernel)).trans (by decide)
theorem kitM_str {K : PySem.W.Frag} : kitM K "str" := by intro t ht; simp only [List.mem_cons, List.not_mem_nil, or_false] at ht; rcases ht with rfl | rfl | rfl | rfl | rfl | rfl | rfl <;> first | exact (kit_ty (r := true) (by decide +kernel)).trans (by decide) | exact (kit_ty (r := false) (by decide +kernel)).trans (by decide)
theorem kitM_list {K : PySem.W.Frag} : kitM K "list" := by intro t ht; simp only [List.mem_cons, List.not_mem_nil, or_false] at ht; rcases ht with rfl | rfl | rfl | rfl | rfl | rfl | rfl <;> first | exact (kit_ty (r := true) (by decide +kernel)).trans (by decide) | exact (kit_ty (r := false) (by decide +kernel)).trans (by decide)
theorem kitM_tuple {K : PySem.W.Frag} : kitM K "tuple" := by intro t ht; simp only [List.mem_cons, List.not_mem_nil, or_false] at ht; rcases ht with rfl | rfl | rfl | rfl | rfl | rfl | rfl <;> first | exact (kit_ty (r := true) (by decide +kernel)).trans (by decide) | exact (kit_ty (r := false) (by decide +kernel)).trans (by decide)
theorem kitM_dict {K : PySem.W.Frag} : kitM K "dict" := by intro t ht; simp only [List.mem_cons, List.not_mem_nil, or_false] at ht; rcases ht with rfl | rfl | rfl | rfl | rfl | rfl | rfl <;> first | exact (kit_ty (r := true) (by decide +kernel)).trans (by decide) | exact (kit_ty (r := false) (by decide +kernel)).trans (by decide)
end
end NB

set_option Elab.async false
set_option linter.all false
set_option maxRecDepth 100000
set_option maxHeartbeats 1000000
namespace NB
open PySem PySem.Spec L2
open PyProof.Rows (envOfC)
section
variable {X : Cx} {Z : Zx} {a b c e e2 o i tg iter elt : Expr} {es ifs : List Expr} {ma mb mc m m2 mo mi : ME} {mt mu : MT} {am : MA} {mg : MG} {mgs : MGs} {it : MI} {ms : MS} {pos apos cpos : Pos} {sts : List Stmt} {st : Stmt}

/-! ### exceptions: made and raised -/
/-- self.f = f -/
def spIni (C : Addr) (f : Str) : Sp := fun vs H Q _ => ∃ (a : Addr) (v : V), vs = [.ref a, v] ∧ H a = some (exo a C none) ∧ OexC' C ∧ ∀ dx, H dx = none → dx ≠ a → Q .non (upd (upd H dx (exd dx [(f, v)])) a (exo a C (some dx)))
where OexC' (_ : Addr) : Prop := True
/-- what the written part says of an own exception class with one field f -/
structure ExcK (P : Program) (w : World) (K : PySem.W.Frag) (mg : Str → Option Value) (base : Heap) (cl : String → Addr) (x f : Str) (c : String) : Prop where
  oex : OexC K (cl c)
  ini : ∃ (fI : Addr) (fd : FuncData) (ps : List Str), PySem.W.findIn K (.ref (cl c)) "__init__" = some (some (.ref fI)) ∧ PySem.W.typeIn K (.ref fI) = some (.type "function") ∧ FnOk P w K mg base CX0 1 fI fd ps (spIni (cl c) f) ∧ Binds K fd ps []
  gl : mg x = some (.ref (cl c))
theorem upd_away {H : Hp} {a d : Addr} {o1 o2 u : HO} (na : H a = none) (nd : d ≠ a) : upd (del (upd (upd (upd H a o1) d o2) a u) a) d (.xd []) = upd H d (.xd []) := by
  funext b
  by_cases hb : b = d
  · subst hb; rw [upd_same, upd_same]
  · rw [upd_ne hb, upd_ne hb]
    by_cases ha : b = a
    · subst ha; rw [del_same, na]
    · rw [del_ne ha, upd_ne ha, upd_ne hb, upd_ne ha]
theorem upd_away' {H : Hp} {a d : Addr} {o1 o2 u z : HO} (na : H a = none) (nd : d ≠ a) : upd (del (upd (upd (upd H a o1) d o2) a u) a) d z = upd H d z := by
  funext b
  by_cases hb : b = d
  · subst hb; rw [upd_same, upd_same]
  · rw [upd_ne hb, upd_ne hb]
    by_cases ha : b = a
    · subst ha; rw [del_same, na]
    · rw [del_ne ha, upd_ne ha, upd_ne hb, upd_ne ha]
theorem js_raise {x : Str} {f : String} {cn : String} {p : Pos} {ppos : Pos} (T : ExcK X.prog X.w X.K X.mg X.base Z.cl x (Str.ofString f) cn) (ok : ZOk X Z) (hc : X.calm = true) (hr : Room 2 X.A) (he : JE X Z e m) (hg : Gl X x := by rfl) (hdb : (x == ("__debug__" : Str)) = false := by decide)
    (hs : starEach [e] X.env = (false, eval e X.env) :: starEach [] X.env := by rfl) (hpl : (backTo ppos (starEach [] X.env)).any (·.1) = false := by rfl) : JS X Z (.Raise (some (.Call (.Name x p) [e] [] ppos)) none pos) (mRaise cn f Z.e m) := by
  obtain ⟨t, pe, k⟩ := he
  obtain ⟨fI, fd, ps, h1, h2, h3, h4⟩ := T.ini
  have hx : Passes CX0 X (fun _ _ _ => False) := pass0
  refine ⟨_, ps_raise hc ok.tk (pmk_oex T.oex h1 h2 h3 hr h4 .nil hx hg T.gl (pa_cons pe pa_nil hs) hdb hs hpl), fun S σ H Γ C Dm Ds A l q => k S σ H Γ C _ _ A (fun r C1 v S1 H1 q1 rp1 l1 d1 => ?_) q⟩
  refine ⟨by show 1 ≤ 1000; decide, fun aa na => ?_⟩
  refine ⟨aa, v, rfl, upd_same, trivial, fun dx nd ne => ⟨rfl, dx, [(Str.ofString f, v)], upd_same, ?_, ?_, ?_⟩⟩
  · rw [upd_ne ne]; exact upd_same
  · rw [upd_ne ne] at nd; exact nd
  · rw [upd_ne ne] at nd
    rw [upd_away' na ne]
    obtain ⟨rp2, l2⟩ := rp1.freeze (o := .xd [(Str.ofString f, v)]) nd
    exact ok.link _ σ _ Γ C1 cn [(f, r)] dx _ (A.go (l1.trans l2) rp2) q1 upd_same (.cons (d1.mono l2) .nil)
/-- the init of such a class -/
theorem ini_ok {P : Program} {w : World} {K : PySem.W.Frag} {mg : Str → Option Value} {base : Heap} {C : Addr} {x qual f : Str} {st : Stmt} {fI : Addr} {fd : FuncData} {p1 p2 p3 pp : Pos} (F : Fun K x qual st fI fd) (Sc : FnScope ["self", f] ["self", f] (defScope st)) (T : OexC K C) (no : PySem.W.findIn K (.ref C) f = some none)
    (hb : defBody st = [.Assign [.Attribute (.Name "self" p1) f p2] (.Name f p3) pp]) (hv : Vis (defScope st) f) (hs : Vis (defScope st) "self") (hd : (f == ("__debug__" : Str)) = false) (hd2 : (f == ("__classdict__" : Str)) = false)
    (hsw : ∀ env : Env, swapsWith (.Name f p3) (some (.Attribute (.Name "self" p1) f p2)) pp.line env = pure false) : FnOk P w K mg base CX0 1 fI fd ["self", f] (spIni C f) := by
  refine F.ok Sc (fun vs H Q E h => ?_) (fun cdv A outer s H vs Q E hr h => ?_)
  · obtain ⟨a, v, rfl, _⟩ := h; rfl
  · obtain ⟨a, v, rfl, ha, _, k⟩ := h
    rw [hb]
    refine ⟨_, pss_one (ps_ost (pe_var (i := 0) rfl hs) (pe_var (i := 1) rfl hv hd hd2) (hsw _)), ?_⟩
    exact ⟨v, rfl, .ref a, rfl, a, C, rfl, T, no, .inl ⟨ha, fun dx nd ne => k dx nd ne⟩⟩

/-! ### try .. except X as e -/
def tSx (K : PySem.W.Frag) (Z : Zx) (mb : (Gm → MX) → MS) (W : WX) : TS := fun Ds σ H => ∃ S Γ C Dm e', At K Z S σ H Γ C ∧ LkS K Z S H Dm Ds ∧
  (∀ S' σ' H' Γ' C' c fs d fv, At K { Z with S0 := S, H0 := H } S' σ' H' Γ' C' → e' Γ' c fs C' → S'.G d = some (.xd fv) → DF K S' fv fs → W (.ref (Z.cl c)) (some d) σ' H') ∧ mb e' Dm Γ C
def tSy (K : PySem.W.Frag) (Z : Zx) (kn : List String) (ms : Nat → Nat → String → MS) (a : Addr) (cls : Value) (d : Option Addr) : TS := fun Ds σ H => ∃ S Γ C Dm c1 dd, c1 ∈ kn ∧ cls = .ref (Z.cl c1) ∧ d = some dd ∧ At K Z S σ H Γ C ∧ LkS K Z S H Dm Ds ∧ ms a dd c1 Dm Γ C
theorem chars_inj : ∀ {a b : List Char}, a.map Char.toNat = b.map Char.toNat → a = b
  | [], [], _ => rfl
  | [], _ :: _, h => by simp at h
  | _ :: _, [], h => by simp at h
  | x :: a, y :: b, h => by
    simp only [List.map_cons, List.cons.injEq] at h
    obtain ⟨h1, h2⟩ := h
    have e : x = y := Char.ext (UInt32.toNat_inj.mp h1)
    rw [e, chars_inj h2]
theorem str_inj {a b : String} (h : Str.ofString a = Str.ofString b) : a = b := by
  rw [Str.ofString_eq_toList, Str.ofString_eq_toList] at h
  have h1 := congrArg (fun z => z.cps.toList) h
  simp only at h1
  exact String.ext (chars_inj (by simpa using h1))
theorem df_look {K : PySem.W.Frag} {S : Wd} {f : String} {x : R} : ∀ {fv : List (Str × V)} {fs : List (String × R)}, DF K S fv fs → fs.lookup f = some x → (∀ p ∈ fs, Str.ofString p.1 = Str.ofString f → p.1 = f) → ∃ v, fv.lookup (Str.ofString f) = some v ∧ D K S v x
  | _, _, .nil, h, _ => by cases h
  | _, _, @DF.cons _ _ y v vs r rs d t, h, hi => by
    rw [List.lookup_cons] at h ⊢
    by_cases e : f = y
    · subst e
      simp at h
      subst h
      exact ⟨v, by simp, d⟩
    · have e1 : (f == y) = false := by simpa using e
      rw [e1] at h
      have e2 : (Str.ofString f == Str.ofString y) = false := by
        rw [beq_eq_false_iff_ne]
        intro z
        exact e (hi (y, r) List.mem_cons_self z.symm).symm
      rw [e2]
      exact df_look t (by simpa using h) fun p hp => hi p (List.mem_cons_of_mem _ hp)
/-- e.f, e the caught exception -/
theorem je_exF {aa d : Addr} {oe : Obj} {c1 f : String} {pn : List (Addr × Obj)} (T : XfC X.K (Z.cl c1)) (hno : PySem.W.findIn X.K (.ref (Z.cl c1)) (Str.ofString f) = some none) (hz : Zc (.ref (Z.cl c1)) (some d) oe) (hf : ∃ vs, oe.data = .fields vs)
    (he : JE (X.suite aa ((aa, oe) :: pn)) Z e m) (hb : attributeBase e (Str.ofString f) X.env (eval e X.env) = eval e X.env := by rfl) : JE (X.suite aa ((aa, oe) :: pn)) Z (.Attribute e (Str.ofString f) pos) (mExF aa d c1 f m) := by
  obtain ⟨t, p, k⟩ := he
  refine ⟨_, pe_xf T hno hz hf p hb, fun S σ H Γ C Qm Q A l q => k S σ H Γ C _ _ A (fun r C1 v S1 H1 q1 rp1 l1 d1 => ?_) q⟩
  cases d1 with
  | exn hd t =>
    obtain ⟨⟨rfl, rfl, rfl⟩, q1⟩ := q1
    split at q1
    · rename_i x hx
      obtain ⟨v, hv, dv⟩ := df_look t hx fun p _ z => str_inj z
      exact ⟨rfl, rfl, _, _, v, rfl, rp1.sub _ _ hd, hv, l _ C1 _ S1 H1 q1 rp1 l1 dv⟩
    · exact q1.elim
  | _ => exact q1.elim
/-- what isinstance of an exception asks of its class -/
structure ExI (K : PySem.W.Frag) (C : Addr) : Prop where
  hcl : (PySem.W.clsIn K C).isSome = true
  hga : PySem.W.findIn K (.ref C) "__getattribute__" = some (some (.builtin "BaseException.__getattribute__"))
  hgt : PySem.W.findIn K (.ref C) "__getattr__" = some none
  hsub : PySem.W.subIn K (.ref C) (.type "BaseException") = some true
  ha : PySem.W.findIn K (.ref C) "__class__" = some (some (.builtin "object.__class__"))
  hn : PySem.W.specialIn K (.builtin "object.__class__") "__get__" = some (some (.builtin "getset_descriptor.__get__"))
  htk : PySem.W.takesIn K (.builtin "object.__class__") = some true
  hm : PySem.W.mroIn K C (.type "object") = some true
def rXi (K : PySem.W.Frag) (C : Addr) (a d : Addr) : List V → Hp → VK → Prop := fun xs H Q => ∃ (c2 : Addr) (fs : List (Str × V)) (b : Bool), xs = [.ref a, .ref c2] ∧ H d = some (.xd fs) ∧ PySem.W.kitOne K (.ref C) (.ref c2) = some b ∧ Q (.bl b) H
theorem call_xi {aa d C : Addr} {oe : Obj} {pn : List (Addr × Obj)} (T : ExI X.K C) (hz : Zc (.ref C) (some d) oe) (hf : ∃ vs, oe.data = .fields vs) : CallR (X.suite aa ((aa, oe) :: pn)) (.builtin "isinstance") (rXi X.K C aa d) := by
  intro pins s σ H xs us Q I r h
  obtain ⟨c2, fs, b, rfl, hd, e, q⟩ := h
  cases r with
  | cons rx rr =>
    cases rr with
    | cons rt rr =>
      cases rr
      cases rx
      cases rt
      obtain ⟨hget, _⟩ := I.pin (aa, oe) (List.mem_append.mpr (.inl List.mem_cons_self))
      obtain ⟨vs, hv⟩ := hf
      have hx : ObjOk X.prog X.w H s.heap d (.xd fs) := I.hok d _ hd
      obtain ⟨mA, hns, _⟩ := hx
      obtain ⟨od, _, _, ho, _⟩ := hns
      have J : PySem.W.InstAt s.heap aa oe C (some od) := ⟨hget, hz.1, by unfold PySem.W.notCls; rw [hv] <;> rfl, by rw [hz.2]; exact ho⟩
      exact PySem.W.kia_one (PySem.W.kitx_exc T.hcl T.hga T.hgt T.hsub T.ha T.hn T.htk T.hm) I.kIn J e (fun z => nomatch z) fun tk => ⟨.bl b, H, I.kept (t' := tk) fun _ _ z => z, rfl, q⟩
theorem je_exI {aa d : Addr} {oe : Obj} {c1 c2 : String} {pn : List (Addr × Obj)} {y : Str} {p p2 : Pos} (sub : String → String → Bool) (T : ExI X.K (Z.cl c1)) (hz : Zc (.ref (Z.cl c1)) (some d) oe) (hf : ∃ vs, oe.data = .fields vs) (hk : PySem.W.kitOne X.K (.ref (Z.cl c1)) (.ref (Z.cl c2)) = some (sub c1 c2))
    (hm : X.mg "isinstance" = none) (hmy : X.mg y = some (.ref (Z.cl c2))) (he : JE (X.suite aa ((aa, oe) :: pn)) Z e m) (hg : Gl X "isinstance" := by rfl) (hgy : Gl X y := by rfl) (hv : bootBuiltins "isinstance" = some (.builtin "isinstance") := by decide +kernel) (hdb : (y == ("__debug__" : Str)) = false := by decide)
    (hs : starEach [e, .Name y p2] X.env = (false, eval e X.env) :: starEach [.Name y p2] X.env := by rfl) (hs2 : starEach [.Name y p2] X.env = (false, eval (.Name y p2) X.env) :: starEach [] X.env := by rfl) (hpl : (backTo pos (starEach [.Name y p2] X.env)).any (·.1) = false := by rfl) :
    JE (X.suite aa ((aa, oe) :: pn)) Z (.Call (.Name "isinstance" p) [e, .Name y p2] [] pos) (mExI sub aa d c1 c2 m) := by
  obtain ⟨t, pe, k⟩ := he
  refine ⟨_, pe_callB (call_xi T hz hf) hg hm hv (pa_cons pe (pa_cons (pe_glob (v := .ref (Z.cl c2)) hgy hmy rfl hdb) pa_nil hs2) hs) (by decide) (by decide) hs hpl, fun S σ H Γ C Qm Q A l q => k S σ H Γ C _ _ A (fun r C1 v S1 H1 q1 rp1 l1 d1 => ?_) q⟩
  cases d1 with
  | exn hd t =>
    obtain ⟨⟨rfl, rfl, rfl⟩, q1⟩ := q1
    exact ⟨_, _, _, rfl, rp1.sub _ _ hd, hk, l _ C1 _ S1 H1 q1 rp1 l1 (.bl _)⟩
  | _ => exact q1.elim
end
end NB

set_option Elab.async false
set_option linter.all false
set_option maxRecDepth 100000
set_option maxHeartbeats 1000000
namespace NB
open PySem PySem.Spec L2
open PyProof.Rows (envOfC)
/-! ### data -/
mutual
def toD : R → PyData
  | .non => .none
  | .bl b => .bool b
  | .int i => .int i
  | .str z => .str z
  | .tup xs => .tuple (toDs xs)
  | .lst xs => .list (toDs xs)
  | .scr xs => .list (toDs xs)
  | .cell _ => .none
  | .exn _ _ _ _ => .none
def toDs : List R → List PyData
  | [] => []
  | x :: xs => toD x :: toDs xs
end
mutual
def plainR : Nat → R → Bool
  | _, .non => true
  | _, .bl _ => true
  | _, .int _ => true
  | _, .str z => z.cps.all fun c => decide (c < 0x110000)
  | n, .tup xs => 0 < n && plainRs (n - 1) xs
  | n, .lst xs => 0 < n && plainRs (n - 1) xs
  | _, _ => false
def plainRs : Nat → List R → Bool
  | _, [] => true
  | n, x :: xs => plainR n x && plainRs n xs
end
theorem strs_eq (x y : Str) : (x == y) = decide (x.cps = y.cps) := by
  obtain ⟨x⟩ := x
  obtain ⟨y⟩ := y
  by_cases h : x = y
  · subst h; simp
  · rw [decide_eq_false (show ¬ (Str.mk x).cps = (Str.mk y).cps from h), beq_eq_false_iff_ne]
    intro z; cases z; exact h rfl
mutual
theorem eqR_ok : ∀ (n : Nat) (x y : R), plainR n x = true → plainR n y = true → PyData.eqv (toD x) (toD y) = eqR x y
  | n, x, y, hx, hy => by
    cases x with
    | tup xs => cases y with
      | tup ys =>
        simp only [plainR, Bool.and_eq_true] at hx hy
        simp only [toD, PyData.eqv, eqR]
        exact eqRs_ok _ xs ys hx.2 hy.2
      | cell _ => simp [plainR] at hy
      | scr _ => simp [plainR] at hy
      | exn _ _ _ _ => simp [plainR] at hy
      | _ => simp only [toD, PyData.eqv, eqR]
    | lst xs => cases y with
      | lst ys =>
        simp only [plainR, Bool.and_eq_true] at hx hy
        simp only [toD, PyData.eqv, eqR]
        exact eqRs_ok _ xs ys hx.2 hy.2
      | cell _ => simp [plainR] at hy
      | scr _ => simp [plainR] at hy
      | exn _ _ _ _ => simp [plainR] at hy
      | _ => simp only [toD, PyData.eqv, eqR]
    | str z => cases y with
      | str u => simp only [toD, PyData.eqv, eqR]; exact strs_eq z u
      | cell _ => simp [plainR] at hy
      | scr _ => simp [plainR] at hy
      | exn _ _ _ _ => simp [plainR] at hy
      | _ => simp only [toD, PyData.eqv, eqR]
    | cell _ => simp [plainR] at hx
    | scr _ => simp [plainR] at hx
    | exn _ _ _ _ => simp [plainR] at hx
    | _ => cases y with
      | cell _ => simp [plainR] at hy
      | scr _ => simp [plainR] at hy
      | exn _ _ _ _ => simp [plainR] at hy
      | _ => simp only [toD, PyData.eqv, eqR]
theorem eqRs_ok : ∀ (n : Nat) (xs ys : List R), plainRs n xs = true → plainRs n ys = true → PyData.eqvAll (toDs xs) (toDs ys) = eqRs xs ys
  | n, [], [], _, _ => by simp only [toDs, PyData.eqvAll, eqRs]
  | n, [], _ :: _, _, _ => by simp only [toDs, PyData.eqvAll, eqRs]
  | n, _ :: _, [], _, _ => by simp only [toDs, PyData.eqvAll, eqRs]
  | n, x :: xs, y :: ys, hx, hy => by
    simp only [plainRs, Bool.and_eq_true] at hx hy
    simp only [toDs, PyData.eqvAll, eqRs]
    rw [eqR_ok n x y hx.1 hy.1, eqRs_ok n xs ys hx.2 hy.2]
end
mutual
theorem plain_shape : ∀ (n : Nat) (x : R), plainR n x = true → (toD x).canLay0 = true ∧ (toD x).depth ≤ n
  | n, x, h => by
    cases x with
    | tup xs =>
      simp only [plainR, Bool.and_eq_true, decide_eq_true_eq] at h
      obtain ⟨a, b⟩ := plains_shape _ xs h.2
      simp only [toD, PyData.canLay0, PyData.depth]
      exact ⟨a, by omega⟩
    | lst xs =>
      simp only [plainR, Bool.and_eq_true, decide_eq_true_eq] at h
      obtain ⟨a, b⟩ := plains_shape _ xs h.2
      simp only [toD, PyData.canLay0, PyData.depth]
      exact ⟨a, by omega⟩
    | str z =>
      simp only [plainR] at h
      simp only [toD, PyData.canLay0, PyData.depth]
      exact ⟨h, Nat.zero_le _⟩
    | cell _ => simp [plainR] at h
    | scr _ => simp [plainR] at h
    | exn _ _ _ _ => simp [plainR] at h
    | _ => simp only [toD, PyData.canLay0, PyData.depth]; exact ⟨trivial, Nat.zero_le _⟩
theorem plains_shape : ∀ (n : Nat) (xs : List R), plainRs n xs = true → PyData.canLayAll0 (toDs xs) = true ∧ PyData.depthAll (toDs xs) ≤ n
  | n, [], _ => by simp only [toDs, PyData.canLayAll0, PyData.depthAll]; exact ⟨trivial, Nat.zero_le _⟩
  | n, x :: xs, h => by
    simp only [plainRs, Bool.and_eq_true] at h
    obtain ⟨a, b⟩ := plain_shape n x h.1
    obtain ⟨c, d⟩ := plains_shape n xs h.2
    simp only [toDs, PyData.canLayAll0, PyData.depthAll]
    exact ⟨by rw [a, c]; rfl, by omega⟩
end
section
variable {K : PySem.W.Frag} {S : Wd} {H : Hp} {C : Cs}
theorem dp_all {n : Nat} (ih : ∀ {v : V} {r r' : R}, D K S v r → resN n C r = some r' → Dp K H v (toD r') ∧ plainR n r' = true) : ∀ {vs : List V} {xs ys : List R}, DL K S vs xs → xs.mapM (resN n C) = some ys → DpAll K H vs (toDs ys) ∧ plainRs n ys = true
  | _, _, ys, .nil, h => by
    simp at h
    subst h
    simp only [toDs, plainRs]
    exact ⟨.nil, trivial⟩
  | _, _, ys, .cons d t, h => by
    rw [List.mapM_cons] at h
    obtain ⟨y, hy, h⟩ := Option.bind_eq_some_iff.mp h
    obtain ⟨zs, hz, h⟩ := Option.bind_eq_some_iff.mp h
    cases h
    obtain ⟨a, b⟩ := ih d hy
    obtain ⟨c, e⟩ := dp_all ih t hz
    simp only [toDs, plainRs]
    exact ⟨.cons a c, by rw [b, e]; rfl⟩
theorem res_ok (rp : Rep K S H C) : ∀ (n : Nat) {v : V} {r r' : R}, D K S v r → resN n C r = some r' → Dp K H v (toD r') ∧ plainR n r' = true
  | 0, _, _, _, _, h => by cases h
  | n + 1, v, r, r', d, h => by
    have lists : ∀ {xs : List R} {a : Addr} {vs : List V} {g : List R → R}, (g = .lst ∧ SqL K H a vs ∨ g = .tup ∧ SqT K H a vs) → DL K S vs xs → (xs.mapM (resN n C)).map g = some r' → Dp K H (.ref a) (toD r') ∧ plainR (n + 1) r' = true := by
      intro xs a vs g hg t h
      obtain ⟨ys, hy, e⟩ := Option.map_eq_some_iff.mp h
      subst e
      obtain ⟨a1, b1⟩ := dp_all (res_ok rp n) t hy
      rcases hg with ⟨rfl, z⟩ | ⟨rfl, z⟩
      · simp only [toD, plainR]
        exact ⟨.lst z a1, by simpa using b1⟩
      · simp only [toD, plainR]
        exact ⟨.tup z a1, by simpa using b1⟩
    cases d with
    | non => cases h; simp only [toD, plainR]; exact ⟨.non, trivial⟩
    | bl b => cases h; simp only [toD, plainR]; exact ⟨.bl b, trivial⟩
    | int i => cases h; simp only [toD, plainR]; exact ⟨.int i, trivial⟩
    | str z =>
      unfold resN at h
      dsimp only at h
      split at h
      · cases h
        simp only [toD, plainR]
        exact ⟨.str z, by assumption⟩
      · cases h
    | tup q t => exact lists (.inr ⟨rfl, sqT_mono rp.sub q⟩) t h
    | lst q t => exact lists (.inl ⟨rfl, SqL.of (rp.sub _ _ q)⟩) t h
    | scr _ _ => cases h
    | @cell a k q =>
      unfold resN at h
      dsimp only at h
      cases e : C[k]? with
      | none => rw [e] at h; cases h
      | some c =>
        rw [e] at h
        cases c with
        | lst xs =>
          obtain ⟨vs, z, t⟩ := cell_at rp q e
          exact lists (.inl ⟨rfl, SqL.of z⟩) t h
        | _ => cases h
    | exn _ _ => cases h
theorem shaped_of {r : R} (h : plainR 9 r = true) : SeqAt.shaped (toD r) = true := by
  obtain ⟨a, b⟩ := plain_shape 9 r h
  unfold SeqAt.shaped
  rw [a, decide_eq_true (by omega)]
  rfl
end
section
variable {X : Cx} {Z : Zx} {a b c e e2 o i tg iter elt : Expr} {es ifs : List Expr} {ma mb mc m m2 mo mi : ME} {mt mu : MT} {am : MA} {mg : MG} {mgs : MGs} {it : MI} {ms : MS} {pos apos cpos : Pos} {sts : List Stmt} {st : Stmt}
theorem jo_eq (hu : X.A.units + 64 < cLine) : JOp X Z (compareOp .Eq) oEq := ⟨_, op_eqD hu, fun S H C x y rx ry Qm Q rp dx dy k q => by
  unfold oEq at q
  split at q
  · rename_i r1 r2 e1 e2
    obtain ⟨a1, b1⟩ := res_ok rp 9 dx e1
    obtain ⟨a2, b2⟩ := res_ok rp 9 dy e2
    refine ⟨_, _, a1, a2, shaped_of b1, shaped_of b2, ?_⟩
    rw [eqR_ok 9 r1 r2 b1 b2]
    exact k _ _ _ _ _ q rp (Le.refl _ _) (.bl _)
  · exact q.elim⟩
theorem jo_ne (hu : X.A.units + 64 < cLine) : JOp X Z (compareOp .NotEq) oNe := ⟨_, op_neD hu, fun S H C x y rx ry Qm Q rp dx dy k q => by
  unfold oNe at q
  split at q
  · rename_i r1 r2 e1 e2
    obtain ⟨a1, b1⟩ := res_ok rp 9 dx e1
    obtain ⟨a2, b2⟩ := res_ok rp 9 dy e2
    refine ⟨_, _, a1, a2, shaped_of b1, shaped_of b2, ?_⟩
    rw [eqR_ok 9 r1 r2 b1 b2]
    exact k _ _ _ _ _ q rp (Le.refl _ _) (.bl _)
  · exact q.elim⟩
theorem jo_isB : JOp X Z (compareOp .Is) oIsB := ⟨_, op_isBl, fun S H C x y rx ry Qm Q rp dx dy k q => by
  cases dx <;> cases dy <;> first | exact q.elim | exact ⟨_, _, rfl, rfl, k _ _ _ _ _ q rp (Le.refl _ _) (.bl _)⟩⟩
theorem jo_isNotB : JOp X Z (compareOp .IsNot) oIsNotB := ⟨_, op_notBl, fun S H C x y rx ry Qm Q rp dx dy k q => by
  cases dx <;> cases dy <;> first | exact q.elim | exact ⟨_, _, rfl, rfl, k _ _ _ _ _ q rp (Le.refl _ _) (.bl _)⟩⟩
/-- truth of a value -/
theorem jt_tru (h : JE X Z e m) (he : ∀ whole, isTrue e X.env whole = (do let v ← whole; standAt e.pos; holding [v] (truthy v)) := by intro _; rfl) : JT X Z e (mTru m) := by
  obtain ⟨t, p, k⟩ := h
  refine ⟨_, pt_truth p he, fun S σ H Γ C Qm Q A l q => k S σ H Γ C _ _ A (fun r C1 v S1 H1 q1 rp1 l1 d1 => ?_) q⟩
  have main : ∀ {xs : List R}, seqOf C1 r = some xs → Qm (!xs.isEmpty) C1 → ∃ kk, TruV X.K v H1 kk ∧ Q kk H1 := fun {xs} hs q => by
    obtain ⟨a, vs, rfl, z, t⟩ := seq_of rp1 d1 hs
    have ee : (!vs.isEmpty) = !xs.isEmpty := by cases t <;> rfl
    refine ⟨!xs.isEmpty, ?_, l _ C1 S1 H1 q rp1 l1⟩
    rcases z with z | z
    · exact .inl ⟨vs, z, ee.symm⟩
    · exact .inr (.inl ⟨vs, z, ee.symm⟩)
  cases d1 with
  | non => exact ⟨false, rfl, l _ C1 S1 H1 q1 rp1 l1⟩
  | bl b => exact ⟨b, rfl, l _ C1 S1 H1 q1 rp1 l1⟩
  | int i => exact ⟨_, rfl, l _ C1 S1 H1 q1 rp1 l1⟩
  | str z => exact ⟨_, ⟨by rw [sizeLine_eq]; exact q1.1, rfl⟩, l _ C1 S1 H1 q1.2 rp1 l1⟩
  | tup _ _ => exact main rfl q1
  | lst _ _ => exact main rfl q1
  | scr _ _ => exact main rfl q1
  | @cell a kk h =>
    dsimp only at q1
    cases e : seqOf C1 (.cell kk) with
    | none => rw [e] at q1; exact q1.elim
    | some xs => rw [e] at q1; exact main e q1
  | exn _ _ => exact q1.elim

/-! ### enumerate, zip -/
theorem enum_len : ∀ (xs : List R) (n : Nat), (enumR n xs).length = xs.length
  | [], _ => rfl
  | _ :: xs, n => congrArg (· + 1) (enum_len xs (n + 1))
theorem enum_get : ∀ (xs : List R) (n i : Nat) (r : R), xs[i]? = some r → (enumR n xs)[i]? = some (.tup [.int ((n + i : Nat) : Int), r])
  | x :: xs, n, 0, r, h => by simp at h; subst h; simp [enumR]
  | x :: xs, n, i + 1, r, h => by
    have := enum_get xs (n + 1) i r (by simpa using h)
    simp only [enumR, List.getElem?_cons_succ, this]
    congr 5
    omega
theorem zip_get : ∀ (xs ys : List R) (i : Nat) (r s : R), xs[i]? = some r → ys[i]? = some s → (zipR xs ys)[i]? = some (.tup [r, s])
  | x :: xs, y :: ys, 0, r, s, h, h' => by simp at h h'; subst h h'; simp [zipR]
  | x :: xs, y :: ys, i + 1, r, s, h, h' => by
    simp only [zipR, List.getElem?_cons_succ]
    exact zip_get xs ys i r s (by simpa using h) (by simpa using h')
theorem zip_len : ∀ (xs ys : List R), (zipR xs ys).length = min xs.length ys.length
  | [], _ => by simp [zipR]
  | _ :: _, [] => by simp [zipR]
  | x :: xs, y :: ys => by simp only [zipR, List.length_cons, zip_len xs ys]; omega
theorem yl_enum {K : PySem.W.Frag} {S : Wd} {H : Hp} {a : Addr} {vs : List V} {xs : List R} (h : S.G a = some (.lst vs)) (t : DL K S vs xs) : Yl K S H (Ite K a) (enumR 0 xs) where
  go := fun i S' H' C rp l hi => by
    rw [enum_len] at hi
    exact ⟨vs, vs[i]'(by rw [t.length]; exact hi), SqL.of (rp.sub _ _ (l.g _ _ h)), List.getElem?_eq_getElem _⟩
  yl := fun i S' H' C x H2 rp l hi y => by
    obtain ⟨T, z, rfl, hT, rfl, y⟩ := y
    have e := y vs (SqL.of (rp.sub _ _ (l.g _ _ h)))
    obtain ⟨r, hr, d⟩ := t.get' e
    obtain ⟨rp2, l2⟩ := rp.freeze (o := .tup [.int (i : Nat), z]) hT
    refine ⟨_, _, enum_get xs 0 i r hr, rp2, l2, .tup (SqT.of (by exact upd_same)) (.cons ?_ (.cons ((d.mono l).mono l2) .nil))⟩
    rw [Nat.zero_add]
    exact .int _
  stop := fun i S' H' C rp l hi => by
    rw [enum_len] at hi
    exact ⟨vs, SqL.of (rp.sub _ _ (l.g _ _ h)), by rw [t.length]; exact hi⟩
theorem yl_zip {K : PySem.W.Frag} {S : Wd} {H : Hp} {a b : Addr} {vs us : List V} {xs ys : List R} (h : S.G a = some (.lst vs)) (t : DL K S vs xs) (h' : S.G b = some (.lst us)) (t' : DL K S us ys) : Yl K S H (Itz K a b) (zipR xs ys) where
  go := fun i S' H' C rp l hi => by
    rw [zip_len] at hi
    exact ⟨vs, us, vs[i]'(by rw [t.length]; omega), us[i]'(by rw [t'.length]; omega), SqL.of (rp.sub _ _ (l.g _ _ h)), SqL.of (rp.sub _ _ (l.g _ _ h')), List.getElem?_eq_getElem _, List.getElem?_eq_getElem _⟩
  yl := fun i S' H' C x H2 rp l hi y => by
    obtain ⟨T, z, z', rfl, hT, rfl, y, y'⟩ := y
    obtain ⟨r, hr, d⟩ := t.get' (y vs (SqL.of (rp.sub _ _ (l.g _ _ h))))
    obtain ⟨r', hr', d'⟩ := t'.get' (y' us (SqL.of (rp.sub _ _ (l.g _ _ h'))))
    obtain ⟨rp2, l2⟩ := rp.freeze (o := .tup [z, z']) hT
    exact ⟨_, _, zip_get xs ys i r r' hr hr', rp2, l2, .tup (SqT.of (by exact upd_same)) (.cons ((d.mono l).mono l2) (.cons ((d'.mono l).mono l2) .nil))⟩
  stop := fun i S' H' C rp l hi => by
    rw [zip_len] at hi
    exact ⟨vs, us, SqL.of (rp.sub _ _ (l.g _ _ h)), SqL.of (rp.sub _ _ (l.g _ _ h')), by rw [t.length, t'.length]; omega⟩
theorem ji_enum {p tpos : Pos} {elts : List Expr} {kk : Nat} (hm : X.mg "enumerate" = none) (ha : JA X Z [e] am) (hg : Gl X "enumerate" := by rfl) (hs : starEach [e] X.env = [(false, eval e X.env)] := by rfl) : JI X Z (.Tuple elts kk tpos) (.Call (.Name "enumerate" p) [e] [] pos) (iEn am) := by
  obtain ⟨t, pa, k⟩ := ha
  refine ⟨_, pi_enum hg hm pa hs, fun S σ H Γ C Qm Q A l q => k S σ H Γ C _ _ A (fun r C1 v S1 H1 q1 rp1 l1 d1 => ?_) q⟩
  split at q1
  · cases d1 with
    | cons d t => cases t; cases d with
      | lst h t => exact ⟨_, _, rfl, SqL.of (rp1.sub _ _ h), l _ C1 S1 H1 _ q1 rp1 l1 (yl_enum h t)⟩
  · exact q1.elim
theorem ji_zip {p tpos : Pos} {elts : List Expr} {kk : Nat} (hm : X.mg "zip" = none) (ha : JA X Z [e, e2] am) (hg : Gl X "zip" := by rfl) (hs : starEach [e, e2] X.env = (false, eval e X.env) :: starEach [e2] X.env := by rfl) (hpl : (backTo pos (starEach [e2] X.env)).any (·.1) = false := by rfl) :
    JI X Z (.Tuple elts kk tpos) (.Call (.Name "zip" p) [e, e2] [] pos) (iZp am) := by
  obtain ⟨t, pa, k⟩ := ha
  refine ⟨_, pi_zip hg hm pa hs hpl, fun S σ H Γ C Qm Q A l q => k S σ H Γ C _ _ A (fun r C1 v S1 H1 q1 rp1 l1 d1 => ?_) q⟩
  split at q1
  · cases d1 with
    | cons d t => cases t with
      | cons d2 t => cases t; cases d with
        | lst h t => cases d2 with
          | lst h' t' => exact ⟨_, _, _, _, rfl, SqL.of (rp1.sub _ _ h), SqL.of (rp1.sub _ _ h'), l _ C1 S1 H1 _ q1 rp1 l1 (yl_zip h t h' t')⟩
  · exact q1.elim
end
end NB

set_option Elab.async false
set_option linter.all false
set_option maxRecDepth 100000
set_option maxHeartbeats 1000000
namespace NB
open PySem PySem.Spec L2
open PyProof.Rows (envOfC)
section
variable {X : Cx} {Z : Zx} {a b c e e2 o i tg iter elt : Expr} {es ifs : List Expr} {ma mb mc m m2 mo mi : ME} {mt mu : MT} {am : MA} {mg : MG} {mgs : MGs} {it : MI} {ms : MS} {pos apos cpos : Pos} {sts : List Stmt} {st : Stmt}
theorem je_revL (cell : Bool) {k : Nat} {p1 p2 p3 : Pos} (he : JE X Z e m) : JE X Z (.Subscript e (.Slice none none (some (.UnaryOp .USub (.Constant (.int 1) k p1) p2)) p3) pos) (mRevL cell m) := by
  obtain ⟨t, p, k⟩ := he
  refine ⟨_, pe_revL p, fun S σ H Γ C Qm Q A l q => k S σ H Γ C _ _ A (fun r C1 v S1 H1 q1 rp1 l1 d1 => ?_) q⟩
  cases e : lstOf C1 r with
  | none => rw [e] at q1; exact q1.elim
  | some xs =>
    rw [e] at q1
    obtain ⟨a, vs, rfl, z, t⟩ := lst_of rp1 d1 e
    exact ⟨a, vs, rfl, z, fun p hp => new_lst rp1 (l.go l1) t.reverse hp q1⟩
theorem js_par3 (n k j : Nat) {x y z : Str} {px py pz pt pt2 : Pos} {kt k2 : Nat} (hc : X.calm = true) (hN : X.N.Nodup) (ha : JA X Z [a, b, c] am) (hi : X.N[n]? = some x := by rfl) (hj : X.N[k]? = some y := by rfl) (hl : X.N[j]? = some z := by rfl) (h1 : n ≠ k := by decide) (h2 : n ≠ j := by decide) (h3 : k ≠ j := by decide)
    (hx : X.env.scope.names.lookup x = some .local := by rfl) (hy : X.env.scope.names.lookup y = some .local := by rfl) (hz : X.env.scope.names.lookup z = some .local := by rfl)
    (hsw : swappedStores [.Tuple [.Name x px, .Name y py, .Name z pz] kt pt] (.Tuple [a, b, c] k2 pt2) X.env = pure (some [x, y, z]) := by rfl)
    (hs : swapsWithSole [.Tuple [.Name x px, .Name y py, .Name z pz] kt pt] (.Tuple [a, b, c] k2 pt2) pos.line X.env = pure false := by rfl) :
    JS X Z (.Assign [.Tuple [.Name x px, .Name y py, .Name z pz] kt pt] (.Tuple [a, b, c] k2 pt2) pos) (mPar3 n k j am) := by
  obtain ⟨t, p, kk⟩ := ha
  refine ⟨_, ps_par3 hc hN hi hj hl h1 h2 h3 hx hy hz p hsw hs, fun S σ H Γ C Dm Ds A l q => kk S σ H Γ C _ _ A (fun r C1 v S1 H1 q1 rp1 l1 d1 => ?_) q⟩
  cases d1 with
  | nil => exact q1.elim
  | cons d1 t1 => cases t1 with
    | nil => exact q1.elim
    | cons d2 t2 => cases t2 with
      | nil => exact q1.elim
      | cons d3 t3 => cases t3 with
        | nil => exact ⟨_, _, _, rfl, l.nx _ C1 _ S1 H1 q1 rp1 l1 ((((A.sg.mono l1).set n d1).set k d2).set j d3)⟩
        | cons _ _ => exact q1.elim
/-- o[i] = e of a cell -/
theorem jg_sub (ho : JE X Z o mo) (hi : JE X Z i mi) (ha : ∀ v, assign (.Subscript o i pos) X.env v = (do
      let ov ← holding [v] (eval o X.env)
      let iv ← holding [v, ov] (eval i X.env)
      standAt pos
      holding [v, ov, iv] (setItem ov iv v)
      release [v, ov, iv] []) := by intro _; rfl) : JG X Z (.Subscript o i pos) (gIx mo mi) := by
  obtain ⟨t, p, k⟩ := ho
  obtain ⟨u, pu, ku⟩ := hi
  refine ⟨_, pg_sub p pu set_list ha, fun S σ H Γ C v r Qm Q A d l q => ?_⟩
  refine k S σ H Γ C _ _ A (fun x C1 y S1 H1 q1 rp1 l1 d1 => ?_) q
  refine ku S1 σ H1 Γ C1 _ _ (A.go l1 rp1) (fun n C2 w S2 H2 q2 rp2 l2 d2 => ?_) q1
  cases d1 with
  | @cell aa kk hp => cases d2 with
    | int n =>
      dsimp only at q2
      have hp2 := l2.ps kk aa hp
      cases e : C2[kk]? with
      | none => rw [e] at q2; exact q2.elim
      | some cc =>
        rw [e] at q2
        cases cc with
        | lst ys =>
          dsimp only at q2
          obtain ⟨us, z, t⟩ := cell_at rp2 hp2 e
          cases ej : ixM ys.length n with
          | none => rw [ej] at q2; exact q2.elim
          | some j =>
            rw [ej] at q2
            have l12 := l1.trans l2
            obtain ⟨rp3, l3⟩ := rp2.write (o := .lst (us.set j v)) (c := .lst (ys.set j r)) hp2 e (fun z => by cases z) ⟨_, upd_same, t.set j (d.mono l12)⟩
            exact ⟨aa, us, n, j, rfl, rfl, z, by rw [t.length]; exact ej, l _ _ _ _ _ q2 rp3 (l12.trans l3) (A.sg.mono (l12.trans l3))⟩
        | _ => exact q2.elim
    | _ => exact q2.elim
  | _ => exact q2.elim

/-! ### another way to see the same -/
theorem js_ice (n : Nat) (h : JS X Z st ms) : JS X Z st (mIce n ms) := by
  obtain ⟨t, p, k⟩ := h
  refine ⟨t, p, fun S σ H Γ C Dm Ds A l q => ?_⟩
  unfold mIce at q
  split at q
  · rename_i kk eg
    split at q
    · rename_i xs ec
      obtain ⟨v, hv, dv⟩ := A.sg.at_ n _ eg
      cases dv with
      | @cell a _ hp =>
        obtain ⟨vs, z, t⟩ := cell_at A.rp hp ec
        obtain ⟨rp2, l2⟩ := A.rp.ice hp ec z
        refine k _ σ H _ _ Dm Ds ⟨rp2, ⟨by rw [List.length_set]; exact A.sg.len, fun j r hj => ?_⟩, A.le.trans l2⟩ (l.go l2) q
        rw [List.getElem?_set] at hj
        split at hj
        · rename_i e
          subst e
          split at hj
          · cases hj
            exact ⟨_, hv, .lst (by exact upd_same) (t.mono l2)⟩
          · cases hj
        · obtain ⟨w, h1, h2⟩ := A.sg.at_ j r hj
          exact ⟨w, h1, h2.mono l2⟩
    · exact q.elim
  · exact q.elim
theorem okG_at {n : Nat} : ∀ {Γ : Gm} {i : Nat} {r : R}, okG n Γ → Γ[i]? = some (some r) → okR n r
  | none :: Γ, 0, _, _, h => by cases h
  | some s :: Γ, 0, _, o, h => by cases h; exact o.1
  | none :: Γ, i + 1, _, o, h => okG_at (Γ := Γ) (i := i) o (by simpa using h)
  | some s :: Γ, i + 1, _, o, h => okG_at (Γ := Γ) (i := i) o.2 (by simpa using h)
theorem subG_at : ∀ {a b : Gm} {i : Nat} {r : R}, subG a b → a[i]? = some (some r) → b[i]? = some (some r)
  | none :: a, s :: b, 0, _, _, h => by cases h
  | some s :: a, t :: b, 0, _, o, h => by cases h; rw [o.1]; rfl
  | none :: a, s :: b, i + 1, _, o, h => by simpa using subG_at (a := a) (b := b) (i := i) o (by simpa using h)
  | some s :: a, t :: b, i + 1, _, o, h => by simpa using subG_at (a := a) (b := b) (i := i) o.2 (by simpa using h)
theorem subG_len : ∀ {a b : Gm}, subG a b → a.length = b.length
  | [], [], _ => rfl
  | none :: a, _ :: b, h => congrArg (· + 1) (subG_len (a := a) (b := b) h)
  | some _ :: a, _ :: b, h => congrArg (· + 1) (subG_len (a := a) (b := b) h.2)
theorem jss_unb (n : Nat) (h : JSs X Z sts ms) : JSs X Z sts (mUnb n ms) := by
  obtain ⟨t, p, k⟩ := h
  refine ⟨t, p, fun S σ H Γ C Dm Ds A l q => ?_⟩
  unfold mUnb at q
  split at q
  · rename_i kk eg
    split at q
    · rename_i nn ec
      obtain ⟨v, hv, dv⟩ := A.sg.at_ n _ eg
      cases dv with
      | @cell a _ hp =>
        obtain ⟨a0, b0, c0, d0, z, h1, h2, h3, h4, h5⟩ := cell_at A.rp hp ec
        have q := q a0 b0 c0 d0 ⟨h1, h2, h3, h4, h5⟩
        have hk : kk < C.length := (List.getElem?_eq_some_iff.mp ec).1
        -- the same heap, the box seen as a list
        have view : ∀ {S' : Wd} {H' : Hp} {C' : Cs} {c1 c2 : Ct}, Rep X.K S' H' C' → C'[kk]? = some c1 → c1 ≠ .dead → (∀ pp, S'.ps[kk]? = some pp → CtOk X.K S' H' pp c2) → Rep X.K S' H' (C'.set kk c2) := by
          intro S' H' C' c1 c2 rp h0 hd hcc
          refine ⟨rp.sub, by rw [List.length_set]; exact rp.len, rp.nd, fun j qq c' e1 e2 hd2 => ?_, fun j qq c' e1 e2 => ?_⟩
          · by_cases ej : j = kk
            · subst ej; exact rp.off _ qq c1 e1 h0 hd
            · rw [List.getElem?_set_ne (Ne.symm ej)] at e2
              exact rp.off j qq c' e1 e2 hd2
          · by_cases ej : j = kk
            · subst ej
              rw [List.getElem?_set_self (List.getElem?_eq_some_iff.mp h0).1] at e2
              cases e2
              exact hcc qq e1
            · rw [List.getElem?_set_ne (Ne.symm ej)] at e2
              exact rp.at_ j qq c' e1 e2
        have rp2 : Rep X.K S H (C.set kk (.lst [.int a0, .bl b0, .int c0, .int d0])) := view A.rp ec (fun z => by cases z) fun pp hpp => by
          rw [hp] at hpp; cases hpp
          exact ⟨_, z, .cons (.int _) (.cons (.bl _) (.cons (.int _) (.cons (.int _) .nil)))⟩
        refine k S σ H Γ _ { nx := fun _ _ => False, rt := fun r C' => ∃ n', boxed kk n' C' ∧ Dm.rt r (C'.set kk (.box n')) } Ds ⟨rp2, A.sg, A.le⟩ ⟨fun _ _ _ _ _ z _ _ _ => z.elim, fun r C' v' S' H' z rp' l' d' => ?_, fun _ _ _ _ _ z _ _ _ => z.elim, fun _ _ _ _ _ z _ _ _ => z.elim⟩ q
        obtain ⟨n', ⟨a1, b1, c1, d1, ez, hb⟩, z⟩ := z
        refine l.rt r _ v' S' H' z (view rp' ez (fun z => by cases z) fun pp hpp => ?_) l' d'
        obtain ⟨us, zz, t⟩ := cell_at rp' hpp ez
        cases t with
        | cons x1 t => cases t with
          | cons x2 t => cases t with
            | cons x3 t => cases t with
              | cons x4 t => cases t; cases x1; cases x2; cases x3; cases x4; exact ⟨_, _, _, _, zz, hb⟩
    · exact q.elim
  · exact q.elim
theorem jss_box (n : Nat) (h : JSs X Z sts ms) : JSs X Z sts (mBox n ms) := by
  obtain ⟨t, p, k⟩ := h
  refine ⟨t, p, fun S σ H Γ C Dm Ds A l q => ?_⟩
  refine k S σ H Γ _ { nx := fun _ _ => False, rt := fun r C' => match r with
  | .cell k => boxed k n C' ∧ Dm.rt r (C'.set k (.box n))
  | _ => False } Ds A ⟨fun _ _ _ _ _ z _ _ _ => z.elim, fun r C' v' S' H' z rp' l' d' => ?_, fun _ _ _ _ _ z _ _ _ => z.elim, fun _ _ _ _ _ z _ _ _ => z.elim⟩ q
  dsimp only at z
  split at z
  · rename_i kk
    obtain ⟨⟨a1, b1, c1, d1, ez, hb⟩, z⟩ := z
    refine l.rt _ _ v' S' H' z ?_ l' d'
    refine ⟨rp'.sub, by rw [List.length_set]; exact rp'.len, rp'.nd, fun j q c' e1 e2 hd2 => ?_, fun j q c' e1 e2 => ?_⟩
    · by_cases ej : j = kk
      · subst ej; exact rp'.off j q _ e1 ez (fun z => by cases z)
      · rw [List.getElem?_set_ne (Ne.symm ej)] at e2
        exact rp'.off j q c' e1 e2 hd2
    · by_cases ej : j = kk
      · subst ej
        rw [List.getElem?_set_self (List.getElem?_eq_some_iff.mp ez).1] at e2
        cases e2
        obtain ⟨us, zz, t⟩ := cell_at rp' e1 ez
        cases t with
        | cons x1 t => cases t with
          | cons x2 t => cases t with
            | cons x3 t => cases t with
              | cons x4 t => cases t; cases x1; cases x2; cases x3; cases x4; exact ⟨_, _, _, _, zz, hb⟩
      · rw [List.getElem?_set_ne (Ne.symm ej)] at e2
        exact rp'.at_ j q c' e1 e2
  · exact z.elim
end

/-! ### a loop that lets its cells go -/
section
variable {X : Cx} {Z : Zx} {tg iter : Expr} {it : MI} {mg : MG} {ms : MS} {sts : List Stmt} {pos : Pos}
theorem cutSG {K : PySem.W.Frag} {S : Wd} {σ : L2.St} {Γ Γ' : Gm} {n : Nat} (g : SG K S σ Γ) (h : subG Γ' Γ) (o : okG n Γ') : SG K { S with ps := S.ps.take n } σ Γ' :=
  ⟨(subG_len h).trans g.len, fun i r e => by
    obtain ⟨v, h1, h2⟩ := g.at_ i r (subG_at h e)
    exact ⟨v, h1, cutD (okG_at o e) h2⟩⟩
theorem js_forK (hp : PassesOwn (model X.prog X.w) X.A X.env X.xe) (hc : X.calm = true) (hi : JI X Z tg iter it) (hg : JG X Z tg mg) (hb : JSs X Z sts ms) (hs : ∀ x, foldedSetIterable iter X.env x = pure x := by intro _; rfl) : JS X Z (.For tg iter sts [] pos) (mForK it mg ms) := by
  obtain ⟨wi, pi, ki⟩ := hi
  obtain ⟨g, pg, kg⟩ := hg
  obtain ⟨t, p, k⟩ := hb
  refine ⟨_, ps_for hp hc pi pg p hs, fun S σ H Γ C Dm Ds A l q => ki S σ H Γ C _ _ A (fun xs C1 S1 H1 J q1 rp1 l1 y => ?_) q⟩
  refine ⟨fun i m σ' H' => m = xs.length - i ∧ ∃ S' Γ' C', At X.K Z S' σ' H' Γ' C' ∧ Le S1 H1 S' H' ∧ forK C1.length mg ms Dm (xs.drop i) Γ' C', ⟨xs.length, by simp, S1, Γ, C1, A.go l1 rp1, Le.refl _ _, q1⟩, ?_⟩
  rintro i n σ2 H2 ⟨rfl, S2, Γ2, C2, A2, l2, w⟩
  by_cases hi : i < xs.length
  · refine .inr ⟨y.go i S2 H2 C2 A2.rp l2 hi, fun σ' H' => ∃ S' Γ' C', At X.K Z S' σ' H' Γ' C' ∧ Le S1 H1 S' H' ∧ forK C1.length mg ms Dm (xs.drop (i + 1)) Γ' C', fun σ' H' h => ⟨xs.length - (i + 1), by omega, rfl, h⟩, fun x H3 hy => ?_⟩
    obtain ⟨S3, r, hr, rp3, l3, d3⟩ := y.yl i S2 H2 C2 x H3 A2.rp l2 hi hy
    have e : xs.drop i = r :: xs.drop (i + 1) := by
      obtain ⟨h1, h2⟩ := List.getElem?_eq_some_iff.mp hr
      rw [← h2]
      exact List.drop_eq_getElem_cons h1
    rw [e] at w
    refine kg S3 σ2 H3 Γ2 C2 x r _ _ (A2.go l3 rp3) d3 (fun Γ4 C4 σ4 S4 H4 q4 rp4 l4 g4 => ?_) w
    have l14 := l2.trans (l3.trans l4)
    have cut : ∀ {Γ5 C5 σ5 S5 H5}, cutK C1.length (forK C1.length mg ms Dm (xs.drop (i + 1))) Γ5 C5 → Rep X.K S5 H5 C5 → Le S4 H4 S5 H5 → SG X.K S5 σ5 Γ5 → ∃ S' Γ' C', At X.K Z S' σ5 H5 Γ' C' ∧ Le S1 H1 S' H5 ∧ forK C1.length mg ms Dm (xs.drop (i + 1)) Γ' C' := by
      intro Γ5 C5 σ5 S5 H5 q5 rp5 l5 g5
      obtain ⟨nn, Γ6, h1, h2, h3, h4, h5⟩ := q5
      have lx : Le S1 H1 { S5 with ps := S5.ps.take nn } H5 := cutLe (l14.trans l5) (by rw [rp1.len]; exact h1)
      exact ⟨_, Γ6, _, ⟨cutRep rp5 h4, cutSG g5 h2 h3, (A.le.trans l1).trans lx⟩, lx, h5⟩
    exact k S4 σ4 H4 Γ4 C4 { Dm with nx := cutK C1.length (forK C1.length mg ms Dm (xs.drop (i + 1))), ct := cutK C1.length (forK C1.length mg ms Dm (xs.drop (i + 1))), bk := Dm.nx } _ (A2.to (l3.trans l4) rp4 g4)
      ⟨fun Γ5 C5 σ5 S5 H5 q5 rp5 l5 g5 => cut q5 rp5 l5 g5, (l.go (l1.trans l14)).rt, (l.go (l1.trans l14)).nx, fun Γ5 C5 σ5 S5 H5 q5 rp5 l5 g5 => cut q5 rp5 l5 g5⟩ q4
  · refine .inl ⟨y.stop i S2 H2 C2 A2.rp l2 (by omega), ?_⟩
    rw [List.drop_eq_nil_of_le (by omega)] at w
    exact (l.go (l1.trans l2)).nx Γ2 C2 σ2 S2 H2 w A2.rp (Le.refl _ _) A2.sg
theorem jo_rep (cell : Bool) : JOp X Z (binaryOp .Mult) (oRep cell) := ⟨_, op_rep, fun S H C x y rx ry Qm Q rp dx dy k q => by
  unfold oRep at q
  split at q
  · exact q.elim
  · rename_i kk n1
    split at q
    · rename_i xs e1
      obtain ⟨a, vs, rfl, h1, t1⟩ := lst_ofH rp dx e1 n1
      cases dy
      have rl : ∀ n : Nat, DL X.K S (List.replicate n vs).flatten (List.replicate n xs).flatten := fun n => by
        induction n with
        | zero => exact .nil
        | succ n ih => rw [List.replicate_succ, List.replicate_succ, List.flatten_cons, List.flatten_cons]; exact t1.append ih
      exact ⟨a, kk, vs, rfl, rfl, h1, q.1.1, q.1.2.1, by rw [t1.length, sizeLine_eq]; exact q.1.2.2, fun p hp => new_lst rp k (rl _) hp q.2⟩
    · exact q.elim
  · exact q.elim⟩
theorem jo_times (cell : Bool) : JOp X Z (binaryOp .Mult) (oTimes cell) := by
  obtain ⟨r, h1, h2⟩ := JOp.or (X := X) (Z := Z) jo_mul (jo_rep cell)
  refine ⟨r, h1, fun S H C x y rx ry Qm Q rp dx dy k q => h2 S H C x y rx ry Qm Q rp dx dy k ?_⟩
  unfold oTimes at q
  split at q
  · exact .inl q
  · exact .inr q
theorem jo_str : JOp X Z (binaryOp .Add) (fun x y C Q => match x, y with
  | .str i, .str j => i.length + j.length ≤ 16777216 ∧ Q (.str (i ++ j)) C
  | _, _ => False) := ⟨_, op_add_str, fun S H C x y rx ry Qm Q rp dx dy k q => by
  cases dx <;> cases dy <;> first | exact q.elim | exact ⟨_, _, rfl, rfl, by rw [sizeLine_eq]; exact q.1, k _ _ _ _ _ q.2 rp (Le.refl _ _) (.str _)⟩⟩
theorem jo_tup : JOp X Z (binaryOp .Add) (fun x y C Q => match x, y with
  | .tup xs, .tup ys => (xs ≠ [] ∧ xs.length + ys.length ≤ 16777216) ∧ Q (.tup (xs ++ ys)) C
  | _, _ => False) := ⟨_, op_catT, fun S H C x y rx ry Qm Q rp dx dy k q => by
  cases dx with
  | tup h t => cases dy with
    | tup h' t' =>
      obtain ⟨⟨n1, n2⟩, q⟩ := q
      refine ⟨_, _, _, _, rfl, rfl, sqT_mono rp.sub h, sqT_mono rp.sub h', fun z => n1 ?_, by rw [t.length, t'.length, sizeLine_eq]; exact n2, fun z => ?_, fun z p hp => ?_⟩
      · rw [z] at t; cases t; rfl
      · rw [z] at t'
        cases t'
        rw [List.append_nil] at q
        exact k _ C _ S H q rp (Le.refl _ _) (.tup h t)
      · obtain ⟨rp2, l2⟩ := rp.freeze (o := .tup _) hp
        exact k _ C _ _ _ q rp2 l2 (.tup (SqT.of (by exact upd_same)) ((t.append t').mono l2))
    | _ => exact q.elim
  | _ => exact q.elim⟩
theorem jo_plus (cell : Bool) : JOp X Z (binaryOp .Add) (oPlus cell) := by
  obtain ⟨r, h1, h2⟩ := JOp.or (X := X) (Z := Z) jo_add (JOp.or jo_str (JOp.or jo_tup (jo_cat cell)))
  refine ⟨r, h1, fun S H C x y rx ry Qm Q rp dx dy k q => h2 S H C x y rx ry Qm Q rp dx dy k ?_⟩
  unfold oPlus at q
  split at q
  · exact .inl q
  · exact .inr (.inl q)
  · exact .inr (.inr (.inl q))
  · exact .inr (.inr (.inr q))
end

/-! ### the law's end -/
theorem law_end {l : PySem.W.OpenLaw} {q : Program} {loose : List Str} {XP : (Str → Option Value) → Heap → Prop} {YP : World → Heap → Prop} {d : DefRec} {K : Params → PySem.W.Frag} {x : Str} {lv : Nat} {cl : PySem.W.Frag → String → Addr} {wt : Wt}
    (hn : l.most = some 63) (hdf : d.params.defaults = []) (hr : Room lv callerA) (hY : ∀ (w : World) (h : Heap), YP w h → (K w.params).In h)
    (hw : ∀ (ns : List Int) (Q : Qe), ns.length ≤ 63 → (∀ C, Q (.bl true) C) → wt [.scr (ns.map .int)] [] Q noX)
    (F : ∀ (w : World) (mg : Str → Option Value) (fa : Addr) (h : Heap), (K w.params).In h → h.Ns mainGlobals mg → mg d.name = some (.ref fa) →
      ∃ fd : FuncData, (∀ (s : Shared) (u : Value), BindsTo s fd ⟨[u], []⟩ [(x, u)]) ∧
        ∀ base : Heap, (K w.params).In base → base.Ns mainGlobals mg → FnOk l.prog w (K w.params) mg base (L2.CX l.prog w) lv fa fd [x] (spM (K w.params) (cl (K w.params)) 1 wt)) :
    PySem.W.WalkO q loose XP YP l.row.toRowW d [] (fun f vs => PySem.call f vs) :=
  L2.walk_of (n := 63) (k := lv) (x := x) (CX := fun w => L2.CX l.prog w) (sp := fun w => spM (K w.params) (cl (K w.params)) 1 wt) hn (by decide) hdf hr hY F
    (fun w H a ns hl hO hS => ⟨rfl, { G := H, ps := [] }, [], [.scr (ns.map .int)], fun r C => r = .bl true, noX, ⟨fun _ _ h => h, rfl, List.nodup_nil, fun k p c h _ _ => by simp at h, fun k p c h _ => by simp at h⟩,
      .cons (.scr hS (dl_int ns)) .nil, hw ns _ hl (fun _ => rfl), fun r C' v S' H' h _ _ d => by subst h; cases d; rfl, fun _ _ _ _ _ _ _ z _ _ _ _ => z.elim⟩)
    fun w H s e s' h => by
      obtain ⟨_, _, _, _, _, _, _, _, _, _, _, _, z⟩ := h
      exact z.elim
end NB

set_option Elab.async false
set_option linter.all false
set_option maxRecDepth 100000
set_option maxHeartbeats 1000000
namespace NB
open PySem PySem.Spec L2
open PyProof.Rows (envOfC)
/-- one clause: the class's value, the slot of its name, the suite's reading -/
structure Cla where
  c : Value
  i : Nat
  ts : Addr → Value → Option Addr → TS
/-- what the clauses, one behind the other, want of an exception; each names it -/
def wAsm (K : PySem.W.Frag) (Wo : WX) (De : Ends) : List Cla → WX
  | [] => Wo
  | q :: r => fun cls d σ H => ∃ yes, PySem.W.exmOne K cls q.c = some yes ∧
      (yes = true → ∀ ea, H ea = none → q.ts ea cls d { nx := fun σ1 H1 => De.nx (σ1.set q.i none) H1, rt := De.rt, bk := fun σ1 H1 => De.bk (σ1.set q.i none) H1, ct := fun σ1 H1 => De.ct (σ1.set q.i none) H1 } (σ.set q.i (some (.ref ea))) H) ∧
      (yes = false → wAsm K Wo De r cls d σ H)
inductive HdA (X : Cx) : List ExceptHandler → List Cla → Prop
  | nil : HdA X [] []
  | cons {x n : Str} {q : Cla} {b₀ : Stmt} {su : List Stmt} {np pp : Pos} {hds : List ExceptHandler} {l : List Cla} (hc : Names X x q.c) (hi : X.N[q.i]? = some n) (hln : X.env.kindOf n = some .local)
      (hsu : ∀ (ea : Addr) (oe : Obj) (cls : Value) (d : Option Addr) (pn : List (Addr × Obj)), L2.Zc cls d oe → (∃ fv, oe.data = .fields fv) → PSs (X.suite ea ((ea, oe) :: pn)) (b₀ :: su) (q.ts ea cls d)) (r : HdA X hds l) :
      HdA X (.ExceptHandler (some (.Name x np)) (some n) (b₀ :: su) pp :: hds) (q :: l)
section
variable {X : Cx} {body : List Stmt} {hd1 : ExceptHandler} {hds : List ExceptHandler} {l : List Cla} {pos : Pos} {tb : WX → TS} {Wo : WX}
theorem ps_try_asm (hst : X.stack = X.env :: X.outer) (hfe : X.env.frame = some X.env.locals) (hN : X.N.Nodup) (tk : Takes X Wo)
    (hb : ∀ (W1 : WX) (pn : List (Addr × Obj)) (xe : Value → Shared → Prop), Takes (X.tr pn xe) W1 → PassesOwn (model X.prog X.w) X.A X.env xe → PSs (X.tr pn xe) body (tb W1)) (hh : HdA X (hd1 :: hds) l) :
    PS X (.Try body (hd1 :: hds) [] [] pos) (fun De σ H => tb (wAsm X.K Wo De l) De σ H) := by
  refine ⟨fun pins s σ H De I hrd => ?_⟩
  have okX := I.ok
  have hfrs : X.A.frames = some (X.env :: X.outer) := by rw [okX.frames, hst]
  refine wpAny_Try_except ?_
  refine wpAny_mono ((hb (wAsm X.K Wo De l) (X.pn ++ pins)
    (fun er sa => wpAny (model X.prog X.w) X.A (noteFrame er X.env) (fun _ sb => wpAny (model X.prog X.w) X.A (setFlight er none) (fun _ sc => wpAny (model X.prog X.w) X.A (handleBy er X.env (hd1 :: hds)) (SP X pins De) X.xe sc) X.xe sb) X.xe sa)
    (fun ux st xx => ?_) PassesOwn.looking).run [] s σ H De (I.toTry _) hrd) (fun fl st hsp => ?_) (fun er st he => he)
  · obtain ⟨ea, gr, s0, pinz, σz, Hz, cls, dd, rfl, Jt, nogr, upz, skyz, nea, osz, agz, wz⟩ := xx
    have Jz : Inv X pins σz Hz s0 := Jt.ofTry okX
    have sky2 : Sky gr (X.env :: X.outer) ea (L2.Zc cls dd) X.env.locals st.heap := by rw [← hst]; exact skyz
    show wpAny (model X.prog X.w) X.A (noteFrame (.ref ea) X.env) _ _ _
    refine Sky.land L2.Zc.steady hfrs hfe sky2 fun hp3 fly3 upp3 => ?_
    have Jl : Inv X pins σz Hz { st with heap := hp3 } := Jz.landed nogr fly3.1 (upz.trans upp3) osz agz
    obtain ⟨oe3, fv3, he3, hz3, hd3⟩ := fly3.there
    have noFrame : ∀ {hh : Heap} {oo : Obj} {fv : Array Value}, hh.FunFrames gr (X.env :: X.outer) → hh.get? ea = some oo → oo.data = .fields fv → ea ∉ frs (X.env :: X.outer) := fun {hh oo fv} ff e1 e2 hm => by
      obtain ⟨_, o2, e3, hnf⟩ := ff.mem hm
      rw [e1] at e3; cases e3
      exact hnf _ e2
    have nfr := noFrame fly3.2.2.1 he3 hd3
    have nLoc : ea ≠ X.env.locals := fun z => nfr (List.mem_filterMap.mpr ⟨X.env, List.mem_cons_self, by rw [hfe, z]⟩)
    have nFs : ea ∉ X.fs := fun hm => by
      obtain ⟨e1, he1, q1⟩ := List.mem_filterMap.mp hm
      exact nfr (List.mem_filterMap.mpr ⟨e1, List.mem_cons_of_mem _ he1, q1⟩)
    have Jsu := Jl.suite he3 hd3 nea nLoc nFs
    have go : ∀ {hs2 : List ExceptHandler} {l2 : List Cla}, HdA X hs2 l2 → wAsm X.K Wo De l2 cls dd σz Hz → wpAny (model X.prog X.w) X.A (handleBy (.ref ea) X.env hs2) (SP X pins De) X.xe { st with heap := hp3 } := by
      intro hs2 l2 hk
      induction hk with
      | nil =>
        intro w
        refine wpAny_handleBy_nil ?_
        obtain ⟨k1, k2, k3, o4, fv4, T4, oT4, t4, he4, hz4, hd4, h14, hr4⟩ := id fly3
        unfold PySem.passOn
        refine wpAny_bind (wpAny_field he4 hd4 h14 ?_)
        rw [if_neg (show ¬ ((Value.ref T4 == Value.none) = true) from by simp)]
        have fin : wpAny (model X.prog X.w) X.A (setFlight (.ref ea) X.env.frame) (fun _ sz => wpAny (model X.prog X.w) X.A (throw (.ref ea) : Sem Flow) (SP X pins De) X.xe sz) X.xe { st with heap := hp3 } := by
          rw [hfe]
          refine HandSPX.setFlight_upZ fly3 fun hp4 held4 upp4 => wpAny_throw (tk _ _ ?_)
          exact ⟨ea, gr, s0, pins, σz, Hz, cls, dd, rfl, Jz, nogr, (upz.trans upp3).trans upp4, .inr (.inr (by rw [hst]; exact held4)), nea, osz, agz, w⟩
        first
          | exact wpAny_bind (wpAny_pure (wpAny_bind fin))
          | exact wpAny_bind fin
      | @cons x n q b₀ su np pp hds2 l3 hc hi hln hsu r ih =>
        intro w
        obtain ⟨yes, hyn, hyes, hno⟩ := w
        refine wpAny_handleBy_cons (codeAny_handlers_test ?_) (by intro z; cases z)
        have LkT1 : PySem.W.Looks (model X.prog X.w) hp3 (typeOf (.ref ea)) cls := fun A1 Q1 E1 s1 k1 q1 => wpAny_typeOf_ref (k1 _ _ he3) (by rw [hz3.1]; exact q1)
        have LkM1 := PySem.W.exm_one (M := model X.prog X.w) (Jl.kIn) LkT1 hyn
        have tst : ∀ {Q1 : Value → Shared → Prop} {E1 : Value → Shared → Prop}, Q1 q.c { st with heap := hp3 } → wpAny (model X.prog X.w) (X.A.mark (some (.ref ea))) (eval (.Name x np) X.env) Q1 E1 { st with heap := hp3 } := fun {Q1 E1} z => by
          obtain ⟨hg1, hdb1, hm1 | ⟨hm1, hv1, hn1⟩⟩ := hc
          · exact ld_glob (X := X.suite ea ((ea, oe3) :: (X.pn ++ pins))) Jsu hg1 hm1 z hdb1
          · exact ld_blt (X := X.suite ea ((ea, oe3) :: (X.pn ++ pins))) Jsu hg1 hm1 hv1 z hn1 hdb1
        refine tst (LkM1.here ?_)
        cases yes with
        | true =>
          refine codeAny_handlers_suite_as ?_
          refine HandSPX.lands_againZ fly3 fun hp4 fly4 upp4 => ?_
          have J4 : Inv X pins σz Hz { st with heap := hp4 } := Jz.landed nogr fly4.1 ((upz.trans upp3).trans upp4) osz agz
          obtain ⟨oe4, fv4, he4, hz4, hd4⟩ := fly4.there
          have S4 := J4.suite he4 hd4 nea nLoc nFs
          refine store_ok (X := X.suite ea ((ea, oe4) :: (X.pn ++ pins))) (v := .ref ea) S4 hN hi (Or.inl hln) rfl (fun s5 S5 => ?_) (.inr hln)
          refine wpAny_mono ((hsu ea oe4 cls dd (X.pn ++ pins) hz4 ⟨_, hd4⟩).run [] s5 _ Hz _ S5 (hyes rfl ea nea)) (fun fl s6 hs6 => ?_) (fun _ _ z => False.elim z)
          have fin : ∀ {σ6 : L2.St} {H6 : Hp} {Q6 : Shared → Prop}, Inv (X.suite ea ((ea, oe4) :: (X.pn ++ pins))) [] σ6 H6 s6 → (∀ s7, Inv X pins (σ6.set q.i none) H6 s7 → Q6 s7) →
              wpAny (model X.prog X.w) X.A (do bindName X.env n .none; unbindBehindTheSuite X.env n pp) (fun _ s7 => Q6 s7) X.xe s6 := fun {σ6 H6 Q6} S6 hq => gone_ok (S6.unsuite okX) hN hi hln hq
          cases fl with
          | next => obtain ⟨σ6, H6, S6, q6⟩ := hs6; exact fin S6 fun s7 J7 => ⟨_, _, J7, q6⟩
          | brk => obtain ⟨σ6, H6, S6, q6⟩ := hs6; exact fin S6 fun s7 J7 => ⟨_, _, J7, q6⟩
          | cont => obtain ⟨σ6, H6, S6, q6⟩ := hs6; exact fin S6 fun s7 J7 => ⟨_, _, J7, q6⟩
          | ret u6 => obtain ⟨v6, σ6, H6, S6, r6, q6⟩ := hs6; exact fin S6 fun s7 J7 => ⟨_, _, _, J7, r6, q6⟩
        | false =>
          show wpAny _ X.A (handleBy (.ref ea) X.env hds2) _ _ _
          exact ih (hno rfl)
    exact go hh wz
  · cases fl with
    | next => obtain ⟨σ1, H1, J1, q1⟩ := hsp; exact wpAny_execs_nil ⟨σ1, H1, J1.ofTry okX, q1⟩
    | brk => obtain ⟨σ1, H1, J1, q1⟩ := hsp; exact ⟨σ1, H1, J1.ofTry okX, q1⟩
    | cont => obtain ⟨σ1, H1, J1, q1⟩ := hsp; exact ⟨σ1, H1, J1.ofTry okX, q1⟩
    | ret u1 => obtain ⟨v1, σ1, H1, J1, r1, q1⟩ := hsp; exact ⟨v1, σ1, H1, J1.ofTry okX, r1, q1⟩
end

/-! ### the same by trees -/
def claOf (K : PySem.W.Frag) (Z : Zx) (kn : List String) (h : Hdr) : Cla := ⟨.ref (Z.cl h.c), h.i, tSy K Z kn h.s⟩
/-- the handlers' derivations -/
inductive HdJ (X : Cx) (Z : Zx) (kn : List String) (sub : String → String → Bool) : List ExceptHandler → List Hdr → Prop
  | nil : HdJ X Z kn sub [] []
  | cons {x n : Str} {c : String} {k : Nat} {ms : Nat → Nat → String → MS} {b₀ : Stmt} {suite : List Stmt} {np pos' : Pos} {hds : List ExceptHandler} {l : List Hdr} (hc : X.mg x = some (.ref (Z.cl c))) (hex : ∀ c1 ∈ kn, PySem.W.exmOne X.K (.ref (Z.cl c1)) (.ref (Z.cl c)) = some (sub c1 c))
      (hsu : ∀ (a : Addr) (oe : Obj) (c1 : String) (d : Addr) (pn : List (Addr × Obj)), c1 ∈ kn → L2.Zc (.ref (Z.cl c1)) (some d) oe → (∃ vs, oe.data = .fields vs) → JSs (X.suite a ((a, oe) :: pn)) Z.calm (b₀ :: suite) (ms a d c1)) (r : HdJ X Z kn sub hds l)
      (hi : X.N[k]? = some n := by rfl) (hln : X.env.kindOf n = some .local := by rfl) (hg : Gl X x := by rfl) (hdb : (x == ("__debug__" : Str)) = false := by decide) :
      HdJ X Z kn sub (.ExceptHandler (some (.Name x np)) (some n) (b₀ :: suite) pos' :: hds) (⟨c, k, ms⟩ :: l)
section
variable {X : Cx} {Z : Zx} {kn : List String} {sub : String → String → Bool} {hd1 : ExceptHandler} {hds : List ExceptHandler} {l : List Hdr} {pos : Pos} {body : List Stmt} {mb : (Gm → MX) → MS}
theorem HdJ.hda {hds : List ExceptHandler} {l : List Hdr} (h : HdJ X Z kn sub hds l) : HdA X hds (l.map (claOf X.K Z kn)) := by
  induction h with
  | nil => exact .nil
  | @cons x n c k ms b₀ suite np pos' hds l hc hex hsu r hi hln hg hdb ih =>
    refine .cons (q := claOf X.K Z kn ⟨c, k, ms⟩) ⟨hg, hdb, .inl hc⟩ hi hln (fun a oe cls d pn hz hfl => ?_) ih
    refine ⟨fun pins s σ H Ds I q => ?_⟩
    obtain ⟨S, Γ, C, Dm, c1, dd, hk, rfl, rfl, A, lk, q⟩ := q
    obtain ⟨t, pt, kt⟩ := hsu a oe c1 dd pn hk hz hfl
    exact pt.run pins s σ H Ds I (kt S σ H Γ C Dm Ds ⟨A.rp, A.sg, A.le⟩ ⟨lk.nx, lk.rt, lk.bk, lk.ct⟩ q)
theorem disp_ok {S0 : Wd} {H0 : Hp} {Dm : MEnds} {Ds : Ends} (ok : ZOk X Z) (lk : LkS X.K Z S0 H0 Dm Ds) (le0 : Le Z.S0 Z.H0 S0 H0) {hds : List ExceptHandler} {l : List Hdr} (h : HdJ X Z kn sub hds l) {S' : Wd} {σ' : L2.St} {H' : Hp} {Γ' : Gm} {C' : Cs} {c1 : String} {fs : List (String × R)} {d : Addr} {fv : List (Str × V)}
    (rp : Rep X.K S' H' C') (sg : SG X.K S' σ' Γ') (le : Le S0 H0 S' H') (hk : c1 ∈ kn) (hd : S'.G d = some (.xd fv)) (hf : DF X.K S' fv fs) : dispM sub Z.e Dm l Γ' c1 fs C' → wAsm X.K Z.W Ds (l.map (claOf X.K Z kn)) (.ref (Z.cl c1)) (some d) σ' H' := by
  induction h with
  | nil => exact fun hE => ok.link S' σ' H' Γ' C' c1 fs d fv ⟨rp, sg, le0.trans le⟩ hE hd hf
  | @cons x n c k ms b₀ suite np pos' hds l hc hex hsu r hi hln hg hdb ih =>
    intro hE
    refine ⟨sub c1 c, hex c1 hk, fun hb' a na => ?_, fun hb' => ?_⟩
    · unfold dispM at hE
      rw [if_pos hb'] at hE
      have l' := lk.go le
      refine ⟨S', _, C', { nx := fun Γ2 C2 => Dm.nx (Γ2.set k none) C2, rt := Dm.rt, bk := fun Γ2 C2 => Dm.bk (Γ2.set k none) C2, ct := fun Γ2 C2 => Dm.ct (Γ2.set k none) C2 }, c1, d, hk, rfl, rfl, ⟨rp, sg.set k (.exn hd hf), le0.trans le⟩, ⟨fun Γ2 C2 σ2 S2 H2 q2 rp2 l2 g2 => ?_, l'.rt, fun Γ2 C2 σ2 S2 H2 q2 rp2 l2 g2 => ?_, fun Γ2 C2 σ2 S2 H2 q2 rp2 l2 g2 => ?_⟩, hE a d⟩
      · exact l'.nx _ C2 _ S2 H2 q2 rp2 l2 (g2.wipe k none)
      · exact l'.bk _ C2 _ S2 H2 q2 rp2 l2 (g2.wipe k none)
      · exact l'.ct _ C2 _ S2 H2 q2 rp2 l2 (g2.wipe k none)
    · unfold dispM at hE
      rw [if_neg (by rw [hb']; exact Bool.false_ne_true)] at hE
      exact ih hE
theorem js_try (ok : ZOk X Z) (hN : X.N.Nodup) (hb : ∀ (pn : List (Addr × Obj)) (xe : Value → Shared → Prop) (Z' : Zx), Z'.cl = Z.cl → ZOk (X.tr pn xe) Z' → PassesOwn (model X.prog X.w) X.A X.env xe → JSs (X.tr pn xe) Z' body (mb Z'.e)) (hj : HdJ X Z kn sub (hd1 :: hds) l)
    (hs : X.stack = X.env :: X.outer := by rfl) (hf : X.env.frame = some X.env.locals := by rfl) : JS X Z (.Try body (hd1 :: hds) [] [] pos) (mTry kn sub mb l Z.e) := by
  refine ⟨_, ps_try_asm (tb := tSx X.K Z mb) hs hf hN ok.tk (fun W pn xe tk hp => ?_) hj.hda, ?_⟩
  · refine ⟨fun pins s σ H Ds I q => ?_⟩
    obtain ⟨S, Γ, C, Dm, e', A, lk, lx, q⟩ := q
    obtain ⟨t, pt, kt⟩ := hb pn xe { cl := Z.cl, S0 := S, H0 := H, W := W, e := e' } rfl ⟨tk, fun S' σ' H' Γ' C' c fs d fv a => lx S' σ' H' Γ' C' c fs d fv ⟨a.rp, a.sg, a.le⟩⟩ hp
    exact pt.run pins s σ H Ds I (kt S σ H Γ C Dm Ds ⟨A.rp, A.sg, Le.refl _ _⟩ ⟨lk.nx, lk.rt, lk.bk, lk.ct⟩ q)
  · intro S σ H Γ C Dm Ds A lk q
    exact ⟨S, Γ, C, Dm, _, A, lk, fun S' σ' H' Γ' C' c1 fs d fv A' hE hd hf => disp_ok ok lk A.le hj A'.rp A'.sg A'.le hE.1 hd hf hE.2, q⟩
end
end NB

set_option Elab.async false
set_option linter.all false
set_option maxRecDepth 100000
set_option maxHeartbeats 1000000
namespace NB
open PySem PySem.Spec L2
open PyProof.Rows (envOfC)
section
variable {X : Cx} {Z : Zx} {a b c e e2 o i tg iter elt : Expr} {es ifs : List Expr} {ma mb mc m m2 mo mi : ME} {mt mu : MT} {am : MA} {mg : MG} {mgs : MGs} {it : MI} {ms : MS} {pos apos cpos : Pos} {sts : List Stmt} {st : Stmt}
theorem je_gI {x : Str} {n : Int} {p : Pos} (h : ∃ t, X.mg x = some (.int n t)) (hg : Gl X x := by rfl) (hdb : (x == ("__debug__" : Str)) = false := by decide) : JE X Z (.Name x p) (mC (.int n)) := by
  obtain ⟨t, ht⟩ := h
  exact je_gC (v := .int n) (fun _ => .int n) ht ⟨t, rfl⟩ hg hdb
theorem je_never : JE X Z e mNever := ⟨fun _ _ _ => False, ⟨fun _ _ _ _ _ _ h => h.elim⟩, fun _ _ _ _ _ _ _ _ _ h => h.elim⟩
theorem js_never : JS X Z st mNeverS := ⟨fun _ _ _ => False, ⟨fun _ _ _ _ _ _ h => h.elim⟩, fun _ _ _ _ _ _ _ _ _ h => h.elim⟩
theorem jt_never : JT X Z e mNeverT := ⟨fun _ _ _ => False, ⟨fun _ _ _ _ _ _ h => h.elim⟩, fun _ _ _ _ _ _ _ _ _ h => h.elim⟩
/-- a tuple's or a list's places -/
theorem jg_seq {k n : Nat} (hc : X.calm = true) (h : JGs X Z es mgs) (hn : (assignEach es X.env).length = n := by rfl) (hst : (assignEach es X.env).findIdx? (·.1) = none := by rfl) : JG X Z (.Tuple es k pos) (gSq n mgs) := by
  obtain ⟨t1, p1, k1⟩ := jg_tup (k := k) (pos := pos) (n := n) hc h hn hst
  obtain ⟨t2, p2, k2⟩ := jg_lst (k := k) (pos := pos) (n := n) hc h hn hst
  refine ⟨fun v σ H Q => t1 v σ H Q ∨ t2 v σ H Q, ⟨fun pins s σ H v u Q I r h => h.elim (p1.run pins s σ H v u Q I r) (p2.run pins s σ H v u Q I r)⟩, fun S σ H Γ C v r Qm Q A d l q => ?_⟩
  unfold gSq at q
  split at q
  · exact .inl (k1 S σ H Γ C v _ Qm Q A d l q)
  · refine .inr (k2 S σ H Γ C v _ Qm Q A d l ?_)
    unfold gLs
    split at q
    · rename_i e; rw [e]; exact q
    · exact q.elim
theorem je_dct0 : JE X Z (.Dict [] [] pos) mDct0 := ⟨_, pe_dnewK, fun S σ H Γ C Qm Q A l q p hp => by
  obtain ⟨rp2, l2⟩ := A.rp.grow (o := .dK []) (c := .dct []) hp fun S' _ => ⟨[], upd_same, rfl, .nil⟩
  exact l _ _ _ _ _ q rp2 l2 (.cell (by show (S.ps ++ [p])[C.length]? = some p; rw [← A.rp.len]; simp))⟩
theorem je_dct1 {k : String} {kj : Nat} {kp : Pos} (he : JE X Z e m) : JE X Z (.Dict [some (.Constant (.str (Str.ofString k)) kj kp)] [e] pos) (mDct1 k m) := by
  obtain ⟨t, p, kk⟩ := he
  refine ⟨_, pe_disp (pps_cons pe_str p pps_nil) rfl rfl (by simp) (by simp), fun S σ H Γ C Qm Q A l q d hd => ?_⟩
  have hps : d ∉ S.ps := A.rp.nps hd
  have hpg : S.G d = none := by
    cases e : S.G d with
    | none => rfl
    | some o => have := A.rp.sub d o e; rw [hd] at this; cases this
  show t σ (upd H d (.dK [])) _
  refine kk S σ (upd H d (.dK [])) Γ C _ _ ⟨A.rp.side hps hpg, A.sg, A.le.side ?_⟩ (fun r C1 v S1 H1 q1 rp1 l1 d1 => ?_) q
  · cases e : Z.H0 d with
    | none => rfl
    | some o =>
      by_cases hz : d ∈ Z.S0.ps
      · obtain ⟨kx, hk, ek⟩ := List.getElem_of_mem hz
        have := A.le.ps kx d (by rw [List.getElem?_eq_getElem hk, ek])
        exact absurd (List.mem_of_getElem? this) hps
      · have := A.le.fr d o e hz
        rw [hd] at this; cases this
  · have h1 : H1 d = some (.dK []) := l1.fr d _ upd_same hps
    have n1 : d ∉ S1.ps := fun z => (l1.nw d z).elim hps (fun z => by rw [upd_same] at z; cases z)
    have n2 : S1.G d = none := by
      cases e : S1.G d with
      | none => rfl
      | some o =>
        rcases l1.gn d o e with z | z | z
        · rw [hpg] at z; cases z
        · exact absurd z hps
        · rw [upd_same] at z; cases z
    have lx : Le S H S1 H1 := ⟨l1.g, l1.ps, fun b u hb hn => l1.fr b u (by rw [upd_ne (ne_of_none hb hd)]; exact hb) hn, fun p hp => (l1.nw p hp).elim .inl (fun z => .inr (by
        by_cases hb : p = d
        · rw [hb]; exact hd
        · rw [upd_ne hb] at z; exact z)), fun b u hb => (l1.gn b u hb).elim .inl (fun z => .inr (z.elim .inl (fun z => .inr (by
        by_cases hb : b = d
        · rw [hb]; exact hd
        · rw [upd_ne hb] at z; exact z))))⟩
    refine ⟨h1, [(Sum.inr (Str.ofString k), v)], rfl, by simp, ?_⟩
    have e2 : mergeK [] [(Sum.inr (Str.ofString k), v)] = [((Sum.inr (Str.ofString k) : Key), v)] := rfl
    rw [e2]
    have rp2 := (rp1.side (o := .dK [((Sum.inr (Str.ofString k) : Key), v)]) n1 n2).adoptC (c := .dct [(.inr (Str.ofString k), r)]) n1 n2 ⟨_, upd_same, rfl, .cons d1 .nil⟩
    refine l _ _ _ _ _ q1 rp2 ((lx.side hd).adoptC hd) (.cell ?_)
    show (S1.ps ++ [d])[C1.length]? = some d
    rw [← rp1.len]; simp
end
/-! ### a def that calls itself: by a depth -/
section
variable {P : Program} {w : World} {K : PySem.W.Frag} {mg : Str → Option Value} {base : Heap} {qual x : Str} {st : Stmt} {N ps : List Str} {np : Nat} {f : Addr} {fd : FuncData} {cl : String → Addr}
theorem fn_rec {m : Wt → (Gm → MX) → MS} (WS : Nat → Wt) (F : Fun K x qual st f fd) (Sc : FnScope N ps (defScope st)) (hn : ps.length = np) (hmg : mg x = some (.ref f)) (har : ∀ n rs C Q E, WS n rs C Q E → rs.length = np)
    (hder : ∀ (lvR : Nat) (WR : Wt), Fn P w K mg base cl lvR x np WR f fd ps → ∀ (cdv : Value) (A : Around) (outer : List Env) (s : Shared) (H : Hp) (E : XK) (Z : Zx), Z.cl = cl → Room lvR (A.deeper (envOfC qual (defScope st) s.heap.objs.size f cdv)) →
      ZOk (cxOf (L2.CX P w) P w K mg base N qual (defScope st) f cdv A outer s H E) Z → JSs (cxOf (L2.CX P w) P w K mg base N qual (defScope st) f cdv A outer s H E) Z (defBody st) (m WR Z.e))
    (hm : ∀ n, Keeps N.length (m (prevW WS n)) np (WS n)) : ∀ n, Fn P w K mg base cl (n + 1) x np (WS n) f fd ps
  | 0 => fn_M F Sc hn hmg (har 0) (hder 0 _ ⟨⟨fun vs H Q E h => by obtain ⟨_, _, _, _, _, _, _, _, z, _⟩ := h; exact z.elim, fun _ _ _ _ _ _ _ _ _ _ _ _ _ h => by obtain ⟨_, _, _, _, _, _, _, _, z, _⟩ := h; exact z.elim⟩, hmg, F.kp, fun _ _ _ _ z => z.elim⟩) (hm 0)
  | n + 1 => fn_M F Sc hn hmg (har (n + 1)) (hder (n + 1) _ (fn_rec WS F Sc hn hmg har hder hm n)) (hm (n + 1))
end
def nons : Nat → List V
  | 0 => []
  | n + 1 => .non :: nons n
theorem vals_non1 : Vals [V.non] [Value.none] := .cons rfl .nil
theorem vals_non2 : Vals [V.non, V.non] [Value.none, Value.none] := .cons rfl (.cons rfl .nil)
theorem dls_non1 {K : PySem.W.Frag} (S : Wd) : DL K S [V.non] [R.non] := .cons .non .nil
theorem dls_non2 {K : PySem.W.Frag} (S : Wd) : DL K S [V.non, V.non] [R.non, R.non] := .cons .non (.cons .non .nil)
end NB
set_option maxRecDepth 100000
set_option maxHeartbeats 2000000
set_option exponentiation.threshold 500000
namespace NB
open PySem
/-! what the laws' functions answer -/
def Ln (n : Nat) (i : Int) : Prop := i.natAbs < 2 ^ n
def tyd (C : Cs) (r : R) : Bool := (tyOf C r).isSome
def ty2 (C : Cs) (r : R) : Bool := tyd C r && match r with
  | .tup xs => xs.all (tyd C)
  | _ => true
def ty3 (C : Cs) (r : R) : Bool := tyd C r && match r with
  | .tup xs => xs.all (ty2 C)
  | _ => true
def isInt : R → Bool
  | .int _ => true
  | _ => false
def btw (lo hi : Int) : R → Bool
  | .int i => decide (lo ≤ i) && decide (i ≤ hi)
  | _ => false
def tupB (n : Int) : R → Bool
  | .tup xs => (xs.length : Int) == n
  | _ => false
def rowB (n lo hi : Int) : R → Bool
  | .tup xs => ((xs.length : Int) == n) && xs.all (btw lo hi)
  | _ => false
def matB : R → Bool
  | .tup xs => ((xs.length : Int) == 2) && xs.all (rowB 2 (-1000) 1000)
  | _ => false
abbrev fm (a b c : Int) : R := .tup [.int a, .int b, .int c]
abbrev mt (p q r s : Int) : R := .tup [.tup [.int p, .int q], .tup [.int r, .int s]]
def dsc (a b c : Int) : Int := b * b - 4 * a * c
def vl (a b c x y : Int) : Int := a * x * x + b * x * y + c * y * y
def cg (a b c p q r s : Int) : R := fm (vl a b c p r) (vl a b c (p + q) (r + s) - vl a b c p r - vl a b c q s) (vl a b c q s)
def Le1 (m i : Int) : Prop := -m ≤ i ∧ i ≤ m
def W_is_integer : Wt := fun rs C Q _ => match rs with
  | [r] => tyd C r = true ∧ Q (.bl (isInt r)) C
  | _ => False
def W_is_between : Wt := fun rs C Q _ => match rs with
  | [r, .int lo, .int hi] => tyd C r = true ∧ Q (.bl (btw lo hi r)) C
  | _ => False
def W_is_tuple_of : Wt := fun rs C Q _ => match rs with
  | [r, .int n] => tyd C r = true ∧ Q (.bl (tupB n r)) C
  | _ => False
def W_is_row : Wt := fun rs C Q _ => match rs with
  | [r, .int n, .int lo, .int hi] => n ≤ 1000 ∧ ty2 C r = true ∧ Q (.bl (rowB n lo hi r)) C
  | _ => False
def W_is_form : Wt := fun rs C Q _ => match rs with
  | [r] => ty2 C r = true ∧ Q (.bl (rowB 3 (-1000) 1000 r)) C
  | _ => False
def W_discriminant_of : Wt := fun rs C Q _ => match rs with
  | [.tup [.int a, .int b, .int c]] => (Ln 1000 a ∧ Ln 1000 b ∧ Ln 1000 c) ∧ Q (.int (dsc a b c)) C
  | _ => False
def W_discriminant : Wt := fun rs C Q E => match rs with
  | [r] => ty2 C r = true ∧ (rowB 3 (-1000) 1000 r = true → ∀ a b c, r = fm a b c → Q (.int (dsc a b c)) C) ∧ (rowB 3 (-1000) 1000 r = false → E "InvalidForm" [("given", r)] C)
  | _ => False
def W_value_at : Wt := fun rs C Q _ => match rs with
  | [.tup [.int a, .int b, .int c], .int x, .int y] => ((Ln 1000 a ∧ Ln 1000 b ∧ Ln 1000 c) ∧ Ln 1000 x ∧ Ln 1000 y) ∧ Q (.int (vl a b c x y)) C
  | _ => False
def W_value : Wt := fun rs C Q E => match rs with
  | [r, .int x, .int y] => (Ln 1000 x ∧ Ln 1000 y) ∧ ty2 C r = true ∧ (rowB 3 (-1000) 1000 r = true → ∀ a b c, r = fm a b c → Q (.int (vl a b c x y)) C) ∧ (rowB 3 (-1000) 1000 r = false → E "InvalidForm" [("given", r)] C)
  | _ => False
def W_moved : Wt := fun rs C Q _ => match rs with
  | [.tup [.int a, .int b, .int c], .tup [.tup [.int p, .int q], .tup [.int r, .int s]]] => ((Ln 300 a ∧ Ln 300 b ∧ Ln 300 c) ∧ Ln 300 p ∧ Ln 300 q ∧ Ln 300 r ∧ Ln 300 s) ∧ Q (cg a b c p q r s) C
  | _ => False
def W_is_matrix : Wt := fun rs C Q _ => match rs with
  | [r] => ty3 C r = true ∧ Q (.bl (matB r)) C
  | _ => False
def W_changed : Wt := fun rs C Q E => match rs with
  | [f, m] => (ty2 C f = true ∧ ty3 C m = true) ∧ (rowB 3 (-1000) 1000 f = true → matB m = true → ∀ a b c p q r s, f = fm a b c → m = mt p q r s → Q (cg a b c p q r s) C) ∧
      (rowB 3 (-1000) 1000 f = false → E "InvalidForm" [("given", f)] C) ∧ (rowB 3 (-1000) 1000 f = true → matB m = false → E "InvalidMatrix" [("given", m)] C)
  | _ => False
def W_l_cell : Wt := fun rs C Q _ => match rs with
  | [.scr xs, .int k] => (0 ≤ k ∧ k < 100 ∧ ∃ ns : List Int, xs = ns.map .int) ∧ ∀ i : Int, Q (.int i) C
  | _ => False
def W_l_box : Wt := fun rs C Q _ => match rs with
  | [.int _] => Q (.cell C.length) (C ++ [.box 0])
  | _ => False
def W_l_take : Wt := fun rs C Q _ => match rs with
  | [.cell k, .int many] => ∃ n, C[k]? = some (.box n) ∧ (0 < many ∧ many < 1000000 ∧ n < 1000000) ∧ ∀ d : Int, 0 ≤ d → d < many → Q (.int d) (C.set k (.box (n + 1)))
  | _ => False
def nice : Nat → Cs → R → Bool
  | _, _, .non => true
  | _, _, .bl _ => true
  | _, _, .int _ => true
  | _, _, .str z => decide (z.length ≤ 1000) && z.cps.all fun c => decide (c < 0x110000)
  | n + 1, C, .tup xs => decide (xs.length ≤ 1000) && xs.all (nice n C)
  | n + 1, C, .lst xs => decide (xs.length ≤ 1000) && xs.all (nice n C)
  | _, C, .cell k => match C[k]? with
    | some (.dct []) => true
    | _ => false
  | _, _, _ => false
def WSame (d : Nat) : Wt := fun rs C Q _ => match rs with
  | [x, y] => (y = x ∧ nice d C x = true) ∧ Q (.bl true) C
  | _ => False
def W_l_same : Wt := WSame 13
def W_l_disc : Wt := W_discriminant_of
def W_l_value : Wt := W_value_at
def W_l_changed : Wt := fun rs C Q _ => match rs with
  | [.tup [.int a, .int b, .int c], .tup [.tup [.int p, .int q], .tup [.int r, .int s]]] => ((Ln 300 a ∧ Ln 300 b ∧ Ln 300 c) ∧ Ln 300 p ∧ Ln 300 q ∧ Ln 300 r ∧ Ln 300 s) ∧ Q (cg a b c p q r s) C
  | _ => False
def W_l_times : Wt := fun rs C Q _ => match rs with
  | [.tup [.tup [.int p, .int q], .tup [.int r, .int s]], .tup [.tup [.int a, .int b], .tup [.int c, .int d]]] => ((Ln 300 a ∧ Ln 300 b ∧ Ln 300 c ∧ Ln 300 d) ∧ Ln 300 p ∧ Ln 300 q ∧ Ln 300 r ∧ Ln 300 s) ∧
      Q (mt (p * a + q * c) (p * b + q * d) (r * a + s * c) (r * b + s * d)) C
  | _ => False
/-- a box at k, then an answer with at most j more turns of it -/
def Bx (k j : Nat) (C : Cs) (P : Nat → Prop) : Prop := ∃ n, C[k]? = some (.box n) ∧ n + j < 1000000 ∧ ∀ n', n' ≤ n + j → P n'
def W_l_shift : Wt := fun rs C Q _ => match rs with
  | [.cell k] => Bx k 10 C fun n => ∀ p q r s, Le1 27 p → Le1 27 q → Le1 27 r → Le1 27 s → Q (mt p q r s) (C.set k (.box n))
  | _ => False
def W_l_is_small : Wt := fun rs C Q _ => match rs with
  | [.tup [.int a, .int b, .int c]] => Q (.bl (rowB 3 (-1000) 1000 (fm a b c))) C
  | _ => False
def W_l_form : Wt := fun rs C Q _ => match rs with
  | [.cell k] => Bx k 30 C fun n => ∀ a b c, Le1 1000 a → Le1 1000 b → Le1 1000 c → Q (fm a b c) (C.set k (.box n))
  | _ => False
def oddF (C : Cs) (r : R) : Prop := (∀ d, nice (d + 5) C r = true) ∧ ty2 C r = true ∧ rowB 3 (-1000) 1000 r = false
def W_l_odd_form : Wt := fun rs C Q _ => match rs with
  | [.cell k] => ∃ n, C[k]? = some (.box n) ∧ n < 999000 ∧ ∀ r, (∀ m, oddF ((C ++ [Ct.dct []]).set k (.box m)) r) → Q r ((C ++ [Ct.dct []]).set k (.box (n + 1)))
  | _ => False
def W_l_any_form : Wt := fun rs C Q _ => match rs with
  | [.cell k] => Bx k 40 C fun n => ∀ a b c, Le1 1000 a → Le1 1000 b → Le1 1000 c → Q (fm a b c) (C.set k (.box n))
  | _ => False
def W_l_any_matrix : Wt := fun rs C Q _ => match rs with
  | [.cell k] => Bx k 40 C fun n => ∀ p q r s, Le1 1000 p → Le1 1000 q → Le1 1000 r → Le1 1000 s → Q (mt p q r s) (C.set k (.box n))
  | _ => False
def W_l_said : Wt := fun rs C Q _ => match rs with
  | [.int way, f, m] => (0 ≤ way ∧ way < 6 ∧ ty2 C f = true ∧ ty3 C m = true) ∧
      (rowB 3 (-1000) 1000 f = false → Q (.lst [.str "form", f]) C) ∧
      (rowB 3 (-1000) 1000 f = true → ∀ a b c, f = fm a b c → (way < 2 → Q (.lst [.str "told", .int (dsc a b c)]) C) ∧ (4 ≤ way → Q (.lst [.str "told", .int (vl a b c 2 (-3))]) C) ∧
        (2 ≤ way → way < 4 → (matB m = false → Q (.lst [.str "matrix", m]) C) ∧ (matB m = true → ∀ p q r s, m = mt p q r s → Q (.lst [.str "told", cg a b c p q r s]) C)))
  | _ => False
def W_l_right : Wt := fun rs C Q _ => match rs with
  | [.cell k] => (C[k]? = some (.box 0) ∧ okC C.length C) ∧ ∀ n, Q (.bl true) (C.set k (.box n))
  | _ => False
def W_law : Wt := fun rs C Q _ => match rs with
  | [.scr xs] => (C = [] ∧ xs.length ≤ 63 ∧ ∃ ns : List Int, xs = ns.map .int) ∧ ∀ C', Q (.bl true) C'
  | _ => False
def knE : List String := ["InvalidForm", "InvalidMatrix"]
def subE (a b : String) : Bool := [("InvalidForm", "NumberError"), ("InvalidForm", "InvalidForm"), ("InvalidMatrix", "NumberError"), ("InvalidMatrix", "InvalidMatrix")].contains (a, b)
def m_is_integer (ex : Gm → MX) : MS :=
  (mRet (mAndE (mFn (fIsi "int") (mCons (mVar 0) mNil)) (mNotE (mFn (fIsi "bool") (mCons (mVar 0) mNil)))))
def m_is_between (ex : Gm → MX) : MS :=
  (mRet (mAndE (mCall W_is_integer ex (mCons (mVar 0) mNil)) (mChain oLe oLe (mVar 1) (mVar 0) (mVar 2))))
def m_is_tuple_of (ex : Gm → MX) : MS :=
  (mRet (mAndE (mFn (fIsi "tuple") (mCons (mVar 0) mNil)) (mOp oEq (mFn fLen (mCons (mVar 0) mNil)) (mVar 1))))
def m_is_row (ex : Gm → MX) : MS :=
  (mRet (mAndE (mCall W_is_tuple_of ex (mCons (mVar 0) (mCons (mVar 1) mNil))) (mFn fAll (mCons (mComp false (iSeqT (mVar 0)) (gNm 4) mYes (mCall W_is_between (fun _ => noX) (mCons (mVar 4) (mCons (mVar 2) (mCons (mVar 3) mNil)))) [4]) mNil))))
def m_is_form (ex : Gm → MX) : MS :=
  (mRet (mCall W_is_row ex (mCons (mVar 0) (mCons (mC (.int 3)) (mCons (mUn oNeg (mC (.int 1000))) (mCons (mC (.int 1000)) mNil))))))
def m_discriminant_of (ex : Gm → MX) : MS :=
  (mSeq (mAsg (mVar 0) (gSq 3 (gCn (gNm 1) (gCn (gNm 2) (gCn (gNm 3) gNl)))))
  (mRet (mOp oSub (mOp (oTimes false) (mVar 2) (mVar 2)) (mOp (oTimes false) (mOp (oTimes false) (mC (.int 4)) (mVar 1)) (mVar 3)))))
def m_discriminant (ex : Gm → MX) : MS :=
  (mSeq (mIfS (mNotT (mTru (mCall W_is_form ex (mCons (mVar 0) mNil)))) (mRaise "InvalidForm" "given" ex (mVar 0)) mNext)
  (mRet (mCall W_discriminant_of ex (mCons (mVar 0) mNil))))
def m_value_at (ex : Gm → MX) : MS :=
  (mSeq (mAsg (mVar 0) (gSq 3 (gCn (gNm 3) (gCn (gNm 4) (gCn (gNm 5) gNl)))))
  (mRet (mOp (oPlus false) (mOp (oPlus false) (mOp (oTimes false) (mOp (oTimes false) (mVar 3) (mVar 1)) (mVar 1)) (mOp (oTimes false) (mOp (oTimes false) (mVar 4) (mVar 1)) (mVar 2))) (mOp (oTimes false) (mOp (oTimes false) (mVar 5) (mVar 2)) (mVar 2)))))
def m_value (ex : Gm → MX) : MS :=
  (mSeq (mIfS (mNotT (mTru (mCall W_is_form ex (mCons (mVar 0) mNil)))) (mRaise "InvalidForm" "given" ex (mVar 0)) mNext)
  (mRet (mCall W_value_at ex (mCons (mVar 0) (mCons (mVar 1) (mCons (mVar 2) mNil))))))
def m_moved (ex : Gm → MX) : MS :=
  (mSeq (mAsg (mVar 1) (gSq 2 (gCn (gSq 2 (gCn (gNm 6) (gCn (gNm 7) gNl))) (gCn (gSq 2 (gCn (gNm 8) (gCn (gNm 9) gNl))) gNl))))
  (mSeq (mAsg (mVar 0) (gSq 3 (gCn (gNm 3) (gCn (gNm 4) (gCn (gNm 5) gNl)))))
  (mSeq (mAsg (mOp (oPlus false) (mOp (oPlus false) (mOp (oTimes false) (mOp (oTimes false) (mOp (oTimes false) (mC (.int 2)) (mVar 3)) (mVar 6)) (mVar 7)) (mOp (oTimes false) (mVar 4) (mOp (oPlus false) (mOp (oTimes false) (mVar 6) (mVar 9)) (mOp (oTimes false) (mVar 7) (mVar 8))))) (mOp (oTimes false) (mOp (oTimes false) (mOp (oTimes false) (mC (.int 2)) (mVar 5)) (mVar 8)) (mVar 9))) (gNm 2))
  (mRet (mTup (mCons (mCall W_value_at ex (mCons (mVar 0) (mCons (mVar 6) (mCons (mVar 8) mNil)))) (mCons (mVar 2) (mCons (mCall W_value_at ex (mCons (mVar 0) (mCons (mVar 7) (mCons (mVar 9) mNil)))) mNil))))))))
def m_is_matrix (ex : Gm → MX) : MS :=
  (mRet (mAndE (mCall W_is_tuple_of ex (mCons (mVar 0) (mCons (mC (.int 2)) mNil))) (mFn fAll (mCons (mComp false (iSeqT (mVar 0)) (gNm 1) mYes (mCall W_is_row (fun _ => noX) (mCons (mVar 1) (mCons (mC (.int 2)) (mCons (mUn oNeg (mC (.int 1000))) (mCons (mC (.int 1000)) mNil))))) [1]) mNil))))
def m_changed (ex : Gm → MX) : MS :=
  (mSeq (mIfS (mNotT (mTru (mCall W_is_form ex (mCons (mVar 0) mNil)))) (mRaise "InvalidForm" "given" ex (mVar 0)) mNext)
  (mSeq (mIfS (mNotT (mTru (mCall W_is_matrix ex (mCons (mVar 1) mNil)))) (mRaise "InvalidMatrix" "given" ex (mVar 1)) mNext)
  (mRet (mCall W_moved ex (mCons (mVar 0) (mCons (mVar 1) mNil))))))
def m_l_cell (ex : Gm → MX) : MS :=
  (mRet (mIfE (mVal (mOp oLt (mVar 1) (mFn fLen (mCons (mVar 0) mNil)))) (mOp oIx (mVar 0) (mVar 1)) (mOp (oPlus false) (mOp (oTimes false) (mC (.int 6007)) (mVar 1)) (mOp oMod (mFn fInt (mCons (mFn fSum (mCons (mSl false (mVar 0) mO0 (mO1 (mC (.int 1)))) mNil)) mNil)) (mC (.int 1000033))))))
def m_l_box (ex : Gm → MX) : MS :=
  (mBox 0 (mRet (mLst true (mCons (mFn fAbs (mCons (mVar 0) mNil)) (mCons (mOp oGe (mFn fAbs (mCons (mVar 0) mNil)) (mOp oPow (mC (.int 10)) (mC (.int 18)))) (mCons (mOp oMod (mFn fInt (mCons (mFn fAbs (mCons (mVar 0) mNil)) mNil)) (mC (.int 2147483629))) (mCons (mC (.int 0)) mNil)))))))
def m_l_take (ex : Gm → MX) : MS :=
  (mUnb 0 (mSeq (mIfS (mAndT (mTru (mOp oIx (mVar 0) (mC (.int 1)))) (mVal (mOp oGt (mOp oIx (mVar 0) (mC (.int 0))) (mC (.int 0))))) (mSeq (mAsg (mOp oMod (mFn fInt (mCons (mOp oIx (mVar 0) (mC (.int 0))) mNil)) (mVar 1)) (gNm 3))
  (mSeq (mAsg (mOp oDiv (mOp oIx (mVar 0) (mC (.int 0))) (mVar 1)) (gIx (mVar 0) (mC (.int 0))))
  (mRet (mVar 3)))) mNext)
  (mSeq (mAsg (mOp (oPlus false) (mOp oIx (mVar 0) (mC (.int 3))) (mC (.int 1))) (gIx (mVar 0) (mC (.int 3))))
  (mSeq (mAsg (mOp oMod (mFn fInt (mCons (mOp oPow (mOp (oPlus false) (mOp (oPlus false) (mOp oIx (mVar 0) (mC (.int 2))) (mOp (oTimes false) (mC (.int 15485863)) (mOp oIx (mVar 0) (mC (.int 3))))) (mC (.int 179424673))) (mC (.int 5))) mNil)) (mC (.int 2147483647))) (gNm 2))
  (mRet (mOp oMod (mFn fInt (mCons (mOp oDiv (mOp oMod (mFn fInt (mCons (mOp oPow (mOp (oPlus false) (mOp (oTimes false) (mVar 2) (mC (.int 48271))) (mOp (oTimes false) (mC (.int 104729)) (mOp oIx (mVar 0) (mC (.int 3))))) (mC (.int 3))) mNil)) (mC (.int 2147483587))) (mC (.int 64))) mNil)) (mVar 1)))))))
def m_l_same (WR : Wt) (ex : Gm → MX) : MS :=
  (mSeq (mIfS (mOrT (mVal (mOp oIsN (mVar 1) (mC .non))) (mTru (mFn (fIsi "bool") (mCons (mVar 1) mNil)))) (mRet (mIfE (mVal (mOp oIsN (mVar 1) (mC .non))) (mOp oIsN (mVar 0) (mC .non)) (mAndE (mFn (fIsi "bool") (mCons (mVar 0) mNil)) (mOp oEq (mOp oIsB (mVar 0) (mC (.bl true))) (mOp oIsB (mVar 1) (mC (.bl true))))))) mNext)
  (mSeq (mIfS (mTru (mFn (fIsi "int") (mCons (mVar 1) mNil))) (mRet (mAndE (mFn (fIsi "int") (mCons (mVar 0) mNil)) (mAndE (mNotE (mFn (fIsi "bool") (mCons (mVar 0) mNil))) (mOp oEq (mOp oSub (mFn fInt (mCons (mVar 0) mNil)) (mVar 1)) (mC (.int 0)))))) mNext)
  (mSeq (mIfS (mTru (mFn (fIsi "str") (mCons (mVar 1) mNil))) (mRet (mAndE (mFn (fIsi "str") (mCons (mVar 0) mNil)) (mAndE (mOp oEq (mFn fLen (mCons (mVar 0) mNil)) (mFn fLen (mCons (mVar 1) mNil))) (mOp oEq (mComp false (iRg1 (mCons (mFn fLen (mCons (mVar 1) mNil)) mNil)) (gNm 2) (mVal (mOp oNe (mSl false (mVar 0) (mO1 (mVar 2)) (mO1 (mOp (oPlus false) (mVar 2) (mC (.int 1))))) (mOp oIx (mVar 1) (mVar 2)))) (mVar 2) [2]) (mLst false mNil))))) mNext)
  (mSeq (mIfS (mOrT (mVal (mOp oNe (mFn (fIsi "list") (mCons (mVar 0) mNil)) (mFn (fIsi "list") (mCons (mVar 1) mNil)))) (mVal (mOp oNe (mFn (fIsi "tuple") (mCons (mVar 0) mNil)) (mFn (fIsi "tuple") (mCons (mVar 1) mNil))))) (mRet (mC (.bl false))) mNext)
  (mRet (mAndE (mOp oEq (mFn fLen (mCons (mVar 0) mNil)) (mFn fLen (mCons (mVar 1) mNil))) (mOp oEq (mComp false (iRg1 (mCons (mFn fLen (mCons (mVar 1) mNil)) mNil)) (gNm 2) (mNotT (mTru (mCall WR (fun _ => noX) (mCons (mOp oIx (mVar 0) (mVar 2)) (mCons (mOp oIx (mVar 1) (mVar 2)) mNil))))) (mVar 2) [2]) (mLst false mNil))))))))
def m_l_disc (ex : Gm → MX) : MS :=
  (mRet (mOp oSub (mOp (oTimes false) (mOp oIx (mVar 0) (mC (.int 1))) (mOp oIx (mVar 0) (mC (.int 1)))) (mOp (oTimes false) (mOp (oTimes false) (mC (.int 4)) (mOp oIx (mVar 0) (mC (.int 0)))) (mOp oIx (mVar 0) (mC (.int 2))))))
def m_l_value (ex : Gm → MX) : MS :=
  (mRet (mOp (oPlus false) (mOp (oPlus false) (mOp (oTimes false) (mOp (oTimes false) (mOp oIx (mVar 0) (mC (.int 0))) (mVar 1)) (mVar 1)) (mOp (oTimes false) (mOp (oTimes false) (mOp oIx (mVar 0) (mC (.int 1))) (mVar 1)) (mVar 2))) (mOp (oTimes false) (mOp (oTimes false) (mOp oIx (mVar 0) (mC (.int 2))) (mVar 2)) (mVar 2))))
def m_l_changed (ex : Gm → MX) : MS :=
  (mSeq (mAsg (mVar 1) (gSq 2 (gCn (gSq 2 (gCn (gNm 3) (gCn (gNm 4) gNl))) (gCn (gSq 2 (gCn (gNm 5) (gCn (gNm 6) gNl))) gNl))))
  (mSeq (mAsg (mOp oSub (mOp oSub (mCall W_l_value ex (mCons (mVar 0) (mCons (mOp (oPlus false) (mVar 3) (mVar 4)) (mCons (mOp (oPlus false) (mVar 5) (mVar 6)) mNil)))) (mCall W_l_value ex (mCons (mVar 0) (mCons (mVar 3) (mCons (mVar 5) mNil))))) (mCall W_l_value ex (mCons (mVar 0) (mCons (mVar 4) (mCons (mVar 6) mNil))))) (gNm 2))
  (mRet (mTup (mCons (mCall W_l_value ex (mCons (mVar 0) (mCons (mVar 3) (mCons (mVar 5) mNil)))) (mCons (mVar 2) (mCons (mCall W_l_value ex (mCons (mVar 0) (mCons (mVar 4) (mCons (mVar 6) mNil)))) mNil)))))))
def m_l_times (ex : Gm → MX) : MS :=
  (mRet (mTup (mCons (mTup (mCons (mOp (oPlus false) (mOp (oTimes false) (mOp oIx (mOp oIx (mVar 0) (mC (.int 0))) (mC (.int 0))) (mOp oIx (mOp oIx (mVar 1) (mC (.int 0))) (mC (.int 0)))) (mOp (oTimes false) (mOp oIx (mOp oIx (mVar 0) (mC (.int 0))) (mC (.int 1))) (mOp oIx (mOp oIx (mVar 1) (mC (.int 1))) (mC (.int 0))))) (mCons (mOp (oPlus false) (mOp (oTimes false) (mOp oIx (mOp oIx (mVar 0) (mC (.int 0))) (mC (.int 0))) (mOp oIx (mOp oIx (mVar 1) (mC (.int 0))) (mC (.int 1)))) (mOp (oTimes false) (mOp oIx (mOp oIx (mVar 0) (mC (.int 0))) (mC (.int 1))) (mOp oIx (mOp oIx (mVar 1) (mC (.int 1))) (mC (.int 1))))) mNil))) (mCons (mTup (mCons (mOp (oPlus false) (mOp (oTimes false) (mOp oIx (mOp oIx (mVar 0) (mC (.int 1))) (mC (.int 0))) (mOp oIx (mOp oIx (mVar 1) (mC (.int 0))) (mC (.int 0)))) (mOp (oTimes false) (mOp oIx (mOp oIx (mVar 0) (mC (.int 1))) (mC (.int 1))) (mOp oIx (mOp oIx (mVar 1) (mC (.int 1))) (mC (.int 0))))) (mCons (mOp (oPlus false) (mOp (oTimes false) (mOp oIx (mOp oIx (mVar 0) (mC (.int 1))) (mC (.int 0))) (mOp oIx (mOp oIx (mVar 1) (mC (.int 0))) (mC (.int 1)))) (mOp (oTimes false) (mOp oIx (mOp oIx (mVar 0) (mC (.int 1))) (mC (.int 1))) (mOp oIx (mOp oIx (mVar 1) (mC (.int 1))) (mC (.int 1))))) mNil))) mNil))))
def m_l_shift (ex : Gm → MX) : MS :=
  (mSeq (mAsg (mTup (mCons (mTup (mCons (mC (.int 1)) (mCons (mC (.int 0)) mNil))) (mCons (mTup (mCons (mC (.int 0)) (mCons (mC (.int 1)) mNil))) mNil))) (gNm 1))
  (mSeq (mFor (iRg1 (mCons (mCall W_l_take ex (mCons (mVar 0) (mCons (mC (.int 4)) mNil))) mNil)) (gNm 2) (mSeq (mAsg (mOp oSub (mCall W_l_take ex (mCons (mVar 0) (mCons (mC (.int 5)) mNil))) (mC (.int 2))) (gNm 3))
  (mAsg (mCall W_l_times ex (mCons (mVar 1) (mCons (mOp oIx (mLst false (mCons (mTup (mCons (mTup (mCons (mC (.int 1)) (mCons (mVar 3) mNil))) (mCons (mTup (mCons (mC (.int 0)) (mCons (mC (.int 1)) mNil))) mNil))) (mCons (mTup (mCons (mTup (mCons (mC (.int 1)) (mCons (mC (.int 0)) mNil))) (mCons (mTup (mCons (mVar 3) (mCons (mC (.int 1)) mNil))) mNil))) (mCons (mTup (mCons (mTup (mCons (mC (.int 0)) (mCons (mUn oNeg (mC (.int 1))) mNil))) (mCons (mTup (mCons (mC (.int 1)) (mCons (mC (.int 0)) mNil))) mNil))) mNil)))) (mCall W_l_take ex (mCons (mVar 0) (mCons (mC (.int 3)) mNil)))) mNil))) (gNm 1))))
  (mRet (mVar 1))))
def m_l_is_small (ex : Gm → MX) : MS :=
  (mRet (mOp oEq (mComp false (iSeqT (mVar 0)) (gNm 1) (mVal (mOp oGt (mFn fAbs (mCons (mVar 1) mNil)) (mC (.int 1000)))) (mVar 1) [1]) (mLst false mNil)))
def m_l_form (ex : Gm → MX) : MS :=
  (mSeq (mAsg (mOp (oPlus false) (mC (.int 1)) (mCall W_l_take ex (mCons (mVar 0) (mCons (mOp oIx (mLst false (mCons (mC (.int 6)) (mCons (mC (.int 12)) (mCons (mC (.int 30)) mNil)))) (mCall W_l_take ex (mCons (mVar 0) (mCons (mC (.int 3)) mNil)))) mNil)))) (gNm 1))
  (mSeq (mPar 4 5 (mCons (mOp (oPlus false) (mOp oSub (mCall W_l_take ex (mCons (mVar 0) (mCons (mOp (oTimes false) (mC (.int 2)) (mVar 1)) mNil))) (mVar 1)) (mC (.int 1))) (mCons (mOp (oPlus false) (mVar 1) (mCall W_l_take ex (mCons (mVar 0) (mCons (mOp oIx (mLst false (mCons (mC (.int 3)) (mCons (mC (.int 20)) (mCons (mC (.int 60)) mNil)))) (mCall W_l_take ex (mCons (mVar 0) (mCons (mC (.int 3)) mNil)))) mNil)))) mNil)))
  (mSeq (mAsg (mOp oIx (mLst false (mCons (mTup (mCons (mVar 1) (mCons (mVar 4) (mCons (mVar 5) mNil)))) (mCons (mTup (mCons (mVar 1) (mCons (mVar 1) (mCons (mVar 1) mNil)))) (mCons (mTup (mCons (mVar 1) (mCons (mC (.int 0)) (mCons (mVar 1) mNil)))) (mCons (mTup (mCons (mVar 1) (mCons (mVar 1) (mCons (mVar 5) mNil)))) (mCons (mTup (mCons (mVar 1) (mCons (mFn fAbs (mCons (mVar 4) mNil)) (mCons (mVar 1) mNil)))) mNil)))))) (mOp oIx (mLst false (mCons (mC (.int 0)) (mCons (mC (.int 0)) (mCons (mC (.int 0)) (mCons (mC (.int 1)) (mCons (mC (.int 2)) (mCons (mC (.int 3)) (mCons (mC (.int 4)) (mCons (mC (.int 0)) mNil))))))))) (mCall W_l_take ex (mCons (mVar 0) (mCons (mC (.int 8)) mNil))))) (gNm 2))
  (mSeq (mAsg (mCall W_l_changed ex (mCons (mVar 2) (mCons (mCall W_l_shift ex (mCons (mVar 0) mNil)) mNil))) (gNm 3))
  (mRet (mIfE (mTru (mCall W_l_is_small ex (mCons (mVar 3) mNil))) (mVar 3) (mVar 2)))))))
def m_l_odd_form (ex : Gm → MX) : MS :=
  (mRet (mOp oIx (mLst false (mCons (mC .non) (mCons (mC (.int 0)) (mCons (mTup (mCons (mC (.int 1)) (mCons (mC (.int 0)) mNil))) (mCons (mTup (mCons (mC (.int 1)) (mCons (mC (.int 0)) (mCons (mC (.int 1)) (mCons (mC (.int 0)) mNil))))) (mCons (mLst false (mCons (mC (.int 1)) (mCons (mC (.int 0)) (mCons (mC (.int 1)) mNil)))) (mCons (mTup (mCons (mC (.int 1001)) (mCons (mC (.int 0)) (mCons (mC (.int 1)) mNil)))) (mCons (mTup (mCons (mC (.int 1)) (mCons (mUn oNeg (mC (.int 1001))) (mCons (mC (.int 1)) mNil)))) (mCons (mTup (mCons (mC (.bl true)) (mCons (mC (.int 0)) (mCons (mC (.int 1)) mNil)))) (mCons (mTup (mCons (mC (.str "1")) (mCons (mC (.int 0)) (mCons (mC (.int 1)) mNil)))) (mCons (mTup (mCons (mC (.int 1)) (mCons (mC (.int 0)) (mCons (mC .non) mNil)))) (mCons (mC (.str "form")) (mCons mDct0 (mCons (mTup (mCons (mTup (mCons (mC (.int 1)) mNil)) (mCons (mC (.int 0)) (mCons (mC (.int 1)) mNil)))) mNil)))))))))))))) (mCall W_l_take ex (mCons (mVar 0) (mCons (mC (.int 13)) mNil)))))
def m_l_any_form (ex : Gm → MX) : MS :=
  (mSeq (mIfS (mVal (mOp oEq (mCall W_l_take ex (mCons (mVar 0) (mCons (mC (.int 3)) mNil))) (mC (.int 0)))) (mRet (mCall W_l_form ex (mCons (mVar 0) mNil))) mNext)
  (mSeq (mAsg (mOp oIx (mLst false (mCons (mC (.int 3)) (mCons (mC (.int 20)) (mCons (mC (.int 1000)) mNil)))) (mCall W_l_take ex (mCons (mVar 0) (mCons (mC (.int 3)) mNil)))) (gNm 1))
  (mRet (mFn fTuple (mCons (mComp false (iRg1 (mCons (mC (.int 3)) mNil)) (gNm 2) mYes (mOp oSub (mCall W_l_take (fun _ => noX) (mCons (mVar 0) (mCons (mOp (oPlus false) (mOp (oTimes false) (mC (.int 2)) (mVar 1)) (mC (.int 1))) mNil))) (mVar 1)) [2]) mNil)))))
def m_l_any_matrix (ex : Gm → MX) : MS :=
  (mSeq (mIfS (mVal (mOp oEq (mCall W_l_take ex (mCons (mVar 0) (mCons (mC (.int 3)) mNil))) (mC (.int 0)))) (mRet (mCall W_l_shift ex (mCons (mVar 0) mNil))) mNext)
  (mSeq (mAsg (mOp oIx (mLst false (mCons (mC (.int 1)) (mCons (mC (.int 5)) (mCons (mC (.int 1000)) mNil)))) (mOp oDiv (mCall W_l_take ex (mCons (mVar 0) (mCons (mC (.int 8)) mNil))) (mC (.int 3)))) (gNm 1))
  (mRet (mFn fTuple (mCons (mComp false (iRg1 (mCons (mC (.int 2)) mNil)) (gNm 2) mYes (mFn fTuple (mCons (mComp false (iRg1 (mCons (mC (.int 2)) mNil)) (gNm 3) mYes (mOp oSub (mCall W_l_take (fun _ => noX) (mCons (mVar 0) (mCons (mOp (oPlus false) (mOp (oTimes false) (mC (.int 2)) (mVar 1)) (mC (.int 1))) mNil))) (mVar 1)) [3]) mNil)) [2]) mNil)))))
def m_l_said (ex : Gm → MX) : MS :=
  (mTry knE subE (fun ex1 => (mSeq (mIfS (mVal (mOp oLt (mVar 0) (mC (.int 2)))) (mRet (mLst false (mCons (mC (.str "told")) (mCons (mIfE (mVal (mOp oEq (mVar 0) (mC (.int 0)))) (mCall W_discriminant ex1 (mCons (mVar 1) mNil)) (mCallK W_discriminant ex1 0 1 [0] mNil (mCons (mVar 1) mNil))) mNil)))) mNext)
  (mSeq (mIfS (mVal (mOp oLt (mVar 0) (mC (.int 4)))) (mRet (mLst false (mCons (mC (.str "told")) (mCons (mIfE (mVal (mOp oEq (mVar 0) (mC (.int 2)))) (mCall W_changed ex1 (mCons (mVar 1) (mCons (mVar 2) mNil))) (mCallK W_changed ex1 0 2 [1, 0] mNil (mCons (mVar 2) (mCons (mVar 1) mNil)))) mNil)))) mNext)
  (mRet (mLst false (mCons (mC (.str "told")) (mCons (mIfE (mVal (mOp oEq (mVar 0) (mC (.int 4)))) (mCall W_value ex1 (mCons (mVar 1) (mCons (mC (.int 2)) (mCons (mUn oNeg (mC (.int 3))) mNil)))) (mCallK W_value ex1 0 3 [2, 1, 0] mNil (mCons (mUn oNeg (mC (.int 3))) (mCons (mC (.int 2)) (mCons (mVar 1) mNil))))) mNil))))))) [⟨"InvalidForm", 3, fun a d c1 => (mRet (mLst false (mCons (mC (.str "form")) (mCons (mExF a d c1 "given" (mVar 3)) mNil))))⟩, ⟨"InvalidMatrix", 3, fun a d c1 => (mRet (mLst false (mCons (mC (.str "matrix")) (mCons (mExF a d c1 "given" (mVar 3)) mNil))))⟩] ex)
def m_l_right (ex : Gm → MX) : MS :=
  (mSeq (mAsg (mTup (mCons (mCall W_l_any_form ex (mCons (mVar 0) mNil)) (mCons (mCall W_l_any_matrix ex (mCons (mVar 0) mNil)) mNil))) (gSq 2 (gCn (gNm 6) (gCn (gNm 7) gNl))))
  (mSeq (mAsg (mCall W_l_changed ex (mCons (mVar 6) (mCons (mVar 7) mNil))) (gNm 1))
  (mSeq (mFor (iRg1 (mCons (mC (.int 6)) mNil)) (gNm 2) (mSeq (mAsg (mOp oIx (mLst false (mCons (mCall W_l_disc ex (mCons (mVar 6) mNil)) (mCons (mVar 1) (mCons (mCall W_l_value ex (mCons (mVar 6) (mCons (mC (.int 2)) (mCons (mUn oNeg (mC (.int 3))) mNil)))) mNil)))) (mOp oDiv (mVar 2) (mC (.int 2)))) (gNm 8))
  (mIfS (mNotT (mTru (mCall W_l_same ex (mCons (mCall W_l_said ex (mCons (mVar 2) (mCons (mVar 6) (mCons (mVar 7) mNil)))) (mCons (mLst false (mCons (mC (.str "told")) (mCons (mVar 8) mNil))) mNil))))) (mRet (mC (.bl false))) mNext)))
  (mSeq (mFor (iRg1 (mCons (mC (.int 4)) mNil)) (gNm 3) (mSeq (mPar 12 13 (mCons (mOp oSub (mCall W_l_take ex (mCons (mVar 0) (mCons (mC (.int 41)) mNil))) (mC (.int 20))) (mCons (mOp oSub (mCall W_l_take ex (mCons (mVar 0) (mCons (mC (.int 2001)) mNil))) (mC (.int 1000))) mNil)))
  (mSeq (mAsg (mLst false (mCons (mOp (oPlus false) (mOp (oTimes false) (mOp oIx (mOp oIx (mVar 7) (mC (.int 0))) (mC (.int 0))) (mVar 12)) (mOp (oTimes false) (mOp oIx (mOp oIx (mVar 7) (mC (.int 0))) (mC (.int 1))) (mVar 13))) (mCons (mOp (oPlus false) (mOp (oTimes false) (mOp oIx (mOp oIx (mVar 7) (mC (.int 1))) (mC (.int 0))) (mVar 12)) (mOp (oTimes false) (mOp oIx (mOp oIx (mVar 7) (mC (.int 1))) (mC (.int 1))) (mVar 13))) mNil))) (gNm 9))
  (mIfS (mOrT (mNotT (mTru (mCall W_l_same ex (mCons (mCall W_value ex (mCons (mVar 6) (mCons (mVar 12) (mCons (mVar 13) mNil)))) (mCons (mCall W_l_value ex (mCons (mVar 6) (mCons (mVar 12) (mCons (mVar 13) mNil)))) mNil))))) (mVal (mOp oNe (mCall W_l_value ex (mCons (mVar 1) (mCons (mVar 12) (mCons (mVar 13) mNil)))) (mCall W_l_value ex (mCons (mVar 6) (mCons (mOp oIx (mVar 9) (mC (.int 0))) (mCons (mOp oIx (mVar 9) (mC (.int 1))) mNil))))))) (mRet (mC (.bl false))) mNext))))
  (mSeq (mAsg (mOp oSub (mOp (oTimes false) (mOp oIx (mOp oIx (mVar 7) (mC (.int 0))) (mC (.int 0))) (mOp oIx (mOp oIx (mVar 7) (mC (.int 1))) (mC (.int 1)))) (mOp (oTimes false) (mOp oIx (mOp oIx (mVar 7) (mC (.int 0))) (mC (.int 1))) (mOp oIx (mOp oIx (mVar 7) (mC (.int 1))) (mC (.int 0))))) (gNm 4))
  (mSeq (mIfS (mTru (mCall W_l_is_small ex (mCons (mVar 1) mNil))) (mSeq (mAsg (mCall W_l_shift ex (mCons (mVar 0) mNil)) (gNm 10))
  (mSeq (mAsg (mCall W_l_times ex (mCons (mVar 7) (mCons (mVar 10) mNil))) (gNm 11))
  (mSeq (mIfS (mNotT (mTru (mCall W_l_same ex (mCons (mLst false (mCons (mCall W_discriminant ex (mCons (mVar 1) mNil)) (mCons (mCall W_changed ex (mCons (mVar 1) (mCons (mVar 10) mNil))) mNil))) (mCons (mLst false (mCons (mOp (oTimes false) (mOp (oTimes false) (mCall W_l_disc ex (mCons (mVar 6) mNil)) (mVar 4)) (mVar 4)) (mCons (mCall W_l_changed ex (mCons (mVar 1) (mCons (mVar 10) mNil))) mNil))) mNil))))) (mRet (mC (.bl false))) mNext)
  (mIfS (mAndT (mVal (mOp oLt (mFn fMaxL (mCons (mComp false (iSeqT (mOp (oPlus false) (mOp oIx (mVar 11) (mC (.int 0))) (mOp oIx (mVar 11) (mC (.int 1))))) (gNm 12) mYes (mFn fAbs (mCons (mVar 12) mNil)) [12]) mNil)) (mC (.int 1001)))) (mNotT (mTru (mCall W_l_same ex (mCons (mCall W_changed ex (mCons (mVar 6) (mCons (mVar 11) mNil))) (mCons (mCall W_l_changed ex (mCons (mVar 1) (mCons (mVar 10) mNil))) mNil)))))) (mRet (mC (.bl false))) mNext)))) mNext)
  (mSeq (mAsg (mLst false (mCons (mC .non) (mCons (mC (.int 0)) (mCons (mTup (mCons (mTup (mCons (mC (.int 1)) (mCons (mC (.int 0)) mNil))) mNil)) (mCons (mTup (mCons (mTup (mCons (mC (.int 1)) (mCons (mC (.int 0)) mNil))) (mCons (mTup (mCons (mC (.int 0)) (mCons (mC (.int 1)) mNil))) (mCons (mTup (mCons (mC (.int 0)) (mCons (mC (.int 0)) mNil))) mNil)))) (mCons (mLst false (mCons (mTup (mCons (mC (.int 1)) (mCons (mC (.int 0)) mNil))) (mCons (mTup (mCons (mC (.int 0)) (mCons (mC (.int 1)) mNil))) mNil))) (mCons (mTup (mCons (mLst false (mCons (mC (.int 1)) (mCons (mC (.int 0)) mNil))) (mCons (mTup (mCons (mC (.int 0)) (mCons (mC (.int 1)) mNil))) mNil))) (mCons (mTup (mCons (mTup (mCons (mC (.int 1)) (mCons (mC (.int 0)) mNil))) (mCons (mTup (mCons (mC (.int 0)) mNil)) mNil))) (mCons (mTup (mCons (mTup (mCons (mC (.int 1001)) (mCons (mC (.int 0)) mNil))) (mCons (mTup (mCons (mC (.int 0)) (mCons (mC (.int 1)) mNil))) mNil))) (mCons (mTup (mCons (mTup (mCons (mC (.bl true)) (mCons (mC (.int 0)) mNil))) (mCons (mTup (mCons (mC (.int 0)) (mCons (mC (.int 1)) mNil))) mNil))) (mCons (mTup (mCons (mTup (mCons (mC (.int 1)) (mCons (mC (.int 0)) mNil))) (mCons (mTup (mCons (mC (.int 0)) (mCons (mC .non) mNil))) mNil))) (mCons (mC (.str "1001")) (mCons mDct0 mNil))))))))))))) (gNm 5))
  (mSeq (mFor (iRg1 (mCons (mC (.int 3)) mNil)) (gNm 3) (mSeq (mAsg (mTup (mCons (mCall W_l_odd_form ex (mCons (mVar 0) mNil)) (mCons (mOp oIx (mVar 5) (mCall W_l_take ex (mCons (mVar 0) (mCons (mC (.int 12)) mNil)))) mNil))) (gSq 2 (gCn (gNm 14) (gCn (gNm 15) gNl))))
  (mSeq (mFor (iRg1 (mCons (mC (.int 6)) mNil)) (gNm 2) (mIfS (mNotT (mTru (mCall W_l_same ex (mCons (mCall W_l_said ex (mCons (mVar 2) (mCons (mVar 14) (mCons (mVar 15) mNil)))) (mCons (mLst false (mCons (mC (.str "form")) (mCons (mVar 14) mNil))) mNil))))) (mRet (mC (.bl false))) mNext))
  (mIfS (mNotT (mTru (mCall W_l_same ex (mCons (mComp false (iSeqL (mLst false (mCons (mC (.int 2)) (mCons (mC (.int 3)) mNil)))) (gNm 2) mYes (mCall W_l_said (fun _ => noX) (mCons (mVar 2) (mCons (mVar 6) (mCons (mVar 15) mNil)))) [2]) (mCons (mOp (oTimes false) (mLst false (mCons (mLst false (mCons (mC (.str "matrix")) (mCons (mVar 15) mNil))) mNil)) (mC (.int 2))) mNil))))) (mRet (mC (.bl false))) mNext))))
  (mRet (mC (.bl true)))))))))))
def m_law (ex : Gm → MX) : MS :=
  (mSeq (mFor (iRg1 (mCons (mFn fMax2 (mCons (mC (.int 3)) (mCons (mFn fMin2 (mCons (mC (.int 6)) (mCons (mFn fLen (mCons (mVar 0) mNil)) mNil))) mNil))) mNil)) (gNm 1) (mIfS (mNotT (mTru (mCall W_l_right ex (mCons (mCall W_l_box ex (mCons (mCall W_l_cell ex (mCons (mVar 0) (mCons (mVar 1) mNil))) mNil)) mNil)))) (mRet (mC (.bl false))) mNext))
  (mRet (mC (.bl true))))
/-! ### for the walks of the trees -/
theorem Ln_mul {m n : Nat} {a b : Int} (h : Ln m a) (k : Ln n b) : Ln (m + n) (a * b) := by
  unfold Ln at *; rw [Int.natAbs_mul, Nat.pow_add]; exact Nat.mul_lt_mul'' h k
theorem Ln_add {m n : Nat} {a b : Int} (h : Ln m a) (k : Ln n b) : Ln (m + n + 1) (a + b) := by
  unfold Ln at *
  have h1 : 2 ^ m ≤ 2 ^ (m + n) := Nat.pow_le_pow_right (by decide) (by omega)
  have h2 : 2 ^ n ≤ 2 ^ (m + n) := Nat.pow_le_pow_right (by decide) (by omega)
  have := Int.natAbs_add_le a b
  rw [Nat.pow_succ]; omega
theorem Ln_neg {n : Nat} {a : Int} (h : Ln n a) : Ln n (-a) := by unfold Ln at *; rw [Int.natAbs_neg]; exact h
theorem Ln_sub {m n : Nat} {a b : Int} (h : Ln m a) (k : Ln n b) : Ln (m + n + 1) (a - b) := by
  have := Ln_add h (Ln_neg k); rwa [← Int.sub_eq_add_neg] at this
theorem Ln_mono {m n : Nat} {a : Int} (h : Ln m a) (l : m ≤ n) : Ln n a := Nat.lt_of_lt_of_le h (Nat.pow_le_pow_right (by decide) l)
theorem Sz_of {n : Nat} {a : Int} (h : Ln n a) (l : n ≤ 400000) : Sz a := Nat.lt_of_lt_of_le h (Nat.pow_le_pow_right (by decide) l)
theorem Ln_le {m a : Int} {n : Nat} (h : Le1 m a) (l : m.natAbs < 2 ^ n) : Ln n a := by unfold Ln; unfold Le1 at h; omega
theorem Ln_lit {a : Int} (h : a.natAbs < 2 ^ 40) : Ln 40 a := h
theorem compL_no {g : MG} {t : MT} {e : ME} {Q : List R → Cs → Prop} {Γ : Gm} {C : Cs} : ∀ {xs acc : List R}, (∀ x, x ∈ xs → ∀ P : Gm → Bool → Cs → Prop, (∀ Γ1, P Γ1 false C) → g x Γ C fun Γ1 C1 => t Γ1 C1 (P Γ1)) → acc.length < 16777216 → Q acc C → compL g t e Q Γ xs acc C
  | [], _, _, _, q => q
  | x :: xs, acc, h, l, q => ⟨l, h x (List.mem_cons_self ..) (fun Γ1 k C2 => if k = true then e Γ1 C2 fun y C3 => compL g t e Q Γ xs (acc ++ [y]) C3 else compL g t e Q Γ xs acc C2) (fun _ => by
      simp only [Bool.false_eq_true, if_false]
      exact compL_no (fun y hy => h y (List.mem_cons_of_mem _ hy)) l q)⟩
theorem compL_map {f : R → R} {g : MG} {e : ME} {Q : List R → Cs → Prop} {Γ : Gm} {C : Cs} : ∀ {xs acc : List R}, (∀ x, x ∈ xs → ∀ P : R → Cs → Prop, P (f x) C → g x Γ C fun Γ1 C1 => e Γ1 C1 P) → acc.length + xs.length ≤ 16777216 → Q (acc ++ xs.map f) C → compL g mYes e Q Γ xs acc C
  | [], _, _, _, q => by
    simp only [List.map_nil, List.append_nil] at q
    exact q
  | x :: xs, acc, h, l, q => by
    simp only [List.length_cons] at l
    refine ⟨by omega, ?_⟩
    simp only [mYes, if_true]
    refine h x (List.mem_cons_self ..) _ (compL_map (fun y hy => h y (List.mem_cons_of_mem _ hy)) (by simp; omega) ?_)
    simpa using q
theorem bls_map {α : Type} (f : α → Bool) : ∀ l : List α, blsOf (l.map fun x => .bl (f x)) = some (l.map f)
  | [] => rfl
  | x :: t => by simp only [List.map_cons, blsOf, bls_map f t, Option.map_some]
theorem ints_map : ∀ l : List Int, intsOf (l.map .int) = some l
  | [] => rfl
  | x :: t => by simp only [List.map_cons, intsOf, ints_map t, Option.map_some]
theorem upto_mem {x : R} : ∀ {n : Nat} {lo : Int}, x ∈ upto lo n → ∃ i, x = .int i ∧ lo ≤ i ∧ i < lo + n
  | 0, _, h => by cases h
  | n + 1, lo, h => by
    cases h with
    | head => exact ⟨lo, rfl, by omega, by omega⟩
    | tail _ h => obtain ⟨i, e, a, b⟩ := upto_mem h; exact ⟨i, e, by omega, by omega⟩
theorem at_of {α : Type} {xs : List α} {i : Int} (a : 0 ≤ i) (b : i < xs.length) : ∃ r, atM xs i = some r ∧ r ∈ xs := by
  have h : i.toNat < xs.length := by omega
  refine ⟨xs[i.toNat], ?_, List.getElem_mem h⟩
  unfold atM ixM
  simp only [a, b, if_true, Option.bind_some, List.getElem?_eq_getElem h]
theorem ix_all {xs : List R} {i : Int} {C : Cs} {Q : Qe} (a : 0 ≤ i) (b : i < xs.length) (h : ∀ x, x ∈ xs → Q x C) : oIx (.lst xs) (.int i) C Q := by
  obtain ⟨r, e, m⟩ := at_of a b
  simp only [oIx, seqOf, lstOf, e]
  exact h r m
theorem btw_of {lo hi : Int} {x : R} (h : btw lo hi x = true) : ∃ a, x = .int a ∧ lo ≤ a ∧ a ≤ hi := by
  cases x with
  | int a => simp only [btw, Bool.and_eq_true, decide_eq_true_eq] at h; exact ⟨a, rfl, h⟩
  | _ => cases h
theorem rowB3 {lo hi : Int} {r : R} (h : rowB 3 lo hi r = true) : ∃ a b c, r = fm a b c ∧ (lo ≤ a ∧ a ≤ hi) ∧ (lo ≤ b ∧ b ≤ hi) ∧ lo ≤ c ∧ c ≤ hi := by
  unfold rowB at h
  split at h
  · rename_i xs
    simp only [Bool.and_eq_true, beq_iff_eq] at h
    match xs, h.1 with
    | [x, y, z], _ =>
      simp only [List.all_cons, List.all_nil, Bool.and_eq_true] at h
      obtain ⟨-, hx, hy, hz, -⟩ := h
      obtain ⟨a, rfl, ha⟩ := btw_of hx
      obtain ⟨b, rfl, hb⟩ := btw_of hy
      obtain ⟨c, rfl, hc⟩ := btw_of hz
      exact ⟨a, b, c, rfl, ha, hb, hc⟩
  · cases h
theorem rowB2 {lo hi : Int} {r : R} (h : rowB 2 lo hi r = true) : ∃ a b, r = .tup [.int a, .int b] ∧ (lo ≤ a ∧ a ≤ hi) ∧ (lo ≤ b ∧ b ≤ hi) := by
  unfold rowB at h
  split at h
  · rename_i xs
    simp only [Bool.and_eq_true, beq_iff_eq] at h
    match xs, h.1 with
    | [x, y], _ =>
      simp only [List.all_cons, List.all_nil, Bool.and_eq_true] at h
      obtain ⟨-, hx, hy, -⟩ := h
      obtain ⟨a, rfl, ha⟩ := btw_of hx
      obtain ⟨b, rfl, hb⟩ := btw_of hy
      exact ⟨a, b, rfl, ha, hb⟩
  · cases h
theorem matB2 {m : R} (h : matB m = true) : ∃ p q r s, m = mt p q r s ∧ Le1 1000 p ∧ Le1 1000 q ∧ Le1 1000 r ∧ Le1 1000 s := by
  unfold matB at h
  split at h
  · rename_i xs
    simp only [Bool.and_eq_true, beq_iff_eq] at h
    match xs, h.1 with
    | [x, y], _ =>
      simp only [List.all_cons, List.all_nil, Bool.and_eq_true] at h
      obtain ⟨-, hx, hy, -⟩ := h
      obtain ⟨p, q, rfl, hp, hq⟩ := rowB2 hx
      obtain ⟨r, s, rfl, hr, hs⟩ := rowB2 hy
      exact ⟨p, q, r, s, rfl, hp, hq, hr, hs⟩
  · cases h
theorem atM_0 {α : Type} (x : α) (t : List α) : atM (x :: t) 0 = some x := by
  unfold atM ixM
  simp only [List.length_cons, Int.le_refl, if_true]
  rw [if_pos (by omega)]
  rfl
theorem atM_1 {α : Type} (x y : α) (t : List α) : atM (x :: y :: t) 1 = some y := by
  unfold atM ixM
  simp only [List.length_cons]
  rw [if_pos (by decide), if_pos (by omega)]
  rfl
theorem atM_2 {α : Type} (x y z : α) (t : List α) : atM (x :: y :: z :: t) 2 = some z := by
  unfold atM ixM
  simp only [List.length_cons]
  rw [if_pos (by decide), if_pos (by omega)]
  rfl
theorem atM_3 {α : Type} (x y z u : α) (t : List α) : atM (x :: y :: z :: u :: t) 3 = some u := by
  unfold atM ixM
  simp only [List.length_cons]
  rw [if_pos (by decide), if_pos (by omega)]
  rfl
theorem set_set {C : Cs} {k : Nat} {a b : Ct} : (C.set k a).set k b = C.set k b := by simp only [List.set_set]
theorem get_set {C : Cs} {k : Nat} {a b : Ct} (h : C[k]? = some a) : (C.set k b)[k]? = some b := by
  rw [List.getElem?_set_self (List.getElem?_eq_some_iff.mp h).1]
theorem ar_is_integer : ∀ rs C Q E, W_is_integer rs C Q E → rs.length = 1 := by
  intro rs C Q E h; unfold W_is_integer at h; split at h <;> first | rfl | exact h.elim
theorem isi_of {C : Cs} {c : String} {r : R} {Q : Qe} (h : tyd C r = true) (q : ∀ t b, tyOf C r = some t → isiM t c = some b → Q (.bl b) C) : fIsi c [r] C Q := by
  unfold tyd at h
  obtain ⟨t, e⟩ := Option.isSome_iff_exists.mp h
  have : ∃ b, isiM t c = some b := by unfold isiM; split; exact ⟨_, rfl⟩; split <;> exact ⟨_, rfl⟩
  obtain ⟨b, e2⟩ := this
  simp only [fIsi, e, e2]
  exact q t b e e2
theorem kp_is_integer : Keeps 1 m_is_integer 1 W_is_integer := by
  intro rs C Q E hl h
  unfold W_is_integer at h
  split at h
  · rename_i r
    obtain ⟨h1, q⟩ := h
    unfold tyd tyOf at h1
    cases r <;> first
      | (cases h1; done)
      | (simp_all [m_is_integer, mRet, mAndE, mFn, mCons, mVar, mNil, fIsi, start, tyOf, isiM, mNotE, endD, isInt]; done)
      | (simp only [] at h1
         split at h1 <;> simp_all [m_is_integer, mRet, mAndE, mFn, mCons, mVar, mNil, fIsi, start, tyOf, isiM, mNotE, endD, isInt])
  · exact h.elim
theorem kp_is_between : Keeps 3 m_is_between 3 W_is_between := by
  intro rs C Q E hl h
  unfold W_is_between at h
  split at h
  · rename_i r lo hi
    obtain ⟨h1, q⟩ := h
    simp only [m_is_between, mRet, mAndE, mCall, mCons, mVar, mNil, start, W_is_integer, List.map, List.length, List.replicate, List.append_nil, Nat.sub_self, List.getElem?_cons_zero, List.getElem?_cons_succ, mChain]
    refine ⟨h1, ?_⟩
    cases r with
    | int i =>
      simp only [isInt, if_true, oCmp, btw] at q ⊢
      by_cases c : lo ≤ i
      · simp only [c, decide_true, if_true, Bool.true_and] at q ⊢
        exact .inl q
      · simp only [c, decide_false, Bool.false_eq_true, if_false, Bool.false_and] at q ⊢
        exact .inl q
    | _ => exact .inl q
  · exact h.elim
theorem kp_is_tuple_of : Keeps 2 m_is_tuple_of 2 W_is_tuple_of := by
  intro rs C Q E hl h
  unfold W_is_tuple_of at h
  split at h
  · rename_i r n
    obtain ⟨h1, q⟩ := h
    unfold tyd tyOf at h1
    cases r <;> first
      | (cases h1; done)
      | (simp_all [m_is_tuple_of, mRet, mAndE, mFn, mCons, mVar, mNil, fIsi, start, tyOf, isiM, mOp, endD, tupB, fLen, seqOf, oEq, resN, eqR]; done)
      | (simp only [] at h1
         split at h1 <;> simp_all [m_is_tuple_of, mRet, mAndE, mFn, mCons, mVar, mNil, fIsi, start, tyOf, isiM, mOp, endD, tupB, fLen, seqOf, oEq, resN, eqR])
  · exact h.elim
theorem kp_is_row : Keeps 5 m_is_row 4 W_is_row := by
  intro rs C Q E hl h
  unfold W_is_row at h
  split at h
  · rename_i r n lo hi
    obtain ⟨h0, h1, q⟩ := h
    unfold ty2 at h1
    simp only [Bool.and_eq_true] at h1
    simp only [m_is_row, mRet, mAndE, mCall, mCons, mVar, mNil, start, W_is_tuple_of, List.map, List.length, List.replicate, List.cons_append, List.nil_append, List.append_nil, Nat.sub_self, List.getElem?_cons_zero, List.getElem?_cons_succ, mFn]
    refine ⟨h1.1, ?_⟩
    cases r with
    | tup xs =>
      simp only [tupB, rowB] at q ⊢
      by_cases c : (xs.length : Int) = n
      · simp only [c, BEq.rfl, if_true, Bool.true_and] at q ⊢
        simp only [mComp, iSeqT, mVar, List.getElem?_cons_zero, List.getElem?_cons_succ]
        refine compL_map (f := fun x => .bl (btw lo hi x)) (fun x hx P p => ?_) (by simp; omega) ?_
        · simp only [wipeM, gNm, List.set_cons_zero, List.set_cons_succ, mCall, mCons, mVar, mNil, List.getElem?_cons_zero, List.getElem?_cons_succ, W_is_between]
          exact ⟨List.all_eq_true.mp h1.2 x hx, p⟩
        · simp only [List.nil_append, newL, fAll, lstOf, Option.bind_some, bls_map]
          refine .inl ?_
          simpa [List.all_map] using q
      · have : ((xs.length : Int) == n) = false := by simpa using c
        simp only [this, Bool.false_and, Bool.false_eq_true, if_false] at q ⊢
        exact .inl q
    | _ => exact .inl q
  · exact h.elim
theorem kp_is_form : Keeps 1 m_is_form 1 W_is_form := by
  intro rs C Q E hl h
  unfold W_is_form at h
  split at h
  · rename_i r
    simp (config := { maxSteps := 5000000 }) only [mRet, mSeq, mAsg, mCall, mCons, mNil, mVar, mC, mOp, mUn, mFn, mTup, mVal, mIfE, mIfS, mNotT, mTru, mAndT, mOrT, mAndE, mOrE, mNotE, mLst, newL, gNm, gSq, gCn, gNl, mNext, mPar, mRaise, mBreak, mCont, start, List.map_cons, List.map_nil, List.length_cons, List.length_nil, Nat.reduceAdd, Nat.reduceSub, List.reduceReplicate, List.cons_append, List.nil_append, List.append_nil, Nat.sub_self, List.getElem?_cons_zero, List.getElem?_cons_succ, List.set_cons_zero, List.set_cons_succ, oTimes, oPlus, oSub, oCmp, oNeg, m_is_form, W_is_row]
    exact ⟨by decide, h.1, .inl h.2⟩
  · exact h.elim
theorem kp_discriminant_of : Keeps 4 m_discriminant_of 1 W_discriminant_of := by
  intro rs C Q E hl h
  unfold W_discriminant_of at h
  split at h
  · rename_i a b c
    obtain ⟨⟨ha, hb, hc⟩, q⟩ := h
    simp (config := { maxSteps := 5000000 }) only [mRet, mSeq, mAsg, mCall, mCons, mNil, mVar, mC, mOp, mUn, mFn, mTup, mVal, mIfE, mIfS, mNotT, mTru, mAndT, mOrT, mAndE, mOrE, mNotE, mLst, newL, gNm, gSq, gCn, gNl, mNext, mPar, mRaise, mBreak, mCont, start, List.map_cons, List.map_nil, List.length_cons, List.length_nil, Nat.reduceAdd, Nat.reduceSub, List.reduceReplicate, List.cons_append, List.nil_append, List.append_nil, Nat.sub_self, List.getElem?_cons_zero, List.getElem?_cons_succ, List.set_cons_zero, List.set_cons_succ, oTimes, oPlus, oSub, oCmp, oNeg, m_discriminant_of]
    exact ⟨trivial, ⟨by (apply Sz_of; (focus (repeat (first | assumption | with_reducible apply Ln_mul | with_reducible apply Ln_add | with_reducible apply Ln_sub | with_reducible apply Ln_neg | (exact Ln_lit (by decide))))); decide), by (apply Sz_of; (focus (repeat (first | assumption | with_reducible apply Ln_mul | with_reducible apply Ln_add | with_reducible apply Ln_sub | with_reducible apply Ln_neg | (exact Ln_lit (by decide))))); decide)⟩, ⟨by (apply Sz_of; (focus (repeat (first | assumption | with_reducible apply Ln_mul | with_reducible apply Ln_add | with_reducible apply Ln_sub | with_reducible apply Ln_neg | (exact Ln_lit (by decide))))); decide), by (apply Sz_of; (focus (repeat (first | assumption | with_reducible apply Ln_mul | with_reducible apply Ln_add | with_reducible apply Ln_sub | with_reducible apply Ln_neg | (exact Ln_lit (by decide))))); decide)⟩, ⟨by (apply Sz_of; (focus (repeat (first | assumption | with_reducible apply Ln_mul | with_reducible apply Ln_add | with_reducible apply Ln_sub | with_reducible apply Ln_neg | (exact Ln_lit (by decide))))); decide), by (apply Sz_of; (focus (repeat (first | assumption | with_reducible apply Ln_mul | with_reducible apply Ln_add | with_reducible apply Ln_sub | with_reducible apply Ln_neg | (exact Ln_lit (by decide))))); decide)⟩, .inl q⟩
  · exact h.elim
theorem rb_ln {r : R} {a b c : Int} {m : Nat} (h : rowB 3 (-1000) 1000 r = true) (e : r = fm a b c) (hm : 10 ≤ m) : Ln m a ∧ Ln m b ∧ Ln m c := by
  obtain ⟨a', b', c', e', h1, h2, h3⟩ := rowB3 h
  rw [e] at e'
  cases e'
  exact ⟨Ln_mono (Ln_le (m := 1000) (n := 10) h1 (by decide)) hm, Ln_mono (Ln_le (m := 1000) (n := 10) h2 (by decide)) hm, Ln_mono (Ln_le (m := 1000) (n := 10) h3 (by decide)) hm⟩
theorem kp_discriminant : Keeps 1 m_discriminant 1 W_discriminant := by
  intro rs C Q E hl h
  unfold W_discriminant at h
  split at h
  · rename_i r
    obtain ⟨h1, q, q'⟩ := h
    simp (config := { maxSteps := 5000000 }) only [mRet, mSeq, mAsg, mCall, mCons, mNil, mVar, mC, mOp, mUn, mFn, mTup, mVal, mIfE, mIfS, mNotT, mTru, mAndT, mOrT, mAndE, mOrE, mNotE, mLst, newL, gNm, gSq, gCn, gNl, mNext, mPar, mRaise, mBreak, mCont, start, List.map_cons, List.map_nil, List.length_cons, List.length_nil, Nat.reduceAdd, Nat.reduceSub, List.reduceReplicate, List.cons_append, List.nil_append, List.append_nil, Nat.sub_self, List.getElem?_cons_zero, List.getElem?_cons_succ, List.set_cons_zero, List.set_cons_succ, oTimes, oPlus, oSub, oCmp, oNeg, m_discriminant, W_is_form]
    refine ⟨h1, ?_⟩
    cases e : rowB 3 (-1000) 1000 r with
    | true =>
      obtain ⟨a, b, c, rfl, -⟩ := rowB3 e
      simp only [Bool.not_true, Bool.false_eq_true, if_false, W_discriminant_of]
      exact ⟨rb_ln e rfl (by decide), .inl (q e a b c rfl)⟩
    | false =>
      simp only [Bool.not_false, if_true]
      exact .inl (q' e)
  · exact h.elim
theorem kp_value_at : Keeps 6 m_value_at 3 W_value_at := by
  intro rs C Q E hl h
  unfold W_value_at at h
  split at h
  · rename_i a b c x y
    obtain ⟨⟨⟨ha, hb, hc⟩, hx, hy⟩, q⟩ := h
    simp (config := { maxSteps := 5000000 }) only [mRet, mSeq, mAsg, mCall, mCons, mNil, mVar, mC, mOp, mUn, mFn, mTup, mVal, mIfE, mIfS, mNotT, mTru, mAndT, mOrT, mAndE, mOrE, mNotE, mLst, newL, gNm, gSq, gCn, gNl, mNext, mPar, mRaise, mBreak, mCont, start, List.map_cons, List.map_nil, List.length_cons, List.length_nil, Nat.reduceAdd, Nat.reduceSub, List.reduceReplicate, List.cons_append, List.nil_append, List.append_nil, Nat.sub_self, List.getElem?_cons_zero, List.getElem?_cons_succ, List.set_cons_zero, List.set_cons_succ, oTimes, oPlus, oSub, oCmp, oNeg, m_value_at]
    exact ⟨trivial, ⟨by (apply Sz_of; (focus (repeat (first | assumption | with_reducible apply Ln_mul | with_reducible apply Ln_add | with_reducible apply Ln_sub | with_reducible apply Ln_neg | (exact Ln_lit (by decide))))); decide), by (apply Sz_of; (focus (repeat (first | assumption | with_reducible apply Ln_mul | with_reducible apply Ln_add | with_reducible apply Ln_sub | with_reducible apply Ln_neg | (exact Ln_lit (by decide))))); decide)⟩, ⟨by (apply Sz_of; (focus (repeat (first | assumption | with_reducible apply Ln_mul | with_reducible apply Ln_add | with_reducible apply Ln_sub | with_reducible apply Ln_neg | (exact Ln_lit (by decide))))); decide), by (apply Sz_of; (focus (repeat (first | assumption | with_reducible apply Ln_mul | with_reducible apply Ln_add | with_reducible apply Ln_sub | with_reducible apply Ln_neg | (exact Ln_lit (by decide))))); decide)⟩, ⟨by (apply Sz_of; (focus (repeat (first | assumption | with_reducible apply Ln_mul | with_reducible apply Ln_add | with_reducible apply Ln_sub | with_reducible apply Ln_neg | (exact Ln_lit (by decide))))); decide), by (apply Sz_of; (focus (repeat (first | assumption | with_reducible apply Ln_mul | with_reducible apply Ln_add | with_reducible apply Ln_sub | with_reducible apply Ln_neg | (exact Ln_lit (by decide))))); decide)⟩, ⟨by (apply Sz_of; (focus (repeat (first | assumption | with_reducible apply Ln_mul | with_reducible apply Ln_add | with_reducible apply Ln_sub | with_reducible apply Ln_neg | (exact Ln_lit (by decide))))); decide), by (apply Sz_of; (focus (repeat (first | assumption | with_reducible apply Ln_mul | with_reducible apply Ln_add | with_reducible apply Ln_sub | with_reducible apply Ln_neg | (exact Ln_lit (by decide))))); decide)⟩, ⟨by (apply Sz_of; (focus (repeat (first | assumption | with_reducible apply Ln_mul | with_reducible apply Ln_add | with_reducible apply Ln_sub | with_reducible apply Ln_neg | (exact Ln_lit (by decide))))); decide), by (apply Sz_of; (focus (repeat (first | assumption | with_reducible apply Ln_mul | with_reducible apply Ln_add | with_reducible apply Ln_sub | with_reducible apply Ln_neg | (exact Ln_lit (by decide))))); decide)⟩, ⟨by (apply Sz_of; (focus (repeat (first | assumption | with_reducible apply Ln_mul | with_reducible apply Ln_add | with_reducible apply Ln_sub | with_reducible apply Ln_neg | (exact Ln_lit (by decide))))); decide), by (apply Sz_of; (focus (repeat (first | assumption | with_reducible apply Ln_mul | with_reducible apply Ln_add | with_reducible apply Ln_sub | with_reducible apply Ln_neg | (exact Ln_lit (by decide))))); decide)⟩, .inl q⟩
  · exact h.elim
theorem kp_value : Keeps 3 m_value 3 W_value := by
  intro rs C Q E hl h
  unfold W_value at h
  split at h
  · rename_i r x y
    obtain ⟨hxy, h1, q, q'⟩ := h
    simp (config := { maxSteps := 5000000 }) only [mRet, mSeq, mAsg, mCall, mCons, mNil, mVar, mC, mOp, mUn, mFn, mTup, mVal, mIfE, mIfS, mNotT, mTru, mAndT, mOrT, mAndE, mOrE, mNotE, mLst, newL, gNm, gSq, gCn, gNl, mNext, mPar, mRaise, mBreak, mCont, start, List.map_cons, List.map_nil, List.length_cons, List.length_nil, Nat.reduceAdd, Nat.reduceSub, List.reduceReplicate, List.cons_append, List.nil_append, List.append_nil, Nat.sub_self, List.getElem?_cons_zero, List.getElem?_cons_succ, List.set_cons_zero, List.set_cons_succ, oTimes, oPlus, oSub, oCmp, oNeg, m_value, W_is_form]
    refine ⟨h1, ?_⟩
    cases e : rowB 3 (-1000) 1000 r with
    | true =>
      obtain ⟨a, b, c, rfl, -⟩ := rowB3 e
      simp only [Bool.not_true, Bool.false_eq_true, if_false, W_value_at]
      exact ⟨⟨rb_ln e rfl (by decide), hxy⟩, .inl (q e a b c rfl)⟩
    | false =>
      simp only [Bool.not_false, if_true]
      exact .inl (q' e)
  · exact h.elim
theorem mid_eq (a b c p q r s : Int) : 2 * a * p * q + b * (p * s + q * r) + 2 * c * r * s = vl a b c (p + q) (r + s) - vl a b c p r - vl a b c q s := by
  unfold vl; grind
theorem kp_moved : Keeps 10 m_moved 2 W_moved := by
  intro rs C Q E hl h
  unfold W_moved at h
  split at h
  · rename_i a b c p q r s
    obtain ⟨⟨⟨ha, hb, hc⟩, hp, hq, hr, hs⟩, q⟩ := h
    simp (config := { maxSteps := 5000000 }) only [mRet, mSeq, mAsg, mCall, mCons, mNil, mVar, mC, mOp, mUn, mFn, mTup, mVal, mIfE, mIfS, mNotT, mTru, mAndT, mOrT, mAndE, mOrE, mNotE, mLst, newL, gNm, gSq, gCn, gNl, mNext, mPar, mRaise, mBreak, mCont, start, List.map_cons, List.map_nil, List.length_cons, List.length_nil, Nat.reduceAdd, Nat.reduceSub, List.reduceReplicate, List.cons_append, List.nil_append, List.append_nil, Nat.sub_self, List.getElem?_cons_zero, List.getElem?_cons_succ, List.set_cons_zero, List.set_cons_succ, oTimes, oPlus, oSub, oCmp, oNeg, m_moved, W_value_at]
    refine ⟨trivial, trivial, trivial, trivial, ⟨by (apply Sz_of; (focus (repeat (first | assumption | with_reducible apply Ln_mul | with_reducible apply Ln_add | with_reducible apply Ln_sub | with_reducible apply Ln_neg | (exact Ln_lit (by decide))))); decide), by (apply Sz_of; (focus (repeat (first | assumption | with_reducible apply Ln_mul | with_reducible apply Ln_add | with_reducible apply Ln_sub | with_reducible apply Ln_neg | (exact Ln_lit (by decide))))); decide)⟩, ⟨by (apply Sz_of; (focus (repeat (first | assumption | with_reducible apply Ln_mul | with_reducible apply Ln_add | with_reducible apply Ln_sub | with_reducible apply Ln_neg | (exact Ln_lit (by decide))))); decide), by (apply Sz_of; (focus (repeat (first | assumption | with_reducible apply Ln_mul | with_reducible apply Ln_add | with_reducible apply Ln_sub | with_reducible apply Ln_neg | (exact Ln_lit (by decide))))); decide)⟩, ⟨by (apply Sz_of; (focus (repeat (first | assumption | with_reducible apply Ln_mul | with_reducible apply Ln_add | with_reducible apply Ln_sub | with_reducible apply Ln_neg | (exact Ln_lit (by decide))))); decide), by (apply Sz_of; (focus (repeat (first | assumption | with_reducible apply Ln_mul | with_reducible apply Ln_add | with_reducible apply Ln_sub | with_reducible apply Ln_neg | (exact Ln_lit (by decide))))); decide)⟩, ⟨by (apply Sz_of; (focus (repeat (first | assumption | with_reducible apply Ln_mul | with_reducible apply Ln_add | with_reducible apply Ln_sub | with_reducible apply Ln_neg | (exact Ln_lit (by decide))))); decide), by (apply Sz_of; (focus (repeat (first | assumption | with_reducible apply Ln_mul | with_reducible apply Ln_add | with_reducible apply Ln_sub | with_reducible apply Ln_neg | (exact Ln_lit (by decide))))); decide)⟩, ⟨by (apply Sz_of; (focus (repeat (first | assumption | with_reducible apply Ln_mul | with_reducible apply Ln_add | with_reducible apply Ln_sub | with_reducible apply Ln_neg | (exact Ln_lit (by decide))))); decide), by (apply Sz_of; (focus (repeat (first | assumption | with_reducible apply Ln_mul | with_reducible apply Ln_add | with_reducible apply Ln_sub | with_reducible apply Ln_neg | (exact Ln_lit (by decide))))); decide)⟩, ⟨by (apply Sz_of; (focus (repeat (first | assumption | with_reducible apply Ln_mul | with_reducible apply Ln_add | with_reducible apply Ln_sub | with_reducible apply Ln_neg | (exact Ln_lit (by decide))))); decide), by (apply Sz_of; (focus (repeat (first | assumption | with_reducible apply Ln_mul | with_reducible apply Ln_add | with_reducible apply Ln_sub | with_reducible apply Ln_neg | (exact Ln_lit (by decide))))); decide)⟩, ⟨by (apply Sz_of; (focus (repeat (first | assumption | with_reducible apply Ln_mul | with_reducible apply Ln_add | with_reducible apply Ln_sub | with_reducible apply Ln_neg | (exact Ln_lit (by decide))))); decide), by (apply Sz_of; (focus (repeat (first | assumption | with_reducible apply Ln_mul | with_reducible apply Ln_add | with_reducible apply Ln_sub | with_reducible apply Ln_neg | (exact Ln_lit (by decide))))); decide)⟩, ⟨by (apply Sz_of; (focus (repeat (first | assumption | with_reducible apply Ln_mul | with_reducible apply Ln_add | with_reducible apply Ln_sub | with_reducible apply Ln_neg | (exact Ln_lit (by decide))))); decide), by (apply Sz_of; (focus (repeat (first | assumption | with_reducible apply Ln_mul | with_reducible apply Ln_add | with_reducible apply Ln_sub | with_reducible apply Ln_neg | (exact Ln_lit (by decide))))); decide)⟩, ⟨by (apply Sz_of; (focus (repeat (first | assumption | with_reducible apply Ln_mul | with_reducible apply Ln_add | with_reducible apply Ln_sub | with_reducible apply Ln_neg | (exact Ln_lit (by decide))))); decide), by (apply Sz_of; (focus (repeat (first | assumption | with_reducible apply Ln_mul | with_reducible apply Ln_add | with_reducible apply Ln_sub | with_reducible apply Ln_neg | (exact Ln_lit (by decide))))); decide)⟩, ?_⟩
    refine ⟨⟨⟨by (apply Ln_mono; (focus (repeat (first | assumption | with_reducible apply Ln_mul | with_reducible apply Ln_add | with_reducible apply Ln_sub | with_reducible apply Ln_neg | (exact Ln_lit (by decide))))); decide), by (apply Ln_mono; (focus (repeat (first | assumption | with_reducible apply Ln_mul | with_reducible apply Ln_add | with_reducible apply Ln_sub | with_reducible apply Ln_neg | (exact Ln_lit (by decide))))); decide), by (apply Ln_mono; (focus (repeat (first | assumption | with_reducible apply Ln_mul | with_reducible apply Ln_add | with_reducible apply Ln_sub | with_reducible apply Ln_neg | (exact Ln_lit (by decide))))); decide)⟩, by (apply Ln_mono; (focus (repeat (first | assumption | with_reducible apply Ln_mul | with_reducible apply Ln_add | with_reducible apply Ln_sub | with_reducible apply Ln_neg | (exact Ln_lit (by decide))))); decide), by (apply Ln_mono; (focus (repeat (first | assumption | with_reducible apply Ln_mul | with_reducible apply Ln_add | with_reducible apply Ln_sub | with_reducible apply Ln_neg | (exact Ln_lit (by decide))))); decide)⟩, ⟨⟨by (apply Ln_mono; (focus (repeat (first | assumption | with_reducible apply Ln_mul | with_reducible apply Ln_add | with_reducible apply Ln_sub | with_reducible apply Ln_neg | (exact Ln_lit (by decide))))); decide), by (apply Ln_mono; (focus (repeat (first | assumption | with_reducible apply Ln_mul | with_reducible apply Ln_add | with_reducible apply Ln_sub | with_reducible apply Ln_neg | (exact Ln_lit (by decide))))); decide), by (apply Ln_mono; (focus (repeat (first | assumption | with_reducible apply Ln_mul | with_reducible apply Ln_add | with_reducible apply Ln_sub | with_reducible apply Ln_neg | (exact Ln_lit (by decide))))); decide)⟩, by (apply Ln_mono; (focus (repeat (first | assumption | with_reducible apply Ln_mul | with_reducible apply Ln_add | with_reducible apply Ln_sub | with_reducible apply Ln_neg | (exact Ln_lit (by decide))))); decide), by (apply Ln_mono; (focus (repeat (first | assumption | with_reducible apply Ln_mul | with_reducible apply Ln_add | with_reducible apply Ln_sub | with_reducible apply Ln_neg | (exact Ln_lit (by decide))))); decide)⟩, by decide, .inl ?_⟩
    rw [mid_eq]
    exact q
  · exact h.elim
theorem kp_is_matrix : Keeps 2 m_is_matrix 1 W_is_matrix := by
  intro rs C Q E hl h
  unfold W_is_matrix at h
  split at h
  · rename_i r
    obtain ⟨h1, q⟩ := h
    unfold ty3 at h1
    simp only [Bool.and_eq_true] at h1
    simp (config := { maxSteps := 5000000 }) only [mRet, mSeq, mAsg, mCall, mCons, mNil, mVar, mC, mOp, mUn, mFn, mTup, mVal, mIfE, mIfS, mNotT, mTru, mAndT, mOrT, mAndE, mOrE, mNotE, mLst, newL, gNm, gSq, gCn, gNl, mNext, mPar, mRaise, mBreak, mCont, start, List.map_cons, List.map_nil, List.length_cons, List.length_nil, Nat.reduceAdd, Nat.reduceSub, List.reduceReplicate, List.cons_append, List.nil_append, List.append_nil, Nat.sub_self, List.getElem?_cons_zero, List.getElem?_cons_succ, List.set_cons_zero, List.set_cons_succ, oTimes, oPlus, oSub, oCmp, oNeg, m_is_matrix, W_is_tuple_of]
    refine ⟨h1.1, ?_⟩
    cases r with
    | tup xs =>
      simp only [tupB, matB] at q ⊢
      by_cases c : (xs.length : Int) = 2
      · simp only [c, BEq.rfl, if_true, Bool.true_and] at q ⊢
        simp (config := { maxSteps := 5000000 }) only [mRet, mSeq, mAsg, mCall, mCons, mNil, mVar, mC, mOp, mUn, mFn, mTup, mVal, mIfE, mIfS, mNotT, mTru, mAndT, mOrT, mAndE, mOrE, mNotE, mLst, newL, gNm, gSq, gCn, gNl, mNext, mPar, mRaise, mBreak, mCont, start, List.map_cons, List.map_nil, List.length_cons, List.length_nil, Nat.reduceAdd, Nat.reduceSub, List.reduceReplicate, List.cons_append, List.nil_append, List.append_nil, Nat.sub_self, List.getElem?_cons_zero, List.getElem?_cons_succ, List.set_cons_zero, List.set_cons_succ, oTimes, oPlus, oSub, oCmp, oNeg, mComp, iSeqT]
        refine compL_map (f := fun x => .bl (rowB 2 (-1000) 1000 x)) (fun x hx P p => ?_) (by simp; omega) ?_
        · simp (config := { maxSteps := 5000000 }) only [mRet, mSeq, mAsg, mCall, mCons, mNil, mVar, mC, mOp, mUn, mFn, mTup, mVal, mIfE, mIfS, mNotT, mTru, mAndT, mOrT, mAndE, mOrE, mNotE, mLst, newL, gNm, gSq, gCn, gNl, mNext, mPar, mRaise, mBreak, mCont, start, List.map_cons, List.map_nil, List.length_cons, List.length_nil, Nat.reduceAdd, Nat.reduceSub, List.reduceReplicate, List.cons_append, List.nil_append, List.append_nil, Nat.sub_self, List.getElem?_cons_zero, List.getElem?_cons_succ, List.set_cons_zero, List.set_cons_succ, oTimes, oPlus, oSub, oCmp, oNeg, wipeM, W_is_row]
          exact ⟨by decide, List.all_eq_true.mp h1.2 x hx, p⟩
        · simp only [List.nil_append, newL, fAll, lstOf, Option.bind_some, bls_map]
          refine .inl ?_
          simpa [List.all_map] using q
      · have : ((xs.length : Int) == 2) = false := by simpa using c
        simp only [this, Bool.false_and, Bool.false_eq_true, if_false] at q ⊢
        exact .inl q
    | _ => exact .inl q
  · exact h.elim
theorem kp_changed : Keeps 2 m_changed 2 W_changed := by
  intro rs C Q E hl h
  unfold W_changed at h
  split at h
  · rename_i f m
    obtain ⟨⟨h1, h2⟩, q, q', q2⟩ := h
    simp (config := { maxSteps := 5000000 }) only [mRet, mSeq, mAsg, mCall, mCons, mNil, mVar, mC, mOp, mUn, mFn, mTup, mVal, mIfE, mIfS, mNotT, mTru, mAndT, mOrT, mAndE, mOrE, mNotE, mLst, newL, gNm, gSq, gCn, gNl, mNext, mPar, mRaise, mBreak, mCont, start, List.map_cons, List.map_nil, List.length_cons, List.length_nil, Nat.reduceAdd, Nat.reduceSub, List.reduceReplicate, List.cons_append, List.nil_append, List.append_nil, Nat.sub_self, List.getElem?_cons_zero, List.getElem?_cons_succ, List.set_cons_zero, List.set_cons_succ, oTimes, oPlus, oSub, oCmp, oNeg, m_changed, W_is_form, W_is_matrix]
    refine ⟨h1, ?_⟩
    cases e : rowB 3 (-1000) 1000 f with
    | true =>
      simp only [Bool.not_true, Bool.false_eq_true, if_false]
      refine ⟨h2, ?_⟩
      cases e2 : matB m with
      | true =>
        obtain ⟨a, b, c, rfl, -⟩ := rowB3 e
        obtain ⟨p, q0, r, s, rfl, hp, hq, hr, hs⟩ := matB2 e2
        simp only [Bool.not_true, Bool.false_eq_true, if_false, W_moved]
        exact ⟨⟨rb_ln e rfl (by decide), Ln_le hp (by decide), Ln_le hq (by decide), Ln_le hr (by decide), Ln_le hs (by decide)⟩, .inl (q e e2 a b c p q0 r s rfl rfl)⟩
      | false =>
        simp only [Bool.not_false, if_true]
        exact .inl (q2 e e2)
    | false =>
      simp only [Bool.not_false, if_true]
      exact .inl (q' e)
  · exact h.elim
theorem kp_l_disc : Keeps 1 m_l_disc 1 W_l_disc := by
  intro rs C Q E hl h
  unfold W_l_disc W_discriminant_of at h
  split at h
  · rename_i a b c
    obtain ⟨⟨ha, hb, hc⟩, q⟩ := h
    ((conv => whnf); repeat (first | (refine And.intro (And.intro (by (apply Sz_of; (focus (repeat (first | assumption | with_reducible apply Ln_mul | with_reducible apply Ln_add | with_reducible apply Ln_sub | with_reducible apply Ln_neg | (exact Ln_lit (by decide))))); decide)) (by (apply Sz_of; (focus (repeat (first | assumption | with_reducible apply Ln_mul | with_reducible apply Ln_add | with_reducible apply Ln_sub | with_reducible apply Ln_neg | (exact Ln_lit (by decide))))); decide))) ?_; (conv => whnf)) | (refine And.intro (by exact Nat.le_of_ble_eq_true rfl) ?_; (conv => whnf)) | (refine And.intro rfl ?_; (conv => whnf))))
    exact .inl q
  · exact h.elim
theorem kp_l_value : Keeps 3 m_l_value 3 W_l_value := by
  intro rs C Q E hl h
  unfold W_l_value W_value_at at h
  split at h
  · rename_i a b c x y
    obtain ⟨⟨⟨ha, hb, hc⟩, hx, hy⟩, q⟩ := h
    simp (config := { maxSteps := 5000000 }) only [mRet, mSeq, mAsg, mCall, mCons, mNil, mVar, mC, mOp, mUn, mFn, mTup, mVal, mIfE, mIfS, mNotT, mTru, mAndT, mOrT, mAndE, mOrE, mNotE, mLst, newL, gNm, gSq, gCn, gNl, mNext, mPar, mRaise, mBreak, mCont, start, List.map_cons, List.map_nil, List.length_cons, List.length_nil, Nat.reduceAdd, Nat.reduceSub, List.reduceReplicate, List.cons_append, List.nil_append, List.append_nil, Nat.sub_self, List.getElem?_cons_zero, List.getElem?_cons_succ, List.set_cons_zero, List.set_cons_succ, oTimes, oPlus, oSub, oCmp, oNeg, m_l_value]
    simp only [oIx, seqOf, atM_0, atM_1, atM_2]
    exact ⟨⟨by (apply Sz_of; (focus (repeat (first | assumption | with_reducible apply Ln_mul | with_reducible apply Ln_add | with_reducible apply Ln_sub | with_reducible apply Ln_neg | (exact Ln_lit (by decide))))); decide), by (apply Sz_of; (focus (repeat (first | assumption | with_reducible apply Ln_mul | with_reducible apply Ln_add | with_reducible apply Ln_sub | with_reducible apply Ln_neg | (exact Ln_lit (by decide))))); decide)⟩, ⟨by (apply Sz_of; (focus (repeat (first | assumption | with_reducible apply Ln_mul | with_reducible apply Ln_add | with_reducible apply Ln_sub | with_reducible apply Ln_neg | (exact Ln_lit (by decide))))); decide), by (apply Sz_of; (focus (repeat (first | assumption | with_reducible apply Ln_mul | with_reducible apply Ln_add | with_reducible apply Ln_sub | with_reducible apply Ln_neg | (exact Ln_lit (by decide))))); decide)⟩, ⟨by (apply Sz_of; (focus (repeat (first | assumption | with_reducible apply Ln_mul | with_reducible apply Ln_add | with_reducible apply Ln_sub | with_reducible apply Ln_neg | (exact Ln_lit (by decide))))); decide), by (apply Sz_of; (focus (repeat (first | assumption | with_reducible apply Ln_mul | with_reducible apply Ln_add | with_reducible apply Ln_sub | with_reducible apply Ln_neg | (exact Ln_lit (by decide))))); decide)⟩, ⟨by (apply Sz_of; (focus (repeat (first | assumption | with_reducible apply Ln_mul | with_reducible apply Ln_add | with_reducible apply Ln_sub | with_reducible apply Ln_neg | (exact Ln_lit (by decide))))); decide), by (apply Sz_of; (focus (repeat (first | assumption | with_reducible apply Ln_mul | with_reducible apply Ln_add | with_reducible apply Ln_sub | with_reducible apply Ln_neg | (exact Ln_lit (by decide))))); decide)⟩, ⟨by (apply Sz_of; (focus (repeat (first | assumption | with_reducible apply Ln_mul | with_reducible apply Ln_add | with_reducible apply Ln_sub | with_reducible apply Ln_neg | (exact Ln_lit (by decide))))); decide), by (apply Sz_of; (focus (repeat (first | assumption | with_reducible apply Ln_mul | with_reducible apply Ln_add | with_reducible apply Ln_sub | with_reducible apply Ln_neg | (exact Ln_lit (by decide))))); decide)⟩, ⟨by (apply Sz_of; (focus (repeat (first | assumption | with_reducible apply Ln_mul | with_reducible apply Ln_add | with_reducible apply Ln_sub | with_reducible apply Ln_neg | (exact Ln_lit (by decide))))); decide), by (apply Sz_of; (focus (repeat (first | assumption | with_reducible apply Ln_mul | with_reducible apply Ln_add | with_reducible apply Ln_sub | with_reducible apply Ln_neg | (exact Ln_lit (by decide))))); decide)⟩, .inl q⟩
  · exact h.elim
theorem kp_l_changed : Keeps 7 m_l_changed 2 W_l_changed := by
  intro rs C Q E hl h
  unfold W_l_changed at h
  split at h
  · rename_i a b c p q r s
    obtain ⟨⟨⟨ha, hb, hc⟩, hp, hq, hr, hs⟩, q⟩ := h
    simp (config := { maxSteps := 5000000 }) only [mRet, mSeq, mAsg, mCall, mCons, mNil, mVar, mC, mOp, mUn, mFn, mTup, mVal, mIfE, mIfS, mNotT, mTru, mAndT, mOrT, mAndE, mOrE, mNotE, mLst, newL, gNm, gSq, gCn, gNl, mNext, mPar, mRaise, mBreak, mCont, start, List.map_cons, List.map_nil, List.length_cons, List.length_nil, Nat.reduceAdd, Nat.reduceSub, List.reduceReplicate, List.cons_append, List.nil_append, List.append_nil, Nat.sub_self, List.getElem?_cons_zero, List.getElem?_cons_succ, List.set_cons_zero, List.set_cons_succ, oTimes, oPlus, oSub, oCmp, oNeg, m_l_changed, W_l_value, W_value_at]
    refine ⟨trivial, trivial, trivial, ⟨⟨by (apply Ln_mono; (focus (repeat (first | assumption | with_reducible apply Ln_mul | with_reducible apply Ln_add | with_reducible apply Ln_sub | with_reducible apply Ln_neg | (exact Ln_lit (by decide))))); decide), by (apply Ln_mono; (focus (repeat (first | assumption | with_reducible apply Ln_mul | with_reducible apply Ln_add | with_reducible apply Ln_sub | with_reducible apply Ln_neg | (exact Ln_lit (by decide))))); decide), by (apply Ln_mono; (focus (repeat (first | assumption | with_reducible apply Ln_mul | with_reducible apply Ln_add | with_reducible apply Ln_sub | with_reducible apply Ln_neg | (exact Ln_lit (by decide))))); decide)⟩, by (apply Ln_mono; (focus (repeat (first | assumption | with_reducible apply Ln_mul | with_reducible apply Ln_add | with_reducible apply Ln_sub | with_reducible apply Ln_neg | (exact Ln_lit (by decide))))); decide), by (apply Ln_mono; (focus (repeat (first | assumption | with_reducible apply Ln_mul | with_reducible apply Ln_add | with_reducible apply Ln_sub | with_reducible apply Ln_neg | (exact Ln_lit (by decide))))); decide)⟩, ⟨⟨by (apply Ln_mono; (focus (repeat (first | assumption | with_reducible apply Ln_mul | with_reducible apply Ln_add | with_reducible apply Ln_sub | with_reducible apply Ln_neg | (exact Ln_lit (by decide))))); decide), by (apply Ln_mono; (focus (repeat (first | assumption | with_reducible apply Ln_mul | with_reducible apply Ln_add | with_reducible apply Ln_sub | with_reducible apply Ln_neg | (exact Ln_lit (by decide))))); decide), by (apply Ln_mono; (focus (repeat (first | assumption | with_reducible apply Ln_mul | with_reducible apply Ln_add | with_reducible apply Ln_sub | with_reducible apply Ln_neg | (exact Ln_lit (by decide))))); decide)⟩, by (apply Ln_mono; (focus (repeat (first | assumption | with_reducible apply Ln_mul | with_reducible apply Ln_add | with_reducible apply Ln_sub | with_reducible apply Ln_neg | (exact Ln_lit (by decide))))); decide), by (apply Ln_mono; (focus (repeat (first | assumption | with_reducible apply Ln_mul | with_reducible apply Ln_add | with_reducible apply Ln_sub | with_reducible apply Ln_neg | (exact Ln_lit (by decide))))); decide)⟩, ⟨⟨by (apply Ln_mono; (focus (repeat (first | assumption | with_reducible apply Ln_mul | with_reducible apply Ln_add | with_reducible apply Ln_sub | with_reducible apply Ln_neg | (exact Ln_lit (by decide))))); decide), by (apply Ln_mono; (focus (repeat (first | assumption | with_reducible apply Ln_mul | with_reducible apply Ln_add | with_reducible apply Ln_sub | with_reducible apply Ln_neg | (exact Ln_lit (by decide))))); decide), by (apply Ln_mono; (focus (repeat (first | assumption | with_reducible apply Ln_mul | with_reducible apply Ln_add | with_reducible apply Ln_sub | with_reducible apply Ln_neg | (exact Ln_lit (by decide))))); decide)⟩, by (apply Ln_mono; (focus (repeat (first | assumption | with_reducible apply Ln_mul | with_reducible apply Ln_add | with_reducible apply Ln_sub | with_reducible apply Ln_neg | (exact Ln_lit (by decide))))); decide), by (apply Ln_mono; (focus (repeat (first | assumption | with_reducible apply Ln_mul | with_reducible apply Ln_add | with_reducible apply Ln_sub | with_reducible apply Ln_neg | (exact Ln_lit (by decide))))); decide)⟩, ⟨⟨by (apply Ln_mono; (focus (repeat (first | assumption | with_reducible apply Ln_mul | with_reducible apply Ln_add | with_reducible apply Ln_sub | with_reducible apply Ln_neg | (exact Ln_lit (by decide))))); decide), by (apply Ln_mono; (focus (repeat (first | assumption | with_reducible apply Ln_mul | with_reducible apply Ln_add | with_reducible apply Ln_sub | with_reducible apply Ln_neg | (exact Ln_lit (by decide))))); decide), by (apply Ln_mono; (focus (repeat (first | assumption | with_reducible apply Ln_mul | with_reducible apply Ln_add | with_reducible apply Ln_sub | with_reducible apply Ln_neg | (exact Ln_lit (by decide))))); decide)⟩, by (apply Ln_mono; (focus (repeat (first | assumption | with_reducible apply Ln_mul | with_reducible apply Ln_add | with_reducible apply Ln_sub | with_reducible apply Ln_neg | (exact Ln_lit (by decide))))); decide), by (apply Ln_mono; (focus (repeat (first | assumption | with_reducible apply Ln_mul | with_reducible apply Ln_add | with_reducible apply Ln_sub | with_reducible apply Ln_neg | (exact Ln_lit (by decide))))); decide)⟩, ⟨⟨by (apply Ln_mono; (focus (repeat (first | assumption | with_reducible apply Ln_mul | with_reducible apply Ln_add | with_reducible apply Ln_sub | with_reducible apply Ln_neg | (exact Ln_lit (by decide))))); decide), by (apply Ln_mono; (focus (repeat (first | assumption | with_reducible apply Ln_mul | with_reducible apply Ln_add | with_reducible apply Ln_sub | with_reducible apply Ln_neg | (exact Ln_lit (by decide))))); decide), by (apply Ln_mono; (focus (repeat (first | assumption | with_reducible apply Ln_mul | with_reducible apply Ln_add | with_reducible apply Ln_sub | with_reducible apply Ln_neg | (exact Ln_lit (by decide))))); decide)⟩, by (apply Ln_mono; (focus (repeat (first | assumption | with_reducible apply Ln_mul | with_reducible apply Ln_add | with_reducible apply Ln_sub | with_reducible apply Ln_neg | (exact Ln_lit (by decide))))); decide), by (apply Ln_mono; (focus (repeat (first | assumption | with_reducible apply Ln_mul | with_reducible apply Ln_add | with_reducible apply Ln_sub | with_reducible apply Ln_neg | (exact Ln_lit (by decide))))); decide)⟩, by decide, .inl q⟩
  · exact h.elim
theorem kp_l_times : Keeps 2 m_l_times 2 W_l_times := by
  intro rs C Q E hl h
  unfold W_l_times at h
  split at h
  · rename_i p q r s a b c d
    obtain ⟨⟨⟨ha, hb, hc, hd⟩, hp, hq, hr, hs⟩, q⟩ := h
    ((conv => whnf); repeat (first | (refine And.intro (And.intro (by (apply Sz_of; (focus (repeat (first | assumption | with_reducible apply Ln_mul | with_reducible apply Ln_add | with_reducible apply Ln_sub | with_reducible apply Ln_neg | (exact Ln_lit (by decide))))); decide)) (by (apply Sz_of; (focus (repeat (first | assumption | with_reducible apply Ln_mul | with_reducible apply Ln_add | with_reducible apply Ln_sub | with_reducible apply Ln_neg | (exact Ln_lit (by decide))))); decide))) ?_; (conv => whnf)) | (refine And.intro (by exact Nat.le_of_ble_eq_true rfl) ?_; (conv => whnf)) | (refine And.intro rfl ?_; (conv => whnf))))
    exact .inl q
  · exact h.elim
theorem kp_l_is_small : Keeps 2 m_l_is_small 1 W_l_is_small := by
  intro rs C Q E hl h
  unfold W_l_is_small at h
  split at h
  · rename_i a b c
    simp (config := { maxSteps := 5000000 }) only [mRet, mSeq, mAsg, mCall, mCons, mNil, mVar, mC, mOp, mUn, mFn, mTup, mVal, mIfE, mIfS, mNotT, mTru, mAndT, mOrT, mAndE, mOrE, mNotE, mLst, newL, gNm, gSq, gCn, gNl, mNext, mPar, mRaise, mBreak, mCont, start, List.map_cons, List.map_nil, List.length_cons, List.length_nil, Nat.reduceAdd, Nat.reduceSub, List.reduceReplicate, List.cons_append, List.nil_append, List.append_nil, Nat.sub_self, List.getElem?_cons_zero, List.getElem?_cons_succ, List.set_cons_zero, List.set_cons_succ, oTimes, oPlus, oSub, oCmp, oNeg, m_l_is_small, mComp, iSeqT, wipeM, compL, fAbs]
    have key : ∀ x : Int, decide (1000 < if x < 0 then -x else x) = !btw (-1000) 1000 (.int x) := fun x => by
      have : (1000 < if x < 0 then -x else x) ↔ ¬(-1000 ≤ x ∧ x ≤ 1000) := by split <;> omega
      have e2 : btw (-1000) 1000 (.int x) = decide (-1000 ≤ x ∧ x ≤ 1000) := by simp [btw]
      rw [e2, ← decide_not]
      exact decide_eq_decide.mpr this
    simp only [key]
    simp only [rowB, fm, List.all_cons, List.all_nil] at h
    cases ha : btw (-1000) 1000 (.int a) <;> cases hb : btw (-1000) 1000 (.int b) <;> cases hc : btw (-1000) 1000 (.int c) <;> simp only [ha, hb, hc] at h ⊢ <;>
      simp [oEq, resN, eqR, eqRs, endD] at h ⊢ <;> exact .inl h
  · exact h.elim
theorem kp_l_cell : Keeps 2 m_l_cell 2 W_l_cell := by
  intro rs C Q E hl h
  unfold W_l_cell at h
  split at h
  · rename_i xs k
    obtain ⟨⟨h0, h1, ns, rfl⟩, q⟩ := h
    simp (config := { maxSteps := 5000000 }) only [mRet, mSeq, mAsg, mCall, mCons, mNil, mVar, mC, mOp, mUn, mFn, mTup, mVal, mIfE, mIfS, mNotT, mTru, mAndT, mOrT, mAndE, mOrE, mNotE, mLst, newL, gNm, gSq, gCn, gNl, mNext, mPar, mRaise, mBreak, mCont, start, List.map_cons, List.map_nil, List.length_cons, List.length_nil, Nat.reduceAdd, Nat.reduceSub, List.reduceReplicate, List.cons_append, List.nil_append, List.append_nil, Nat.sub_self, List.getElem?_cons_zero, List.getElem?_cons_succ, List.set_cons_zero, List.set_cons_succ, oTimes, oPlus, oSub, oCmp, oNeg, m_l_cell, fLen, seqOf, lstOf]
    by_cases c : k < (ns.map R.int).length
    · obtain ⟨r, e, m⟩ := at_of h0 c
      obtain ⟨i, -, rfl⟩ := List.mem_map.mp m
      simp only [c, decide_true, if_true, oIx, seqOf, lstOf, e]
      exact .inl (q i)
    · simp only [c, decide_false, Bool.false_eq_true, if_false]
      refine ⟨⟨by (apply Sz_of; (focus (repeat (first | assumption | with_reducible apply Ln_mul | with_reducible apply Ln_add | with_reducible apply Ln_sub | with_reducible apply Ln_neg | (exact Ln_lit (by decide))))); decide), Sz_of (n := 10) (by unfold Ln; omega) (by decide)⟩, ?_⟩
      cases ns with
      | nil => (conv => whnf); exact ⟨by decide, .inl (q _)⟩
      | cons n t => (conv => whnf); exact ⟨by decide, .inl (q _)⟩
  · exact h.elim
theorem kp_l_box : Keeps 1 m_l_box 1 W_l_box := by
  intro rs C Q E hl h
  unfold W_l_box at h
  split at h
  · rename_i g
    simp (config := { maxSteps := 5000000 }) only [mRet, mSeq, mAsg, mCall, mCons, mNil, mVar, mC, mOp, mUn, mFn, mTup, mVal, mIfE, mIfS, mNotT, mTru, mAndT, mOrT, mAndE, mOrE, mNotE, mLst, newL, gNm, gSq, gCn, gNl, mNext, mPar, mRaise, mBreak, mCont, start, List.map_cons, List.map_nil, List.length_cons, List.length_nil, Nat.reduceAdd, Nat.reduceSub, List.reduceReplicate, List.cons_append, List.nil_append, List.append_nil, Nat.sub_self, List.getElem?_cons_zero, List.getElem?_cons_succ, List.set_cons_zero, List.set_cons_succ, oTimes, oPlus, oSub, oCmp, oNeg, m_l_box, mBox, fAbs, fInt, oMod, oPow]
    refine ⟨⟨by decide, by decide, by decide⟩, by decide, by decide, ?_, ?_⟩
    · refine ⟨_, _, _, _, by rw [List.getElem?_append_right (Nat.le_refl _), Nat.sub_self]; rfl, ?_, ?_, ?_, ?_, ?_⟩
      · split <;> omega
      · exact Int.emod_nonneg _ (by decide)
      · exact Int.lt_trans (Int.emod_lt_of_pos _ (by decide)) (by decide)
      · decide
      · decide
    · refine .inl ?_
      rw [List.set_append_right _ _ (Nat.le_refl _), Nat.sub_self]
      exact h
  · exact h.elim
theorem kp_l_take : Keeps 4 m_l_take 2 W_l_take := by
  intro rs C Q E hl h
  unfold W_l_take at h
  split at h
  · rename_i k many
    obtain ⟨n, hk, ⟨h0, h1, h2⟩, q⟩ := h
    have hlt := (List.getElem?_eq_some_iff.mp hk).1
    have fin : ∀ (d a : Int) (b : Bool) (c e : Int), BoxAt a c e (n + 1) → 0 ≤ d → d < many → ∃ n', boxed k n' (C.set k (.lst [.int a, .bl b, .int c, .int e])) ∧ endD C.length Q (.int d) ((C.set k (.lst [.int a, .bl b, .int c, .int e])).set k (.box n')) := fun d a b c e hb x y =>
      ⟨n + 1, ⟨a, b, c, e, get_set hk, hb⟩, .inl (by rw [set_set]; exact q d x y)⟩
    show match C[k]? with | some (.box n) => _ | _ => False
    rw [hk]
    intro a b c d hb
    obtain ⟨b1, b2, b3, b4, b5⟩ := hb
    have g0 := get_set (b := Ct.lst [.int a, .bl b, .int c, .int d]) hk
    have rest : (mSeq (mAsg (mOp (oPlus false) (mOp oIx (mVar 0) (mC (.int 3))) (mC (.int 1))) (gIx (mVar 0) (mC (.int 3)))) (mSeq (mAsg (mOp oMod (mFn fInt (mCons (mOp oPow (mOp (oPlus false) (mOp (oPlus false) (mOp oIx (mVar 0) (mC (.int 2))) (mOp (oTimes false) (mC (.int 15485863)) (mOp oIx (mVar 0) (mC (.int 3))))) (mC (.int 179424673))) (mC (.int 5))) mNil)) (mC (.int 2147483647))) (gNm 2)) (mRet (mOp oMod (mFn fInt (mCons (mOp oDiv (mOp oMod (mFn fInt (mCons (mOp oPow (mOp (oPlus false) (mOp (oTimes false) (mVar 2) (mC (.int 48271))) (mOp (oTimes false) (mC (.int 104729)) (mOp oIx (mVar 0) (mC (.int 3))))) (mC (.int 3))) mNil)) (mC (.int 2147483587))) (mC (.int 64))) mNil)) (mVar 1))))) { nx := fun _ _ => False, rt := fun r C' => ∃ n', boxed k n' C' ∧ endD C.length Q r (C'.set k (.box n')) } [some (.cell k), some (.int many), none, none] (C.set k (.lst [.int a, .bl b, .int c, .int d])) := by
      simp (config := { maxSteps := 5000000 }) only [mRet, mSeq, mAsg, mCall, mCons, mNil, mVar, mC, mOp, mUn, mFn, mTup, mVal, mIfE, mIfS, mNotT, mTru, mAndT, mOrT, mAndE, mOrE, mNotE, mLst, newL, gNm, gSq, gCn, gNl, mNext, mPar, mRaise, mBreak, mCont, start, List.map_cons, List.map_nil, List.length_cons, List.length_nil, Nat.reduceAdd, Nat.reduceSub, List.reduceReplicate, List.cons_append, List.nil_append, List.append_nil, Nat.sub_self, List.getElem?_cons_zero, List.getElem?_cons_succ, List.set_cons_zero, List.set_cons_succ, oTimes, oPlus, oSub, oCmp, oNeg, oIx, seqOf, lstOf, g0, atM_0, atM_1, atM_2, atM_3, gIx, set_set]
      simp only [ixM, List.length_cons, List.length_nil, Nat.reduceAdd]
      rw [if_pos (by decide), if_pos (by decide)]
      simp only [show (3 : Int).toNat = 3 from rfl, List.set_cons_succ, List.set_cons_zero]
      have g1 := get_set (b := Ct.lst [.int a, .bl b, .int c, .int (d + 1)]) hk
      simp (config := { maxSteps := 5000000 }) only [mRet, mSeq, mAsg, mCall, mCons, mNil, mVar, mC, mOp, mUn, mFn, mTup, mVal, mIfE, mIfS, mNotT, mTru, mAndT, mOrT, mAndE, mOrE, mNotE, mLst, newL, gNm, gSq, gCn, gNl, mNext, mPar, mRaise, mBreak, mCont, start, List.map_cons, List.map_nil, List.length_cons, List.length_nil, Nat.reduceAdd, Nat.reduceSub, List.reduceReplicate, List.cons_append, List.nil_append, List.append_nil, Nat.sub_self, List.getElem?_cons_zero, List.getElem?_cons_succ, List.set_cons_zero, List.set_cons_succ, oTimes, oPlus, oSub, oCmp, oNeg, oIx, seqOf, lstOf, g1, atM_0, atM_1, atM_2, atM_3, oPow, fInt, oMod, oDiv]
      have ld : Ln 40 (d + 1) := by unfold Ln; omega
      generalize hm : (c + 15485863 * (d + 1) + 179424673) ^ Int.toNat 5 % 2147483647 = mixed
      have m0 : 0 ≤ mixed := by rw [← hm]; exact Int.emod_nonneg _ (by decide)
      have m1 : mixed < 2147483647 := by rw [← hm]; exact Int.emod_lt_of_pos _ (by decide)
      have lmx : Ln 40 mixed := by unfold Ln; omega
      refine ⟨⟨by (apply Sz_of; (focus (repeat (first | assumption | with_reducible apply Ln_mul | with_reducible apply Ln_add | with_reducible apply Ln_sub | with_reducible apply Ln_neg | (exact Ln_lit (by decide))))); decide), by (apply Sz_of; (focus (repeat (first | assumption | with_reducible apply Ln_mul | with_reducible apply Ln_add | with_reducible apply Ln_sub | with_reducible apply Ln_neg | (exact Ln_lit (by decide))))); decide)⟩, ⟨by decide, by decide, by omega⟩, by decide, ⟨by (apply Sz_of; (focus (repeat (first | assumption | with_reducible apply Ln_mul | with_reducible apply Ln_add | with_reducible apply Ln_sub | with_reducible apply Ln_neg | (exact Ln_lit (by decide))))); decide), by (apply Sz_of; (focus (repeat (first | assumption | with_reducible apply Ln_mul | with_reducible apply Ln_add | with_reducible apply Ln_sub | with_reducible apply Ln_neg | (exact Ln_lit (by decide))))); decide)⟩, ⟨by (apply Sz_of; (focus (repeat (first | assumption | with_reducible apply Ln_mul | with_reducible apply Ln_add | with_reducible apply Ln_sub | with_reducible apply Ln_neg | (exact Ln_lit (by decide))))); decide), by (apply Sz_of; (focus (repeat (first | assumption | with_reducible apply Ln_mul | with_reducible apply Ln_add | with_reducible apply Ln_sub | with_reducible apply Ln_neg | (exact Ln_lit (by decide))))); decide)⟩, ⟨by decide, by decide, by omega⟩, by decide, ⟨by decide, by unfold Sd; exact Nat.lt_of_lt_of_le (by decide : _ < 2 ^ 20) (Nat.pow_le_pow_right (by decide) (by decide))⟩, h0, ?_⟩
      refine fin _ _ _ _ _ ⟨b1, b2, b3, by omega, by omega⟩ (Int.emod_nonneg _ (by omega)) (Int.emod_lt_of_pos _ h0)
    have cond : ∀ P : Bool → Cs → Prop, P (b && decide (0 < a)) (C.set k (.lst [.int a, .bl b, .int c, .int d])) → (mAndT (mTru (mOp oIx (mVar 0) (mC (.int 1)))) (mVal (mOp oGt (mOp oIx (mVar 0) (mC (.int 0))) (mC (.int 0))))) [some (.cell k), some (.int many), none, none] (C.set k (.lst [.int a, .bl b, .int c, .int d])) P := by
      intro P hP
      simp (config := { maxSteps := 5000000 }) only [mRet, mSeq, mAsg, mCall, mCons, mNil, mVar, mC, mOp, mUn, mFn, mTup, mVal, mIfE, mIfS, mNotT, mTru, mAndT, mOrT, mAndE, mOrE, mNotE, mLst, newL, gNm, gSq, gCn, gNl, mNext, mPar, mRaise, mBreak, mCont, start, List.map_cons, List.map_nil, List.length_cons, List.length_nil, Nat.reduceAdd, Nat.reduceSub, List.reduceReplicate, List.cons_append, List.nil_append, List.append_nil, Nat.sub_self, List.getElem?_cons_zero, List.getElem?_cons_succ, List.set_cons_zero, List.set_cons_succ, oTimes, oPlus, oSub, oCmp, oNeg, oIx, seqOf, lstOf, g0, atM_0, atM_1]
      cases b <;> simpa using hP
    refine cond _ ?_
    cases e : (b && decide (0 < a)) with
    | false => exact rest
    | true =>
      simp only [if_true]
      simp (config := { maxSteps := 5000000 }) only [mRet, mSeq, mAsg, mCall, mCons, mNil, mVar, mC, mOp, mUn, mFn, mTup, mVal, mIfE, mIfS, mNotT, mTru, mAndT, mOrT, mAndE, mOrE, mNotE, mLst, newL, gNm, gSq, gCn, gNl, mNext, mPar, mRaise, mBreak, mCont, start, List.map_cons, List.map_nil, List.length_cons, List.length_nil, Nat.reduceAdd, Nat.reduceSub, List.reduceReplicate, List.cons_append, List.nil_append, List.append_nil, Nat.sub_self, List.getElem?_cons_zero, List.getElem?_cons_succ, List.set_cons_zero, List.set_cons_succ, oTimes, oPlus, oSub, oCmp, oNeg, oIx, seqOf, lstOf, g0, atM_0, atM_1, fInt, oMod, oDiv, gIx]
      simp only [ixM, List.length_cons, List.length_nil, Nat.reduceAdd]
      rw [if_pos (by decide), if_pos (by decide)]
      simp only [show (0 : Int).toNat = 0 from rfl, List.set_cons_succ, List.set_cons_zero, set_set]
      have : Sd many := by unfold Sd; exact Nat.lt_of_lt_of_le (by omega : many.natAbs < 2 ^ 20) (Nat.pow_le_pow_right (by decide) (by decide))
      have f := fin (a % many) (a / many) b c d ⟨Int.ediv_nonneg b1 (by omega), b2, b3, b4, by omega⟩ (Int.emod_nonneg _ (by omega)) (Int.emod_lt_of_pos _ h0)
      simp only [set_set] at f
      exact ⟨h0, ⟨h0, this⟩, f⟩
  · exact h.elim
/-- one turn of the box -/
theorem take_ {C : Cs} {k n : Nat} {many : Int} {Q : Qe} {E : MX} (hk : C[k]? = some (.box n)) (h0 : 0 < many) (h1 : many < 1000000) (h2 : n < 1000000) (q : ∀ d : Int, 0 ≤ d → d < many → Q (.int d) (C.set k (.box (n + 1)))) : W_l_take [.cell k, .int many] C Q E := ⟨n, hk, ⟨h0, h1, h2⟩, q⟩
theorem times_ {C : Cs} {p q r s a b c d : Int} {Q : Qe} {E : MX} (h : ((Ln 300 a ∧ Ln 300 b ∧ Ln 300 c ∧ Ln 300 d) ∧ Ln 300 p ∧ Ln 300 q ∧ Ln 300 r ∧ Ln 300 s)) (k : Q (mt (p * a + q * c) (p * b + q * d) (r * a + s * c) (r * b + s * d)) C) : W_l_times [mt p q r s, mt a b c d] C Q E := ⟨h, k⟩
theorem set_self {C : Cs} {k n : Nat} (hk : C[k]? = some (.box n)) : C.set k (.box n) = C := by
  apply List.ext_getElem?
  intro i
  rw [List.getElem?_set]
  split
  · rename_i e; subst e; rw [hk]; rw [if_pos (List.getElem?_eq_some_iff.mp hk).1]
  · rfl
theorem le1_3 {m x y k : Int} (hx : Le1 m x) (hy : Le1 m y) (hk : k = -1 ∨ k = 0 ∨ k = 1 ∨ k = 2 ∨ k = -2) : Le1 (3 * m) (x * k + y * 1) ∧ Le1 (3 * m) (x * 1 + y * k) ∧ Le1 (3 * m) (x * 1 + y * 0) ∧ Le1 (3 * m) (x * 0 + y * 1) ∧ Le1 (3 * m) (x * -1 + y * 0) := by
  unfold Le1 at *
  rcases hk with rfl | rfl | rfl | rfl | rfl <;> omega
theorem kp_l_shift : Keeps 4 m_l_shift 1 W_l_shift := by
  intro rs C Q E hl h
  unfold W_l_shift at h
  split at h
  · rename_i k
    obtain ⟨n, hk, hn, q⟩ := h
    have hq : ∀ n' p q0 r s, n' ≤ n + 10 → Le1 27 p → Le1 27 q0 → Le1 27 r → Le1 27 s → endD C.length Q (mt p q0 r s) (C.set k (.box n')) := fun n' p q0 r s hn' a b c d => .inl (q n' hn' p q0 r s a b c d)
    (conv => whnf)
    refine ⟨by exact Nat.le_of_ble_eq_true rfl, ⟨by exact Nat.le_of_ble_eq_true rfl, ⟨by exact Nat.le_of_ble_eq_true rfl, ?_⟩⟩⟩
    refine ⟨n, hk, ⟨by decide, by decide, by omega⟩, fun d h0 h4 => ?_⟩
    (conv => whnf)
    refine ⟨by omega, ?_⟩
    have loop : ∀ (m : Nat) (lo : Int) (n' : Nat) (B p q0 r s : Int) (x2 x3 : Option R), (m : Int) ≤ 3 → n' + 2 * m ≤ n + 7 → 0 ≤ B → (m = 0 ∧ B ≤ 27 ∨ m = 1 ∧ B ≤ 9 ∨ m = 2 ∧ B ≤ 3 ∨ m = 3 ∧ B ≤ 1) → Le1 B p → Le1 B q0 → Le1 B r → Le1 B s →
        forL (gNm 2) (mSeq (mAsg (mOp oSub (mCall W_l_take (fun _ => endX C.length E) (mCons (mVar 0) (mCons (mC (.int 5)) mNil))) (mC (.int 2))) (gNm 3))
  (mAsg (mCall W_l_times (fun _ => endX C.length E) (mCons (mVar 1) (mCons (mOp oIx (mLst false (mCons (mTup (mCons (mTup (mCons (mC (.int 1)) (mCons (mVar 3) mNil))) (mCons (mTup (mCons (mC (.int 0)) (mCons (mC (.int 1)) mNil))) mNil))) (mCons (mTup (mCons (mTup (mCons (mC (.int 1)) (mCons (mC (.int 0)) mNil))) (mCons (mTup (mCons (mVar 3) (mCons (mC (.int 1)) mNil))) mNil))) (mCons (mTup (mCons (mTup (mCons (mC (.int 0)) (mCons (mUn oNeg (mC (.int 1))) mNil))) (mCons (mTup (mCons (mC (.int 1)) (mCons (mC (.int 0)) mNil))) mNil))) mNil)))) (mCall W_l_take (fun _ => endX C.length E) (mCons (mVar 0) (mCons (mC (.int 3)) mNil)))) mNil))) (gNm 1)))
          { nx := fun Γ C' => mRet (mVar 1) { nx := fun _ C' => endD C.length Q .non C', rt := endD C.length Q } Γ C', rt := endD C.length Q } (upto lo m) [some (.cell k), some (mt p q0 r s), x2, x3] (C.set k (.box n')) := by
      intro m
      induction m with
      | zero =>
        intro lo n' B p q0 r s x2 x3 hm hn' hB hb a b c d
        (conv => whnf)
        have : B ≤ 27 := by omega
        exact hq n' p q0 r s (by omega) ⟨by have := a.1; omega, by have := a.2; omega⟩ ⟨by have := b.1; omega, by have := b.2; omega⟩ ⟨by have := c.1; omega, by have := c.2; omega⟩ ⟨by have := d.1; omega, by have := d.2; omega⟩
      | succ m ih =>
        intro lo n' B p q0 r s x2 x3 hm hn' hB hb a b c d
        have hb' : B ≤ 27 := by omega
        have l : ∀ x, Le1 B x → Ln 300 x := fun x h => Ln_mono (Ln_le (m := 27) (n := 20) ⟨by have := h.1; omega, by have := h.2; omega⟩ (by decide)) (by decide)
        (conv => whnf)
        refine ⟨_, get_set hk, ⟨by decide, by decide, by omega⟩, fun e h0 h5 => ?_⟩
        (conv => whnf)
        refine ⟨by exact Nat.le_of_ble_eq_true rfl, ⟨by exact Nat.le_of_ble_eq_true rfl, ⟨by exact Nat.le_of_ble_eq_true rfl, ⟨by exact Nat.le_of_ble_eq_true rfl, ⟨by exact Nat.le_of_ble_eq_true rfl, ⟨by exact Nat.le_of_ble_eq_true rfl, ⟨by exact Nat.le_of_ble_eq_true rfl, ⟨by exact Nat.le_of_ble_eq_true rfl, ⟨by exact Nat.le_of_ble_eq_true rfl, ⟨by exact Nat.le_of_ble_eq_true rfl, ?_⟩⟩⟩⟩⟩⟩⟩⟩⟩⟩
        refine ⟨_, get_set (get_set hk), ⟨by decide, by decide, by omega⟩, fun j j0 j3 => ?_⟩
        refine ix_all j0 (by simpa using j3) (fun x hx => ?_)
        have hk2 : e - 2 = -1 ∨ e - 2 = 0 ∨ e - 2 = 1 ∨ e - 2 = 2 ∨ e - 2 = -2 := by omega
        have le2 : Ln 300 (e - 2) := by unfold Ln; rcases hk2 with h | h | h | h | h <;> rw [h] <;> decide
        have nxt : ∀ p q0 r s, Le1 (3 * B) p → Le1 (3 * B) q0 → Le1 (3 * B) r → Le1 (3 * B) s → _ := fun p q0 r s => ih (lo + 1) (n' + 1 + 1) (3 * B) p q0 r s (some (.int lo)) (some (.int (e - 2))) (by omega) (by omega) (by omega) (by omega)
        have t1 := le1_3 a b hk2
        have t2 := le1_3 c d hk2
        simp only [set_set]
        simp only [List.mem_cons, List.not_mem_nil, or_false] at hx
        rcases hx with rfl | rfl | rfl
        · (conv => whnf)
          refine And.intro ⟨⟨Ln_mono (Ln_lit (by decide)) (by decide), le2, Ln_mono (Ln_lit (by decide)) (by decide), Ln_mono (Ln_lit (by decide)) (by decide)⟩, l _ a, l _ b, l _ c, l _ d⟩ ?_
          exact nxt _ _ _ _ t1.2.2.1 t1.1 t2.2.2.1 t2.1
        · (conv => whnf)
          refine And.intro ⟨⟨Ln_mono (Ln_lit (by decide)) (by decide), Ln_mono (Ln_lit (by decide)) (by decide), le2, Ln_mono (Ln_lit (by decide)) (by decide)⟩, l _ a, l _ b, l _ c, l _ d⟩ ?_
          exact nxt _ _ _ _ t1.2.1 t1.2.2.2.1 t2.2.1 t2.2.2.2.1
        · (conv => whnf)
          refine And.intro ⟨⟨Ln_mono (Ln_lit (by decide)) (by decide), Ln_mono (Ln_lit (by decide)) (by decide), Ln_mono (Ln_lit (by decide)) (by decide), Ln_mono (Ln_lit (by decide)) (by decide)⟩, l _ a, l _ b, l _ c, l _ d⟩ ?_
          exact nxt _ _ _ _ t1.2.2.2.1 t1.2.2.2.2 t2.2.2.2.1 t2.2.2.2.2
    exact loop d.toNat 0 (n + 1) 1 1 0 0 1 none none (by omega) (by omega) (by decide) (by omega) ⟨by decide, by decide⟩ ⟨by decide, by decide⟩ ⟨by decide, by decide⟩ ⟨by decide, by decide⟩
  · exact h.elim
theorem kp_l_form : Keeps 6 m_l_form 1 W_l_form := by
  intro rs C Q E hl h
  unfold W_l_form at h
  split at h
  · rename_i k
    obtain ⟨n, hk, hn, q⟩ := h
    (conv => whnf)
    refine ⟨by exact Nat.le_of_ble_eq_true rfl, ?_⟩
    (conv => whnf)
    refine ⟨_, hk, ⟨by decide, by decide, by omega⟩, fun d1 u1 v1 => ?_⟩
    have hk := get_set (b := .box (n + 1)) hk
    refine ix_all u1 (by simpa using v1) (fun x hx => ?_)
    obtain ⟨i, rfl, i1, i2⟩ : ∃ i : Int, x = .int i ∧ 6 ≤ i ∧ i ≤ 30 := by
      simp only [List.mem_cons, List.not_mem_nil, or_false] at hx
      rcases hx with rfl | rfl | rfl <;> exact ⟨_, rfl, by decide, by decide⟩
    (conv => whnf)
    refine ⟨_, hk, ⟨by omega, by omega, by omega⟩, fun d2 u2 v2 => ?_⟩
    have hk := get_set (b := .box (n + 1 + 1)) hk
    obtain ⟨a, ha, a1, a2⟩ : ∃ a : Int, 1 + d2 = a ∧ 1 ≤ a ∧ a ≤ 30 := ⟨_, rfl, by omega, by omega⟩
    (conv => whnf)
    rw [ha]
    have la : Ln 40 a := by unfold Ln; omega
    refine ⟨⟨by (apply Sz_of; (focus (repeat (first | assumption | with_reducible apply Ln_mul | with_reducible apply Ln_add | with_reducible apply Ln_sub | with_reducible apply Ln_neg | (exact Ln_lit (by decide))))); decide), by (apply Sz_of; (focus (repeat (first | assumption | with_reducible apply Ln_mul | with_reducible apply Ln_add | with_reducible apply Ln_sub | with_reducible apply Ln_neg | (exact Ln_lit (by decide))))); decide)⟩, ?_⟩
    refine ⟨_, hk, ⟨by omega, by omega, by omega⟩, fun d3 u3 v3 => ?_⟩
    have hk := get_set (b := .box (n + 1 + 1 + 1)) hk
    obtain ⟨b, hb, b1, b2⟩ : ∃ b : Int, d3 - a + 1 = b ∧ -30 ≤ b ∧ b ≤ 31 := ⟨_, rfl, by omega, by omega⟩
    (conv => whnf)
    refine ⟨by exact Nat.le_of_ble_eq_true rfl, ?_⟩
    (conv => whnf)
    refine ⟨_, hk, ⟨by decide, by decide, by omega⟩, fun d4 u4 v4 => ?_⟩
    have hk := get_set (b := .box (n + 1 + 1 + 1 + 1)) hk
    refine ix_all u4 (by simpa using v4) (fun x hx => ?_)
    obtain ⟨j, rfl, j1, j2⟩ : ∃ i : Int, x = .int i ∧ 3 ≤ i ∧ i ≤ 60 := by
      simp only [List.mem_cons, List.not_mem_nil, or_false] at hx
      rcases hx with rfl | rfl | rfl <;> exact ⟨_, rfl, by decide, by decide⟩
    (conv => whnf)
    refine ⟨_, hk, ⟨by omega, by omega, by omega⟩, fun d5 u5 v5 => ?_⟩
    have hk := get_set (b := .box (n + 1 + 1 + 1 + 1 + 1)) hk
    obtain ⟨c, hc, c1, c2⟩ : ∃ c : Int, a + d5 = c ∧ 1 ≤ c ∧ c ≤ 90 := ⟨_, rfl, by omega, by omega⟩
    (conv => whnf)
    refine ⟨by exact Nat.le_of_ble_eq_true rfl, ?_⟩
    (conv => whnf)
    refine ⟨by exact Nat.le_of_ble_eq_true rfl, ?_⟩
    (conv => whnf)
    refine ⟨by exact Nat.le_of_ble_eq_true rfl, ?_⟩
    (conv => whnf)
    refine ⟨by exact Nat.le_of_ble_eq_true rfl, ?_⟩
    (conv => whnf)
    refine ⟨by exact Nat.le_of_ble_eq_true rfl, ?_⟩
    (conv => whnf)
    refine ⟨by exact Nat.le_of_ble_eq_true rfl, ?_⟩
    (conv => whnf)
    refine ⟨by exact Nat.le_of_ble_eq_true rfl, ?_⟩
    (conv => whnf)
    rw [hb, hc]
    refine ⟨_, hk, ⟨by decide, by decide, by omega⟩, fun d6 u6 v6 => ?_⟩
    have hk := get_set (b := .box (n + 1 + 1 + 1 + 1 + 1 + 1)) hk
    refine ix_all u6 (by simpa using v6) (fun x hx => ?_)
    obtain ⟨i6, rfl, i7, i8⟩ : ∃ i : Int, x = .int i ∧ 0 ≤ i ∧ i < 5 := by
      simp only [List.mem_cons, List.not_mem_nil, or_false] at hx
      rcases hx with rfl | rfl | rfl | rfl | rfl | rfl | rfl | rfl <;> exact ⟨_, rfl, by decide, by decide⟩
    refine ix_all i7 (by simpa using i8) (fun x hx => ?_)
    obtain ⟨a', b', c', rfl, ga, gb, gc⟩ : ∃ a b c : Int, x = fm a b c ∧ Le1 1000 a ∧ Le1 1000 b ∧ Le1 1000 c := by
      simp only [List.mem_cons, List.not_mem_nil, or_false] at hx
      unfold Le1
      rcases hx with rfl | rfl | rfl | rfl | rfl <;> refine ⟨_, _, _, rfl, ?_⟩ <;> first | omega | (split <;> omega)
    (conv => whnf)
    refine ⟨_, hk, by omega, fun n' hn' p q0 r s hp hq hr hs => ?_⟩
    have l : ∀ x, Le1 1000 x → Ln 300 x := fun x h => Ln_mono (Ln_le (n := 20) h (by decide)) (by decide)
    have l2 : ∀ x, Le1 27 x → Ln 300 x := fun x h => Ln_mono (Ln_le (n := 20) h (by decide)) (by decide)
    refine And.intro ⟨⟨l _ ga, l _ gb, l _ gc⟩, l2 _ hp, l2 _ hq, l2 _ hr, l2 _ hs⟩ ?_
    show if rowB 3 (-1000) 1000 (cg a' b' c' p q0 r s) = true then _ else _
    cases e : rowB 3 (-1000) 1000 (cg a' b' c' p q0 r s) with
    | true =>
      simp only [if_true]
      obtain ⟨a9, b9, c9, e9, h9⟩ := rowB3 e
      rw [e9]
      refine .inl ?_
      simp only [set_set]
      exact q n' (by omega) _ _ _ h9.1 h9.2.1 h9.2.2
    | false =>
      simp only [Bool.false_eq_true, if_false]
      refine .inl ?_
      simp only [set_set]
      exact q n' (by omega) _ _ _ ga gb gc
  · exact h.elim
def sOk (z : Str) : Bool := decide (z.length ≤ 1000) && z.cps.all fun c => decide (c < 0x110000)
theorem nice_s {z : Str} (h : sOk z = true) : ∀ (d : Nat) (C : Cs), nice d C (.str z) = true
  | 0, _ => h
  | _ + 1, _ => h
theorem ns_1 : ∀ (d : Nat) (C : Cs), nice d C (.str "1") = true := nice_s (by decide +kernel)
theorem ns_form : ∀ (d : Nat) (C : Cs), nice d C (.str "form") = true := nice_s (by decide +kernel)
theorem ns_told : ∀ (d : Nat) (C : Cs), nice d C (.str "told") = true := nice_s (by decide +kernel)
theorem ns_matrix : ∀ (d : Nat) (C : Cs), nice d C (.str "matrix") = true := nice_s (by decide +kernel)
theorem ns_1001 : ∀ (d : Nat) (C : Cs), nice d C (.str "1001") = true := nice_s (by decide +kernel)
theorem nice_t {d : Nat} {C : Cs} {xs : List R} (h : xs.length ≤ 1000) (k : xs.all (nice d C) = true) : nice (d + 1) C (.tup xs) = true := by simp only [nice, h, decide_true, k, Bool.and_self]
theorem nice_l {d : Nat} {C : Cs} {xs : List R} (h : xs.length ≤ 1000) (k : xs.all (nice d C) = true) : nice (d + 1) C (.lst xs) = true := by simp only [nice, h, decide_true, k, Bool.and_self]
theorem nice_i {d : Nat} {C : Cs} {i : Int} : nice d C (.int i) = true := by cases d <;> rfl
theorem nice_fm {d : Nat} {C : Cs} {a b c : Int} : nice (d + 1) C (fm a b c) = true := nice_t (by simp) (by simp only [List.all_cons, List.all_nil, nice_i, Bool.and_self])
theorem kp_l_any_form : Keeps 3 m_l_any_form 1 W_l_any_form := by
  intro rs C Q E hl h
  unfold W_l_any_form at h
  split at h
  · rename_i k
    obtain ⟨n, hk, hn, q⟩ := h
    (conv => whnf)
    refine ⟨_, hk, ⟨by decide, by decide, by omega⟩, fun d1 u1 v1 => ?_⟩
    have hk := get_set (b := .box (n + 1)) hk
    show if (d1 == 0) = true then _ else _
    cases e : (d1 == 0) with
    | true =>
      simp only [if_true]
      (conv => whnf)
      refine ⟨_, hk, by omega, fun n' hn' a b c ga gb gc => .inl ?_⟩
      simp only [set_set]
      exact q n' (by omega) a b c ga gb gc
    | false =>
      simp only [Bool.false_eq_true, if_false]
      (conv => whnf)
      refine ⟨by exact Nat.le_of_ble_eq_true rfl, ?_⟩
      (conv => whnf)
      refine ⟨_, hk, ⟨by decide, by decide, by omega⟩, fun d2 u2 v2 => ?_⟩
      have hk := get_set (b := .box (n + 1 + 1)) hk
      refine ix_all u2 (by simpa using v2) (fun x hx => ?_)
      obtain ⟨i, rfl, i1, i2⟩ : ∃ i : Int, x = .int i ∧ 3 ≤ i ∧ i ≤ 1000 := by
        simp only [List.mem_cons, List.not_mem_nil, or_false] at hx
        rcases hx with rfl | rfl | rfl <;> exact ⟨_, rfl, by decide, by decide⟩
      have li : Ln 40 i := by unfold Ln; omega
      (conv => whnf)
      refine ⟨⟨by decide, by decide⟩, ?_⟩
      (conv => whnf)
      refine ⟨by exact Nat.le_of_ble_eq_true rfl, ?_⟩
      (conv => whnf)
      refine ⟨⟨by (apply Sz_of; (focus (repeat (first | assumption | with_reducible apply Ln_mul | with_reducible apply Ln_add | with_reducible apply Ln_sub | with_reducible apply Ln_neg | (exact Ln_lit (by decide))))); decide), by (apply Sz_of; (focus (repeat (first | assumption | with_reducible apply Ln_mul | with_reducible apply Ln_add | with_reducible apply Ln_sub | with_reducible apply Ln_neg | (exact Ln_lit (by decide))))); decide)⟩, ?_⟩
      (conv => whnf)
      refine ⟨_, hk, ⟨by omega, by omega, by omega⟩, fun d3 u3 v3 => ?_⟩
      have hk := get_set (b := .box (n + 1 + 1 + 1)) hk
      (conv => whnf)
      refine ⟨by exact Nat.le_of_ble_eq_true rfl, ?_⟩
      (conv => whnf)
      refine ⟨⟨by (apply Sz_of; (focus (repeat (first | assumption | with_reducible apply Ln_mul | with_reducible apply Ln_add | with_reducible apply Ln_sub | with_reducible apply Ln_neg | (exact Ln_lit (by decide))))); decide), by (apply Sz_of; (focus (repeat (first | assumption | with_reducible apply Ln_mul | with_reducible apply Ln_add | with_reducible apply Ln_sub | with_reducible apply Ln_neg | (exact Ln_lit (by decide))))); decide)⟩, ?_⟩
      (conv => whnf)
      refine ⟨_, hk, ⟨by omega, by omega, by omega⟩, fun d4 u4 v4 => ?_⟩
      have hk := get_set (b := .box (n + 1 + 1 + 1 + 1)) hk
      (conv => whnf)
      refine ⟨by exact Nat.le_of_ble_eq_true rfl, ?_⟩
      (conv => whnf)
      refine ⟨⟨by (apply Sz_of; (focus (repeat (first | assumption | with_reducible apply Ln_mul | with_reducible apply Ln_add | with_reducible apply Ln_sub | with_reducible apply Ln_neg | (exact Ln_lit (by decide))))); decide), by (apply Sz_of; (focus (repeat (first | assumption | with_reducible apply Ln_mul | with_reducible apply Ln_add | with_reducible apply Ln_sub | with_reducible apply Ln_neg | (exact Ln_lit (by decide))))); decide)⟩, ?_⟩
      (conv => whnf)
      refine ⟨_, hk, ⟨by omega, by omega, by omega⟩, fun d5 u5 v5 => ?_⟩
      (conv => whnf)
      refine .inl ?_
      simp only [set_set]
      exact q _ (by omega) (d3 - i) (d4 - i) (d5 - i) ⟨by omega, by omega⟩ ⟨by omega, by omega⟩ ⟨by omega, by omega⟩
  · exact h.elim
theorem kp_l_any_matrix : Keeps 4 m_l_any_matrix 1 W_l_any_matrix := by
  intro rs C Q E hl h
  unfold W_l_any_matrix at h
  split at h
  · rename_i k
    obtain ⟨n, hk, hn, q⟩ := h
    (conv => whnf)
    refine ⟨_, hk, ⟨by decide, by decide, by omega⟩, fun d1 u1 v1 => ?_⟩
    have hk := get_set (b := .box (n + 1)) hk
    show if (d1 == 0) = true then _ else _
    cases e : (d1 == 0) with
    | true =>
      simp only [if_true]
      (conv => whnf)
      refine ⟨_, hk, by omega, fun n' hn' a b c d ga gb gc gd => .inl ?_⟩
      simp only [set_set]
      have l : ∀ x, Le1 27 x → Le1 1000 x := fun x h => ⟨by have := h.1; omega, by have := h.2; omega⟩
      exact q n' (by omega) a b c d (l _ ga) (l _ gb) (l _ gc) (l _ gd)
    | false =>
      simp only [Bool.false_eq_true, if_false]
      (conv => whnf)
      refine ⟨by exact Nat.le_of_ble_eq_true rfl, ?_⟩
      (conv => whnf)
      refine ⟨_, hk, ⟨by decide, by decide, by omega⟩, fun d2 u2 v2 => ?_⟩
      have hk := get_set (b := .box (n + 1 + 1)) hk
      (conv => whnf)
      refine ⟨⟨by decide, by unfold Sd; exact Nat.lt_of_lt_of_le (by decide : _ < 2 ^ 20) (Nat.pow_le_pow_right (by decide) (by decide))⟩, ?_⟩
      have w0 : 0 ≤ d2 / 3 := Int.ediv_nonneg u2 (by decide)
      have w1 : d2 / 3 < 3 := by omega
      refine ix_all w0 (by simpa using w1) (fun x hx => ?_)
      obtain ⟨i, rfl, i1, i2⟩ : ∃ i : Int, x = .int i ∧ 1 ≤ i ∧ i ≤ 1000 := by
        simp only [List.mem_cons, List.not_mem_nil, or_false] at hx
        rcases hx with rfl | rfl | rfl <;> exact ⟨_, rfl, by decide, by decide⟩
      have li : Ln 40 i := by unfold Ln; omega
      (conv => whnf)
      refine ⟨⟨by decide, by decide⟩, ?_⟩
      (conv => whnf)
      refine ⟨by exact Nat.le_of_ble_eq_true rfl, ?_⟩
      (conv => whnf)
      refine ⟨⟨by decide, by decide⟩, ?_⟩
      (conv => whnf)
      refine ⟨by exact Nat.le_of_ble_eq_true rfl, ?_⟩
      (conv => whnf)
      refine ⟨⟨by (apply Sz_of; (focus (repeat (first | assumption | with_reducible apply Ln_mul | with_reducible apply Ln_add | with_reducible apply Ln_sub | with_reducible apply Ln_neg | (exact Ln_lit (by decide))))); decide), by (apply Sz_of; (focus (repeat (first | assumption | with_reducible apply Ln_mul | with_reducible apply Ln_add | with_reducible apply Ln_sub | with_reducible apply Ln_neg | (exact Ln_lit (by decide))))); decide)⟩, ?_⟩
      (conv => whnf)
      refine ⟨_, hk, ⟨by omega, by omega, by omega⟩, fun d3 u3 v3 => ?_⟩
      have hk := get_set (b := .box (n + 1 + 1 + 1)) hk
      (conv => whnf)
      refine ⟨by exact Nat.le_of_ble_eq_true rfl, ?_⟩
      (conv => whnf)
      refine ⟨⟨by (apply Sz_of; (focus (repeat (first | assumption | with_reducible apply Ln_mul | with_reducible apply Ln_add | with_reducible apply Ln_sub | with_reducible apply Ln_neg | (exact Ln_lit (by decide))))); decide), by (apply Sz_of; (focus (repeat (first | assumption | with_reducible apply Ln_mul | with_reducible apply Ln_add | with_reducible apply Ln_sub | with_reducible apply Ln_neg | (exact Ln_lit (by decide))))); decide)⟩, ?_⟩
      (conv => whnf)
      refine ⟨_, hk, ⟨by omega, by omega, by omega⟩, fun d4 u4 v4 => ?_⟩
      have hk := get_set (b := .box (n + 1 + 1 + 1 + 1)) hk
      (conv => whnf)
      refine ⟨by exact Nat.le_of_ble_eq_true rfl, ?_⟩
      (conv => whnf)
      refine ⟨⟨by decide, by decide⟩, ?_⟩
      (conv => whnf)
      refine ⟨by exact Nat.le_of_ble_eq_true rfl, ?_⟩
      (conv => whnf)
      refine ⟨⟨by (apply Sz_of; (focus (repeat (first | assumption | with_reducible apply Ln_mul | with_reducible apply Ln_add | with_reducible apply Ln_sub | with_reducible apply Ln_neg | (exact Ln_lit (by decide))))); decide), by (apply Sz_of; (focus (repeat (first | assumption | with_reducible apply Ln_mul | with_reducible apply Ln_add | with_reducible apply Ln_sub | with_reducible apply Ln_neg | (exact Ln_lit (by decide))))); decide)⟩, ?_⟩
      (conv => whnf)
      refine ⟨_, hk, ⟨by omega, by omega, by omega⟩, fun d5 u5 v5 => ?_⟩
      have hk := get_set (b := .box (n + 1 + 1 + 1 + 1 + 1)) hk
      (conv => whnf)
      refine ⟨by exact Nat.le_of_ble_eq_true rfl, ?_⟩
      (conv => whnf)
      refine ⟨⟨by (apply Sz_of; (focus (repeat (first | assumption | with_reducible apply Ln_mul | with_reducible apply Ln_add | with_reducible apply Ln_sub | with_reducible apply Ln_neg | (exact Ln_lit (by decide))))); decide), by (apply Sz_of; (focus (repeat (first | assumption | with_reducible apply Ln_mul | with_reducible apply Ln_add | with_reducible apply Ln_sub | with_reducible apply Ln_neg | (exact Ln_lit (by decide))))); decide)⟩, ?_⟩
      (conv => whnf)
      refine ⟨_, hk, ⟨by omega, by omega, by omega⟩, fun d6 u6 v6 => ?_⟩
      (conv => whnf)
      refine .inl ?_
      simp only [set_set]
      exact q _ (by omega) (d3 - i) (d4 - i) (d5 - i) (d6 - i) ⟨by omega, by omega⟩ ⟨by omega, by omega⟩ ⟨by omega, by omega⟩ ⟨by omega, by omega⟩
  · exact h.elim
theorem kp_l_odd_form : Keeps 1 m_l_odd_form 1 W_l_odd_form := by
  intro rs C Q E hl h
  unfold W_l_odd_form at h
  split at h
  · rename_i k
    obtain ⟨n, hk, hn, q⟩ := h
    have hlt := (List.getElem?_eq_some_iff.mp hk).1
    have hk' : (C ++ [Ct.dct []])[k]? = some (.box n) := by rw [List.getElem?_append_left hlt]; exact hk
    have hd : ∀ m, ((C ++ [Ct.dct []]).set k (.box m))[C.length]? = some (.dct []) := fun m => by
      rw [List.getElem?_set_ne (by omega), List.getElem?_append_right (Nat.le_refl _), Nat.sub_self]; rfl
    (conv => whnf)
    repeat (refine And.intro (by exact Nat.le_of_ble_eq_true rfl) ?_; (conv => whnf))
    refine ⟨_, hk', ⟨by decide, by decide, by omega⟩, fun d1 u1 v1 => ?_⟩
    refine ix_all u1 (by simpa using v1) (fun x hx => .inl (q x fun m => ?_))
    simp only [List.mem_cons, List.not_mem_nil, or_false] at hx
    rcases hx with rfl | rfl | rfl | rfl | rfl | rfl | rfl | rfl | rfl | rfl | rfl | rfl | rfl <;> first
      | exact ⟨fun d => rfl, rfl, rfl⟩
      | exact ⟨fun d => ns_form _ _, rfl, rfl⟩
      | exact ⟨fun d => nice_t (by simp) (by simp only [List.all_cons, List.all_nil, nice_i, ns_1, Bool.and_self]), rfl, rfl⟩
      | (refine ⟨?_, ?_, rfl⟩
         · intro d; simp only [nice, hd]
         · simp only [ty2, tyd, tyOf, hd]; rfl)
  · exact h.elim
theorem str_eq {a b : Str} (h : a.cps = b.cps) : a = b := by cases a; cases b; cases h; rfl
theorem said_go {f m : R} {C : Cs} {Q : Qe} {way : Int} (hw : 0 ≤ way ∧ way < 6) (h1 : ty2 C f = true) (h2 : ty3 C m = true)
    (q0 : rowB 3 (-1000) 1000 f = false → Q (.lst [.str "form", f]) C)
    (q : rowB 3 (-1000) 1000 f = true → ∀ a b c, f = fm a b c → (way < 2 → Q (.lst [.str "told", .int (dsc a b c)]) C) ∧ (4 ≤ way → Q (.lst [.str "told", .int (vl a b c 2 (-3))]) C) ∧
        (2 ≤ way → way < 4 → (matB m = false → Q (.lst [.str "matrix", m]) C) ∧ (matB m = true → ∀ p q r s, m = mt p q r s → Q (.lst [.str "told", cg a b c p q r s]) C))) (ex : Gm → MX) (nx : Gm → Cs → Prop) : m_l_said ex { nx := nx, rt := Q } [some (.int way), some f, some m, none] C := by
  have key : ∀ d : Int, Ln 1000 2 ∧ Ln 1000 (-3) := fun _ => ⟨Ln_mono (Ln_lit (by decide)) (by decide), Ln_mono (Ln_lit (by decide)) (by decide)⟩
  have hF : ∀ Γ1 : Gm, Γ1 = [some (.int way), some f, some m, none] → rowB 3 (-1000) 1000 f = false → ("InvalidForm" ∈ knE ∧ dispM subE ex { nx := nx, rt := Q } [⟨"InvalidForm", 3, fun a d c1 => (mRet (mLst false (mCons (mC (.str "form")) (mCons (mExF a d c1 "given" (mVar 3)) mNil))))⟩, ⟨"InvalidMatrix", 3, fun a d c1 => (mRet (mLst false (mCons (mC (.str "matrix")) (mCons (mExF a d c1 "given" (mVar 3)) mNil))))⟩] Γ1 "InvalidForm" [("given", f)] C) := by
    intro Γ1 e h
    subst e
    refine ⟨by decide, ?_⟩
    show if subE "InvalidForm" "InvalidForm" = true then _ else _
    rw [if_pos (by decide)]
    intro a d
    (conv => whnf)
    refine And.intro ⟨rfl, rfl, rfl⟩ ?_
    show match (List.lookup "given" [("given", f)]) with | some x => _ | none => False
    simp only [List.lookup, BEq.rfl]
    refine And.intro (by exact Nat.le_of_ble_eq_true rfl) (q0 h)
  have hM : ∀ Γ1 : Gm, Γ1 = [some (.int way), some f, some m, none] → 2 ≤ way → way < 4 → rowB 3 (-1000) 1000 f = true → matB m = false → ("InvalidMatrix" ∈ knE ∧ dispM subE ex { nx := nx, rt := Q } [⟨"InvalidForm", 3, fun a d c1 => (mRet (mLst false (mCons (mC (.str "form")) (mCons (mExF a d c1 "given" (mVar 3)) mNil))))⟩, ⟨"InvalidMatrix", 3, fun a d c1 => (mRet (mLst false (mCons (mC (.str "matrix")) (mCons (mExF a d c1 "given" (mVar 3)) mNil))))⟩] Γ1 "InvalidMatrix" [("given", m)] C) := by
    intro Γ1 e w2 w4 h hm
    subst e
    refine ⟨by decide, ?_⟩
    show if subE "InvalidMatrix" "InvalidForm" = true then _ else if subE "InvalidMatrix" "InvalidMatrix" = true then _ else _
    rw [if_neg (by decide), if_pos (by decide)]
    intro a d
    (conv => whnf)
    refine And.intro ⟨rfl, rfl, rfl⟩ ?_
    show match (List.lookup "given" [("given", m)]) with | some x => _ | none => False
    simp only [List.lookup, BEq.rfl]
    obtain ⟨a, b, c, hf, -⟩ := rowB3 h
    refine And.intro (by exact Nat.le_of_ble_eq_true rfl) (((q h a b c hf).2.2 w2 w4).1 hm)
  have d : (way = 0 ∨ way = 1) ∨ (way = 2 ∨ way = 3) ∨ way = 4 ∨ way = 5 := by omega
  rcases d with (rfl | rfl) | (rfl | rfl) | rfl | rfl
  · (conv => whnf)
    refine And.intro h1 (And.intro (fun e a b c hf => And.intro (by exact Nat.le_of_ble_eq_true rfl) ((q e a b c hf).1 (by decide))) fun e => hF _ rfl e)
  · (conv => whnf)
    refine And.intro rfl (And.intro rfl ?_)
    (conv => whnf)
    refine And.intro h1 (And.intro (fun e a b c hf => And.intro (by exact Nat.le_of_ble_eq_true rfl) ((q e a b c hf).1 (by decide))) fun e => hF _ rfl e)
  · (conv => whnf)
    refine And.intro ⟨h1, h2⟩ (And.intro (fun e e2 a b c p q0 r s hf hm => And.intro (by exact Nat.le_of_ble_eq_true rfl) (((q e a b c hf).2.2 (by decide) (by decide)).2 e2 p q0 r s hm)) (And.intro (fun e => hF _ rfl e) fun e e2 => hM _ rfl (by decide) (by decide) e e2))
  · (conv => whnf)
    refine And.intro rfl (And.intro rfl ?_)
    (conv => whnf)
    refine And.intro ⟨h1, h2⟩ (And.intro (fun e e2 a b c p q0 r s hf hm => And.intro (by exact Nat.le_of_ble_eq_true rfl) (((q e a b c hf).2.2 (by decide) (by decide)).2 e2 p q0 r s hm)) (And.intro (fun e => hF _ rfl e) fun e e2 => hM _ rfl (by decide) (by decide) e e2))
  · (conv => whnf)
    refine And.intro (key 0) (And.intro h1 (And.intro (fun e a b c hf => And.intro (by exact Nat.le_of_ble_eq_true rfl) ((q e a b c hf).2.1 (by decide))) fun e => hF _ rfl e))
  · (conv => whnf)
    refine And.intro rfl (And.intro rfl ?_)
    (conv => whnf)
    refine And.intro (key 0) (And.intro h1 (And.intro (fun e a b c hf => And.intro (by exact Nat.le_of_ble_eq_true rfl) ((q e a b c hf).2.1 (by decide))) fun e => hF _ rfl e))
theorem kp_l_said : Keeps 4 m_l_said 3 W_l_said := by
  intro rs C Q E hl h
  unfold W_l_said at h
  split at h
  · rename_i way f m
    obtain ⟨⟨h0, h6, h1, h2⟩, q0, q⟩ := h
    exact said_go ⟨h0, h6⟩ h1 h2 (fun e => .inl (q0 e)) (fun e a b c hf => ⟨fun w => .inl ((q e a b c hf).1 w), fun w => .inl ((q e a b c hf).2.1 w), fun w2 w4 => ⟨fun hm => .inl (((q e a b c hf).2.2 w2 w4).1 hm), fun hm p q0 r s em => .inl (((q e a b c hf).2.2 w2 w4).2 hm p q0 r s em)⟩⟩) _ _
  · exact h.elim
theorem cut1 {α : Type} {xs : List α} {i : Int} {c : α} (a : 0 ≤ i) (b : i < xs.length) (h : atM xs i = some c) : cutM xs (some i) (some (i + 1)) = [c] ∧ c ∈ xs := by
  have hl : i.toNat < xs.length := by omega
  unfold atM ixM at h
  simp only [a, b, if_true, Option.bind_some, List.getElem?_eq_getElem hl, Option.some.injEq] at h
  unfold cutM sIxM
  dsimp only
  rw [if_neg (by omega), if_neg (by omega), show min (i + 1).toNat xs.length = i.toNat + 1 by omega, show min i.toNat xs.length = i.toNat by omega, List.drop_eq_getElem_cons hl, Nat.add_sub_cancel_left, h]
  exact ⟨rfl, h ▸ List.getElem_mem hl⟩
theorem isi_1 : isiM "bool" "bool" = some true := rfl
theorem same_tail {d : Nat} {C : Cs} {n : Nat} {P : Qe} {Γ : Gm} {t : MT} {e : ME} (h : ∀ i : Int, 0 ≤ i → i < n → ∀ K : Bool → Cs → Prop, K false C → t (Γ.set 2 (some (.int i))) C K) (q : P (.bl true) C) :
    compL (gNm 2) t e (fun ys C2 => newL false ys C2 fun x C3 => mLst false mNil Γ C3 fun y C4 => oEq x y C4 P) Γ (upto 0 n) [] C := by
  refine compL_no (fun x hx K hK => ?_) (by decide) ?_
  · obtain ⟨i, rfl, h0, h1⟩ := upto_mem hx
    exact h i h0 (by omega) _ (hK _)
  · (conv => whnf)
    refine And.intro (by exact Nat.le_of_ble_eq_true rfl) ?_
    exact q
theorem len_eq {n : Nat} {C : Cs} {P : Qe} (q : P (.bl true) C) : oEq (.int n) (.int n) C P := by
  show P (.bl ((n : Int) == n)) C
  rw [show ((n : Int) == n) = true from by simp]
  exact q
theorem kp_same0 (d : Nat) : ∀ (x : R) (C : Cs) (P : Qe) (ex : Gm → MX) (nx : Gm → Cs → Prop), nice d C x = true → P (.bl true) C → m_l_same (prevW WSame d) ex { nx := nx, rt := P } [some x, some x, none] C := by
  intro x C P ex nx hn q
  have seq : ∀ xs : List R, seqOf C x = some xs → xs.length ≤ 1000 → xs.all (nice (d - 1) C) = true → 0 < d ∨ xs = [] → (∀ K : Qe, K (.int xs.length) C → fLen [x] C K) →
      (mAndE (mOp oEq (mFn fLen (mCons (mVar 0) mNil)) (mFn fLen (mCons (mVar 1) mNil))) (mOp oEq (mComp false (iRg1 (mCons (mFn fLen (mCons (mVar 1) mNil)) mNil)) (gNm 2) (mNotT (mTru (mCall (prevW WSame d) (fun _ => noX) (mCons (mOp oIx (mVar 0) (mVar 2)) (mCons (mOp oIx (mVar 1) (mVar 2)) mNil))))) (mVar 2) [2]) (mLst false mNil))) [some x, some x, none] C P := by
    intro xs hs hl ha h0 hf
    generalize hE : (mOp oEq (mComp false (iRg1 (mCons (mFn fLen (mCons (mVar 1) mNil)) mNil)) (gNm 2) (mNotT (mTru (mCall (prevW WSame d) (fun _ => noX) (mCons (mOp oIx (mVar 0) (mVar 2)) (mCons (mOp oIx (mVar 1) (mVar 2)) mNil))))) (mVar 2) [2]) (mLst false mNil)) = e2
    simp only [mAndE, mOp, mFn, mCons, mVar, mNil, List.getElem?_cons_zero, List.getElem?_cons_succ]
    refine hf _ ?_
    refine hf _ ?_
    refine len_eq ?_
    simp only [if_true]
    subst hE
    generalize hT : (mNotT (mTru (mCall (prevW WSame d) (fun _ => noX) (mCons (mOp oIx (mVar 0) (mVar 2)) (mCons (mOp oIx (mVar 1) (mVar 2)) mNil))))) = tt
    simp only [mOp, mComp, iRg1, mFn, mCons, mVar, mNil, wipeM, List.set_cons_zero, List.set_cons_succ, List.getElem?_cons_zero, List.getElem?_cons_succ]
    refine hf _ ?_
    refine And.intro (by omega) ?_
    subst hT
    rw [show ((xs.length : Int)).toNat = xs.length from rfl]
    refine same_tail (d := d) (Γ := [some x, some x, none]) (fun i i0 i1 K hK => ?_) q
    obtain ⟨r, hr, hm⟩ := at_of i0 i1
    have ix : ∀ K : Qe, K r C → oIx x (.int i) C K := fun K k => by
      cases x with
      | str z => cases hs
      | _ => simp only [oIx, hs, hr]; exact k
    simp only [mNotT, mTru, mCall, mOp, mCons, mVar, mNil, List.set_cons_zero, List.set_cons_succ, List.getElem?_cons_zero, List.getElem?_cons_succ]
    refine ix _ ?_
    refine ix _ ?_
    cases d with
    | zero => rcases h0 with h0 | h0
              · omega
              · subst h0; cases hm
    | succ d => exact ⟨⟨rfl, List.all_eq_true.mp ha r hm⟩, hK⟩
  cases x with
  | non => (conv => whnf); exact q
  | bl b => cases b <;> ((conv => whnf); exact q)
  | int i =>
    (conv => whnf)
    have e : (i - i == 0) = true := by simp
    first
      | (rw [e]; exact q)
      | (simp only [e]; exact q)
      | (rw [Int.sub_self]; exact q)
  | str z =>
    have hz : z.length ≤ 1000 ∧ (z.cps.all fun c => decide (c < 0x110000)) = true := by
      cases d <;> simpa [nice] using hn
    (conv => whnf)
    refine And.intro (by omega) (And.intro (by omega) ?_)
    refine len_eq ?_
    (conv => whnf)
    refine And.intro (by omega) ⟨by omega, ?_⟩
    rw [show ((z.length : Int)).toNat = z.length from rfl]
    refine same_tail (d := d) (Γ := [some (.str z), some (.str z), none]) (fun i i0 i1 K hK => ?_) q
    have hl : i < z.cps.toList.length := by rw [Array.length_toList]; exact i1
    obtain ⟨c, hc, hm⟩ := at_of i0 hl
    obtain ⟨e1, -⟩ := cut1 i0 hl hc
    refine And.intro (by omega) ?_
    rw [e1]
    show match atM z.cps.toList i with | some c => _ | none => False
    rw [hc]
    refine And.intro (by omega) ?_
    have ok : (((⟨#[c]⟩ : Str).cps.all fun c => decide (c < 0x110000))) = true := by
      have := Array.all_eq_true'.mp hz.2 c (by simpa using hm)
      simpa using this
    simp only [oNe, resN, ok, if_true, List.toArray_singleton] 
    simpa [eqR] using hK
  | tup xs =>
    cases d with
    | zero => cases hn
    | succ d =>
      simp only [nice, Bool.and_eq_true, decide_eq_true_eq] at hn
      exact seq xs rfl hn.1 hn.2 (.inl (by omega)) fun K k => k
  | lst xs =>
    cases d with
    | zero => cases hn
    | succ d =>
      simp only [nice, Bool.and_eq_true, decide_eq_true_eq] at hn
      exact seq xs rfl hn.1 hn.2 (.inl (by omega)) fun K k => k
  | cell k =>
    have hk : C[k]? = some (.dct []) := by
      have : (match C[k]? with | some (.dct []) => true | _ => false) = true := by cases d <;> exact hn
      split at this
      · assumption
      · cases this
    have ty : tyOf C (.cell k) = some "dict" := by simp only [tyOf, hk]
    have si : ∀ (c : String) (Γ : Gm) (K : Qe) (j : Nat), Γ[j]? = some (some (.cell k)) → ("dict" = c ∨ ("dict" = "bool" ∧ c = "int") → False) → K (.bl false) C → mFn (fIsi c) (mCons (mVar j) mNil) Γ C K := by
      intro c Γ K j e hc hK
      have ic : isiM "dict" c = some false := by
        unfold isiM
        rw [if_neg (fun h => hc (.inl h)), if_neg (fun h => hc (.inr h))]
      simp only [mFn, mCons, mVar, mNil, e, fIsi, ty, ic]
      exact hK
    have ln : ∀ K : Qe, K (.int 0) C → fLen [.cell k] C K := fun K hK => by
      simp only [fLen, hk]
      exact hK
    simp only [m_l_same, mSeq, mIfS, mOrT]
    have t0 : ∀ K : Bool → Cs → Prop, K false C → mVal (mOp oIsN (mVar 1) (mC .non)) [some (.cell k), some (.cell k), none] C K := fun K hK => hK
    refine t0 _ ?_
    simp only [Bool.false_eq_true, if_false, mTru]
    refine si _ _ _ _ rfl (by decide) ?_
    simp only [Bool.false_eq_true, if_false, mNext, mSeq, mIfS, mTru]
    refine si _ _ _ _ rfl (by decide) ?_
    simp only [Bool.false_eq_true, if_false, mNext, mSeq, mIfS, mTru]
    refine si _ _ _ _ rfl (by decide) ?_
    simp only [Bool.false_eq_true, if_false, mNext, mSeq, mIfS, mTru, mOrT, mVal, mOp]
    refine si _ _ _ _ rfl (by decide) ?_
    refine si _ _ _ _ rfl (by decide) ?_
    simp only [oNe, resN, eqR, BEq.rfl, Bool.not_true, Bool.false_eq_true, if_false]
    refine si _ _ _ _ rfl (by decide) ?_
    refine si _ _ _ _ rfl (by decide) ?_
    simp only [oNe, resN, eqR, BEq.rfl, Bool.not_true, Bool.false_eq_true, if_false, mNext, mSeq, mIfS, mRet]
    generalize hE : (mComp false _ _ _ _ _) = e2
    simp only [mAndE, mOp, mFn, mCons, mVar, mNil, List.getElem?_cons_zero, List.getElem?_cons_succ]
    refine ln _ ?_
    refine ln _ ?_
    refine len_eq (n := 0) ?_
    simp only [if_true]
    subst hE
    simp only [mComp, iRg1, mFn, mCons, mVar, mNil, wipeM, List.set_cons_zero, List.set_cons_succ, List.getElem?_cons_zero, List.getElem?_cons_succ]
    refine ln _ ?_
    refine And.intro (by omega) ?_
    refine And.intro (by exact Nat.le_of_ble_eq_true rfl) ?_
    exact q
  | _ => cases d <;> cases hn
theorem kp_same (d : Nat) : Keeps 3 (m_l_same (prevW WSame d)) 2 (WSame d) := by
  intro rs C Q E hl h
  unfold WSame at h
  split at h
  · rename_i x y
    obtain ⟨⟨rfl, hn⟩, q⟩ := h
    exact kp_same0 d y C _ _ _ hn (.inl q)
  · exact h.elim
theorem forL_inv {g : MG} {b : MS} {D : MEnds} (I : Nat → Gm → Cs → Prop) : ∀ (xs : List R) (j : Nat) (Γ : Gm) (C : Cs), I j Γ C →
    (∀ x, x ∈ xs → ∀ (i : Nat) (Γ : Gm) (C : Cs), i < j + xs.length → I i Γ C → ∀ K : Gm → Cs → Prop, (∀ Γ' C', I (i + 1) Γ' C' → K Γ' C') → g x Γ C fun Γ1 C1 => b { D with nx := K, ct := K, bk := D.nx } Γ1 C1) →
    (∀ Γ C, I (j + xs.length) Γ C → D.nx Γ C) → forL g b D xs Γ C
  | [], j, Γ, C, i, _, f => f Γ C i
  | x :: xs, j, Γ, C, i, h, f => h x (List.mem_cons_self ..) j Γ C (by simp) i _ (fun Γ' C' i' => forL_inv I xs (j + 1) Γ' C' i' (fun y hy m Γ C hm => h y (List.mem_cons_of_mem _ hy) m Γ C (by rw [List.length_cons]; omega)) (fun Γ C i => f Γ C (by rw [List.length_cons]; rw [show j + (xs.length + 1) = j + 1 + xs.length by omega]; exact i)))
theorem vl_tr (a b c p q r s x y : Int) : vl (vl a b c p r) (vl a b c (p + q) (r + s) - vl a b c p r - vl a b c q s) (vl a b c q s) x y = vl a b c (p * x + q * y) (r * x + s * y) := by
  unfold vl; grind
theorem dsc_tr (a b c p q r s : Int) : dsc (vl a b c p r) (vl a b c (p + q) (r + s) - vl a b c p r - vl a b c q s) (vl a b c q s) = dsc a b c * (p * s - q * r) * (p * s - q * r) := by
  unfold vl dsc; grind
theorem cg_tr (a b c p q r s a' b' c' d' : Int) : cg (vl a b c p r) (vl a b c (p + q) (r + s) - vl a b c p r - vl a b c q s) (vl a b c q s) a' b' c' d' = cg a b c (p * a' + q * c') (p * b' + q * d') (r * a' + s * c') (r * b' + s * d') := by
  unfold cg
  rw [vl_tr, vl_tr, vl_tr]
  rw [show p * (a' + b') + q * (c' + d') = p * a' + q * c' + (p * b' + q * d') by grind, show r * (a' + b') + s * (c' + d') = r * a' + s * c' + (r * b' + s * d') by grind]
theorem fB {a b c : Int} (h1 : Le1 1000 a) (h2 : Le1 1000 b) (h3 : Le1 1000 c) : rowB 3 (-1000) 1000 (fm a b c) = true := by
  unfold Le1 at *
  simp [rowB, btw]
  omega
theorem mB {p q r s : Int} (h1 : Le1 1000 p) (h2 : Le1 1000 q) (h3 : Le1 1000 r) (h4 : Le1 1000 s) : matB (mt p q r s) = true := by
  unfold Le1 at *
  simp [matB, rowB, btw]
  omega
theorem ty2_fm {C : Cs} {a b c : Int} : ty2 C (fm a b c) = true := rfl
theorem ty3_mt {C : Cs} {p q r s : Int} : ty3 C (mt p q r s) = true := rfl
theorem ln27 {x : Int} (h : Le1 27 x) : Ln 300 x := Ln_mono (Ln_le (n := 20) h (by decide)) (by decide)
theorem ln20 {x : Int} (h : Le1 1000 x) : Ln 20 x := Ln_le h (by decide)
theorem nice_told {d : Nat} {C : Cs} {x : R} (h : nice (d + 1) C x = true) (s : Str) (hs : ∀ (d : Nat) (C : Cs), nice d C (.str s) = true) : nice (d + 2) C (.lst [.str s, x]) = true := nice_l (by simp) (by simp only [List.all_cons, List.all_nil, hs, h, Bool.and_self])
def oddL (p : Nat) : List R := [.non, .int 0, .tup [.tup [.int 1, .int 0]], .tup [.tup [.int 1, .int 0], .tup [.int 0, .int 1], .tup [.int 0, .int 0]], .lst [.tup [.int 1, .int 0], .tup [.int 0, .int 1]],
  .tup [.lst [.int 1, .int 0], .tup [.int 0, .int 1]], .tup [.tup [.int 1, .int 0], .tup [.int 0]], .tup [.tup [.int 1001, .int 0], .tup [.int 0, .int 1]], .tup [.tup [.bl true, .int 0], .tup [.int 0, .int 1]],
  .tup [.tup [.int 1, .int 0], .tup [.int 0, .non]], .str "1001", .cell p]
theorem oddM {C : Cs} {p : Nat} {x : R} (h : C[p]? = some (.dct [])) (hx : x ∈ oddL p) : (∀ d, nice (d + 5) C x = true) ∧ ty3 C x = true ∧ matB x = false := by
  simp only [oddL, List.mem_cons, List.not_mem_nil, or_false] at hx
  rcases hx with rfl | rfl | rfl | rfl | rfl | rfl | rfl | rfl | rfl | rfl | rfl | rfl <;> first
      | exact ⟨fun d => rfl, rfl, rfl⟩
      | exact ⟨fun d => ns_1001 _ _, rfl, rfl⟩
      | (refine ⟨?_, ?_, rfl⟩
         · intro d; simp only [nice, h]
         · simp only [ty3, tyd, tyOf, h]; rfl)
theorem ok_set {n : Nat} {m : Nat} : ∀ {C : Cs} {k : Nat}, okC n C → okC n (C.set k (.box m))
  | [], _, h => h
  | c :: C, 0, h => by cases c <;> simp only [okC, List.set_cons_zero] at h ⊢ <;> first | exact h.2 | exact h
  | c :: C, k + 1, h => by
    cases c <;> simp only [okC, List.set_cons_succ] at h ⊢ <;> first | exact ⟨h.1, ok_set h.2⟩ | exact ok_set h
theorem grow {C C' : Cs} {k n m : Nat} (hlt : k < C.length) (h1 : C'.take C.length = C.set k (.box n)) (h2 : C'[C.length]? = some (.dct [])) :
    C'[k]? = some (.box n) ∧ (C' ++ [Ct.dct []])[k]? = some (.box n) ∧ ((C' ++ [Ct.dct []]).set k (.box m)).take C.length = C.set k (.box m) ∧ ((C' ++ [Ct.dct []]).set k (.box m))[C.length]? = some (.dct []) := by
  have hl : C.length < C'.length := (List.getElem?_eq_some_iff.mp h2).1
  have a : C'[k]? = some (.box n) := by
    have : (C'.take C.length)[k]? = some (.box n) := by rw [h1, List.getElem?_set_self hlt]
    rwa [List.getElem?_take_of_lt hlt] at this
  refine ⟨a, by rw [List.getElem?_append_left (by omega)]; exact a, ?_, ?_⟩
  · rw [List.take_set, List.take_append_of_le_length (by omega), h1, List.set_set]
  · rw [List.getElem?_set_ne (by omega), List.getElem?_append_left hl]; exact h2
theorem kp_l_right : Keeps 16 m_l_right 1 W_l_right := by
  intro rs C Q E hl h
  unfold W_l_right at h
  split at h
  · rename_i k
    obtain ⟨⟨hk, hc⟩, q⟩ := h
    have hlt := (List.getElem?_eq_some_iff.mp hk).1
    (conv => whnf)
    refine ⟨_, hk, by decide, fun n1 hn1 a b c ga gb gc => ?_⟩
    have hk1 := get_set (b := Ct.box n1) hk
    (conv => whnf)
    refine ⟨_, hk1, by omega, fun n2 hn2 p q0 r s gp gq gr gs => ?_⟩
    have hk2 := get_set (b := Ct.box n2) hk
    simp only [set_set]
    (conv => whnf)
    refine And.intro (by exact Nat.le_of_ble_eq_true rfl) ?_
    (conv => whnf)
    refine And.intro rfl ?_
    have la := ln20 ga
    have lb := ln20 gb
    have lc := ln20 gc
    have lp := ln20 gp
    have lq := ln20 gq
    have lr := ln20 gr
    have ls := ln20 gs
    have l3 : ∀ {x : Int}, Le1 1000 x → Ln 300 x := fun h => Ln_mono (ln20 h) (by decide)
    have l10 : ∀ {x : Int}, Le1 1000 x → Ln 1000 x := fun h => Ln_mono (ln20 h) (by decide)
    (conv => whnf)
    refine And.intro ⟨⟨l3 ga, l3 gb, l3 gc⟩, l3 gp, l3 gq, l3 gr, l3 gs⟩ ?_
    have f1 := fB ga gb gc
    have m1 := mB gp gq gr gs
    -- the six ways
    have saidK : ∀ (w : Int) (C : Cs) (m : R) (K : Qe) (E : MX), 0 ≤ w → w < 6 → ty3 C m = true → (w < 2 → K (.lst [.str "told", .int (dsc a b c)]) C) → (4 ≤ w → K (.lst [.str "told", .int (vl a b c 2 (-3))]) C) →
        (2 ≤ w → w < 4 → (matB m = false → K (.lst [.str "matrix", m]) C) ∧ (matB m = true → ∀ p q r s, m = mt p q r s → K (.lst [.str "told", cg a b c p q r s]) C)) → W_l_said [.int w, fm a b c, m] C K E := by
      intro w C m K E h0 h6 hm k1 k2 k3
      refine ⟨⟨h0, h6, rfl, hm⟩, fun e => ?_, fun _ a' b' c' e => ?_⟩
      · rw [f1] at e; cases e
      · cases e
        exact ⟨k1, k2, k3⟩
    (conv => whnf)
    refine And.intro ⟨by decide, by decide⟩ ?_
    refine forL_inv (fun _ Γ C' => C' = C.set k (.box n2) ∧ ∃ x2 x8, Γ = [some (.cell k), some (cg a b c p q0 r s), x2, none, none, none, some (fm a b c), some (mt p q0 r s), x8, none, none, none, none, none, none, none]) _ 0 _ _ ⟨rfl, _, _, rfl⟩ ?_ ?_
    · rintro x hx j _ _ - ⟨rfl, x2, x8, rfl⟩ K hK
      obtain ⟨w, rfl, w0, w6⟩ := upto_mem hx
      have w6 : w < 6 := by simpa using w6
      (conv => whnf)
      refine And.intro ⟨l10 ga, l10 gb, l10 gc⟩ ?_
      (conv => whnf)
      refine And.intro ⟨⟨l10 ga, l10 gb, l10 gc⟩, Ln_mono (Ln_lit (by decide)) (by decide), Ln_mono (Ln_lit (by decide)) (by decide)⟩ ?_
      (conv => whnf)
      refine And.intro (by exact Nat.le_of_ble_eq_true rfl) ?_
      (conv => whnf)
      refine And.intro ⟨by decide, by unfold Sd; exact Nat.lt_of_lt_of_le (by decide : _ < 2 ^ 20) (Nat.pow_le_pow_right (by decide) (by decide))⟩ ?_
      have d : (w = 0 ∨ w = 1) ∨ (w = 2 ∨ w = 3) ∨ w = 4 ∨ w = 5 := by omega
      have fin : ∀ t : R, nice 12 (C.set k (.box n2)) t = true → (R.lst [.str "told", t] = .lst [.str "told", t] ∧ nice 13 (C.set k (.box n2)) (.lst [.str "told", t]) = true) := fun t ht => ⟨rfl, nice_told (d := 11) ht "told" ns_told⟩
      rcases d with (rfl | rfl) | (rfl | rfl) | rfl | rfl <;> (conv => whnf) <;>
        refine And.intro ⟨by decide, by decide, rfl, rfl⟩ (And.intro (fun e => Bool.noConfusion (f1.symm.trans e)) (fun _ a' b' c' e => ?_)) <;> cases e
      iterate 2
        · refine And.intro (fun _ => ?_) (And.intro (fun h => absurd h (by decide)) (fun h => absurd h (by decide)))
          refine And.intro (by exact Nat.le_of_ble_eq_true rfl) ?_
          (conv => whnf)
          refine And.intro (fin _ nice_i) ?_
          (conv => whnf)
          exact hK _ _ ⟨rfl, _, _, rfl⟩
      iterate 2
        · refine And.intro (fun h => absurd h (by decide)) (And.intro (fun h => absurd h (by decide)) (fun _ _ => And.intro (fun e => Bool.noConfusion (m1.symm.trans e)) fun _ p' q' r' s' e => ?_))
          cases e
          refine And.intro (by exact Nat.le_of_ble_eq_true rfl) ?_
          (conv => whnf)
          refine And.intro (fin _ nice_fm) ?_
          (conv => whnf)
          exact hK _ _ ⟨rfl, _, _, rfl⟩
      iterate 2
        · refine And.intro (fun h => absurd h (by decide)) (And.intro (fun _ => ?_) (fun _ h => absurd h (by decide)))
          refine And.intro (by exact Nat.le_of_ble_eq_true rfl) ?_
          (conv => whnf)
          refine And.intro (fin _ nice_i) ?_
          (conv => whnf)
          exact hK _ _ ⟨rfl, _, _, rfl⟩
    · rintro _ _ ⟨rfl, x2, x8, rfl⟩
      (conv => whnf)
      refine And.intro ⟨by decide, by decide⟩ ?_
      refine forL_inv (fun j Γ C' => ∃ n y2 x3 y8 x9 x12 x13, n ≤ n2 + 2 * j ∧ C' = C.set k (.box n) ∧ Γ = [some (.cell k), some (cg a b c p q0 r s), y2, x3, none, none, some (fm a b c), some (mt p q0 r s), y8, x9, none, none, x12, x13, none, none]) _ 0 _ _ ⟨n2, _, _, _, _, _, _, by omega, rfl, rfl⟩ ?_ ?_
      · rintro x0 hx0 j _ _ hj ⟨n, y2, x3, y8, x9, x12, x13, hn, rfl, rfl⟩ K hK
        obtain ⟨w, rfl, w0, w6⟩ := upto_mem hx0
        have hj : j < 4 := hj
        (conv => whnf)
        refine ⟨_, get_set hk, ⟨by decide, by decide, by omega⟩, fun d1 u1 v1 => ?_⟩
        simp only [set_set]
        (conv => whnf)
        refine ⟨_, get_set hk, ⟨by decide, by decide, by omega⟩, fun d2 u2 v2 => ?_⟩
        simp only [set_set]
        obtain ⟨x, ex, lx⟩ : ∃ x : Int, d1 - 20 = x ∧ Ln 20 x := ⟨_, rfl, by unfold Ln; omega⟩
        obtain ⟨y, ey, ly⟩ : ∃ x : Int, d2 - 1000 = x ∧ Ln 20 x := ⟨_, rfl, by unfold Ln; omega⟩
        (conv => whnf)
        rw [ex, ey]
        iterate 4 (refine And.intro ⟨by (apply Sz_of; (focus (repeat (first | assumption | with_reducible apply Ln_mul | with_reducible apply Ln_add | with_reducible apply Ln_sub | with_reducible apply Ln_neg | (exact Ln_lit (by decide))))); decide), by (apply Sz_of; (focus (repeat (first | assumption | with_reducible apply Ln_mul | with_reducible apply Ln_add | with_reducible apply Ln_sub | with_reducible apply Ln_neg | (exact Ln_lit (by decide))))); decide)⟩ ?_; (conv => whnf))
        refine And.intro (by exact Nat.le_of_ble_eq_true rfl) ?_
        (conv => whnf)
        refine And.intro ⟨by (apply Ln_mono; (focus (repeat (first | assumption | with_reducible apply Ln_mul | with_reducible apply Ln_add | with_reducible apply Ln_sub | with_reducible apply Ln_neg | (exact Ln_lit (by decide))))); decide), by (apply Ln_mono; (focus (repeat (first | assumption | with_reducible apply Ln_mul | with_reducible apply Ln_add | with_reducible apply Ln_sub | with_reducible apply Ln_neg | (exact Ln_lit (by decide))))); decide)⟩ (And.intro rfl (And.intro (fun _ a' b' c' e => ?_) (fun e => Bool.noConfusion (f1.symm.trans e))))
        cases e
        (conv => whnf)
        refine And.intro ⟨⟨by (apply Ln_mono; (focus (repeat (first | assumption | with_reducible apply Ln_mul | with_reducible apply Ln_add | with_reducible apply Ln_sub | with_reducible apply Ln_neg | (exact Ln_lit (by decide))))); decide), by (apply Ln_mono; (focus (repeat (first | assumption | with_reducible apply Ln_mul | with_reducible apply Ln_add | with_reducible apply Ln_sub | with_reducible apply Ln_neg | (exact Ln_lit (by decide))))); decide), by (apply Ln_mono; (focus (repeat (first | assumption | with_reducible apply Ln_mul | with_reducible apply Ln_add | with_reducible apply Ln_sub | with_reducible apply Ln_neg | (exact Ln_lit (by decide))))); decide)⟩, by (apply Ln_mono; (focus (repeat (first | assumption | with_reducible apply Ln_mul | with_reducible apply Ln_add | with_reducible apply Ln_sub | with_reducible apply Ln_neg | (exact Ln_lit (by decide))))); decide), by (apply Ln_mono; (focus (repeat (first | assumption | with_reducible apply Ln_mul | with_reducible apply Ln_add | with_reducible apply Ln_sub | with_reducible apply Ln_neg | (exact Ln_lit (by decide))))); decide)⟩ ?_
        (conv => whnf)
        refine And.intro ⟨rfl, nice_i⟩ ?_
        (conv => whnf)
        refine And.intro ⟨⟨by unfold vl; (apply Ln_mono; (focus (repeat (first | assumption | with_reducible apply Ln_mul | with_reducible apply Ln_add | with_reducible apply Ln_sub | with_reducible apply Ln_neg | (exact Ln_lit (by decide))))); decide), by unfold vl; (apply Ln_mono; (focus (repeat (first | assumption | with_reducible apply Ln_mul | with_reducible apply Ln_add | with_reducible apply Ln_sub | with_reducible apply Ln_neg | (exact Ln_lit (by decide))))); decide), by unfold vl; (apply Ln_mono; (focus (repeat (first | assumption | with_reducible apply Ln_mul | with_reducible apply Ln_add | with_reducible apply Ln_sub | with_reducible apply Ln_neg | (exact Ln_lit (by decide))))); decide)⟩, by (apply Ln_mono; (focus (repeat (first | assumption | with_reducible apply Ln_mul | with_reducible apply Ln_add | with_reducible apply Ln_sub | with_reducible apply Ln_neg | (exact Ln_lit (by decide))))); decide), by (apply Ln_mono; (focus (repeat (first | assumption | with_reducible apply Ln_mul | with_reducible apply Ln_add | with_reducible apply Ln_sub | with_reducible apply Ln_neg | (exact Ln_lit (by decide))))); decide)⟩ ?_
        (conv => whnf)
        refine And.intro ⟨⟨by (apply Ln_mono; (focus (repeat (first | assumption | with_reducible apply Ln_mul | with_reducible apply Ln_add | with_reducible apply Ln_sub | with_reducible apply Ln_neg | (exact Ln_lit (by decide))))); decide), by (apply Ln_mono; (focus (repeat (first | assumption | with_reducible apply Ln_mul | with_reducible apply Ln_add | with_reducible apply Ln_sub | with_reducible apply Ln_neg | (exact Ln_lit (by decide))))); decide), by (apply Ln_mono; (focus (repeat (first | assumption | with_reducible apply Ln_mul | with_reducible apply Ln_add | with_reducible apply Ln_sub | with_reducible apply Ln_neg | (exact Ln_lit (by decide))))); decide)⟩, by (apply Ln_mono; (focus (repeat (first | assumption | with_reducible apply Ln_mul | with_reducible apply Ln_add | with_reducible apply Ln_sub | with_reducible apply Ln_neg | (exact Ln_lit (by decide))))); decide), by (apply Ln_mono; (focus (repeat (first | assumption | with_reducible apply Ln_mul | with_reducible apply Ln_add | with_reducible apply Ln_sub | with_reducible apply Ln_neg | (exact Ln_lit (by decide))))); decide)⟩ ?_
        have eq := vl_tr a b c p q0 r s x y
        show if (!(_ == vl a b c (p * x + q0 * y) (r * x + s * y))) = true then _ else _
        rw [eq, BEq.rfl]
        (conv => whnf)
        exact hK _ _ ⟨n + 1 + 1, _, _, _, _, _, _, by omega, rfl, rfl⟩
      · rintro _ _ ⟨n, y2, x3, y8, x9, x12, x13, hn, rfl, rfl⟩
        have hn : n ≤ n2 + 8 := hn
        have hk3 := get_set (b := Ct.box n) hk
        have far : ∀ (n' : Nat) (Γ10 Γ11 : Option R), n' ≤ n2 + 20 → ∀ (D : MEnds), (∀ Γ (C' : Cs), C'.take C.length = C.set k (.box n') ∨ True → D.nx Γ C') → True := fun _ _ _ _ _ _ => trivial
        (conv => whnf)
        iterate 2 (refine And.intro ⟨by (apply Sz_of; (focus (repeat (first | assumption | with_reducible apply Ln_mul | with_reducible apply Ln_add | with_reducible apply Ln_sub | with_reducible apply Ln_neg | (exact Ln_lit (by decide))))); decide), by (apply Sz_of; (focus (repeat (first | assumption | with_reducible apply Ln_mul | with_reducible apply Ln_add | with_reducible apply Ln_sub | with_reducible apply Ln_neg | (exact Ln_lit (by decide))))); decide)⟩ ?_; (conv => whnf))
        -- the odd ways
        have odds : ∀ (n' : Nat) (y10 y11 : Option R), n' ≤ n2 + 30 → (mSeq (mAsg (mLst false (mCons (mC .non) (mCons (mC (.int 0)) (mCons (mTup (mCons (mTup (mCons (mC (.int 1)) (mCons (mC (.int 0)) mNil))) mNil)) (mCons (mTup (mCons (mTup (mCons (mC (.int 1)) (mCons (mC (.int 0)) mNil))) (mCons (mTup (mCons (mC (.int 0)) (mCons (mC (.int 1)) mNil))) (mCons (mTup (mCons (mC (.int 0)) (mCons (mC (.int 0)) mNil))) mNil)))) (mCons (mLst false (mCons (mTup (mCons (mC (.int 1)) (mCons (mC (.int 0)) mNil))) (mCons (mTup (mCons (mC (.int 0)) (mCons (mC (.int 1)) mNil))) mNil))) (mCons (mTup (mCons (mLst false (mCons (mC (.int 1)) (mCons (mC (.int 0)) mNil))) (mCons (mTup (mCons (mC (.int 0)) (mCons (mC (.int 1)) mNil))) mNil))) (mCons (mTup (mCons (mTup (mCons (mC (.int 1)) (mCons (mC (.int 0)) mNil))) (mCons (mTup (mCons (mC (.int 0)) mNil)) mNil))) (mCons (mTup (mCons (mTup (mCons (mC (.int 1001)) (mCons (mC (.int 0)) mNil))) (mCons (mTup (mCons (mC (.int 0)) (mCons (mC (.int 1)) mNil))) mNil))) (mCons (mTup (mCons (mTup (mCons (mC (.bl true)) (mCons (mC (.int 0)) mNil))) (mCons (mTup (mCons (mC (.int 0)) (mCons (mC (.int 1)) mNil))) mNil))) (mCons (mTup (mCons (mTup (mCons (mC (.int 1)) (mCons (mC (.int 0)) mNil))) (mCons (mTup (mCons (mC (.int 0)) (mCons (mC .non) mNil))) mNil))) (mCons (mC (.str "1001")) (mCons mDct0 mNil))))))))))))) (gNm 5))
  (mSeq (mFor (iRg1 (mCons (mC (.int 3)) mNil)) (gNm 3) (mSeq (mAsg (mTup (mCons (mCall W_l_odd_form (fun _ => endX C.length E) (mCons (mVar 0) mNil)) (mCons (mOp oIx (mVar 5) (mCall W_l_take (fun _ => endX C.length E) (mCons (mVar 0) (mCons (mC (.int 12)) mNil)))) mNil))) (gSq 2 (gCn (gNm 14) (gCn (gNm 15) gNl))))
  (mSeq (mFor (iRg1 (mCons (mC (.int 6)) mNil)) (gNm 2) (mIfS (mNotT (mTru (mCall W_l_same (fun _ => endX C.length E) (mCons (mCall W_l_said (fun _ => endX C.length E) (mCons (mVar 2) (mCons (mVar 14) (mCons (mVar 15) mNil)))) (mCons (mLst false (mCons (mC (.str "form")) (mCons (mVar 14) mNil))) mNil))))) (mRet (mC (.bl false))) mNext))
  (mIfS (mNotT (mTru (mCall W_l_same (fun _ => endX C.length E) (mCons (mComp false (iSeqL (mLst false (mCons (mC (.int 2)) (mCons (mC (.int 3)) mNil)))) (gNm 2) mYes (mCall W_l_said (fun _ => noX) (mCons (mVar 2) (mCons (mVar 6) (mCons (mVar 15) mNil)))) [2]) (mCons (mOp (oTimes false) (mLst false (mCons (mLst false (mCons (mC (.str "matrix")) (mCons (mVar 15) mNil))) mNil)) (mC (.int 2))) mNil))))) (mRet (mC (.bl false))) mNext))))
  (mRet (mC (.bl true))))) { nx := fun _ C' => endD C.length Q .non C', rt := endD C.length Q } [some (.cell k), some (cg a b c p q0 r s), y2, x3, some (.int (p * s - q0 * r)), none, some (fm a b c), some (mt p q0 r s), y8, x9, y10, y11, x12, x13, none, none] (C.set k (.box n')) := by
          intro n' y10 y11 hn'
          (conv => whnf)
          repeat (refine And.intro (by exact Nat.le_of_ble_eq_true rfl) ?_; (conv => whnf))
          refine And.intro ⟨by decide, by decide⟩ ?_
          rw [show (C.set k (Ct.box n')).length = C.length from List.length_set ..]
          refine forL_inv (fun j Γ C' => ∃ m z2 z3 z14 z15, m ≤ n2 + 30 + 2 * j ∧ C'.take C.length = C.set k (.box m) ∧ C'[C.length]? = some (.dct []) ∧ Γ = [some (.cell k), some (cg a b c p q0 r s), z2, z3, some (.int (p * s - q0 * r)), some (.lst (oddL C.length)), some (fm a b c), some (mt p q0 r s), y8, x9, y10, y11, x12, x13, z14, z15]) _ 0 _ _ ⟨n', _, _, _, _, by omega, ?_, ?_, rfl⟩ ?_ ?_
          · rw [List.take_append_of_le_length (by simp), List.take_of_length_le (by simp)]
          · rw [List.getElem?_append_right (by simp)]; simp
          · rintro x0 hx0 j _ C' hj ⟨m, z2, z3, z14, z15, hm, t1, t2, rfl⟩ K hK
            have hj : j < 3 := hj
            obtain ⟨w, rfl, -⟩ := upto_mem hx0
            obtain ⟨g1, g2, -, -⟩ := grow (m := 0) hlt t1 t2
            obtain ⟨-, -, g3, g4⟩ := grow (m := m + 1 + 1) hlt t1 t2
            (conv => whnf)
            refine ⟨_, g1, by omega, fun wrong hwr => ?_⟩
            (conv => whnf)
            refine ⟨_, get_set g2, ⟨by decide, by decide, by omega⟩, fun d u v => ?_⟩
            simp only [set_set]
            refine ix_all u (by simpa [oddL] using v) (fun worse hwo => ?_)
            have hwr := hwr (m + 1 + 1)
            have hwo := oddM g4 hwo
            generalize (C' ++ [Ct.dct []]).set k (.box (m + 1 + 1)) = D1 at hwr hwo g3 g4 ⊢
            (conv => whnf)
            refine And.intro (by exact Nat.le_of_ble_eq_true rfl) ?_
            (conv => whnf)
            refine And.intro rfl ?_
            (conv => whnf)
            refine And.intro ⟨by decide, by decide⟩ ?_
            refine forL_inv (fun _ Γ C2 => C2 = D1 ∧ ∃ y2, Γ = [some (.cell k), some (cg a b c p q0 r s), y2, some (.int w), some (.int (p * s - q0 * r)), some (.lst (oddL C.length)), some (fm a b c), some (mt p q0 r s), y8, x9, y10, y11, x12, x13, some wrong, some worse]) _ 0 _ _ ⟨rfl, _, rfl⟩ ?_ ?_
            · rintro x1 hx1 j1 _ _ - ⟨rfl, y2, rfl⟩ K1 hK1
              obtain ⟨w1, rfl, w0, w6⟩ := upto_mem hx1
              have w6 : w1 < 6 := by simpa using w6
              (conv => whnf)
              refine And.intro ⟨w0, w6, hwr.2.1, hwo.2.1⟩ (And.intro (fun _ => ?_) (fun e => Bool.noConfusion (hwr.2.2.symm.trans e)))
              (conv => whnf)
              refine And.intro (by exact Nat.le_of_ble_eq_true rfl) ?_
              (conv => whnf)
              refine And.intro ⟨rfl, nice_told (d := 11) (hwr.1 7) "form" ns_form⟩ ?_
              (conv => whnf)
              exact hK1 _ _ ⟨rfl, _, rfl⟩
            · rintro _ _ ⟨rfl, y2, rfl⟩
              (conv => whnf)
              refine And.intro (by exact Nat.le_of_ble_eq_true rfl) ?_
              (conv => whnf)
              refine And.intro (by exact Nat.le_of_ble_eq_true rfl) ?_
              (conv => whnf)
              refine And.intro ⟨by decide, by decide, rfl, hwo.2.1⟩ (And.intro (fun e => Bool.noConfusion (f1.symm.trans e)) (fun _ a' b' c' e => And.intro (fun h => absurd h (by decide)) (And.intro (fun h => absurd h (by decide)) fun _ _ => And.intro (fun _ => ?_) (fun e => Bool.noConfusion (hwo.2.2.symm.trans e)))))
              (conv => whnf)
              refine And.intro (by exact Nat.le_of_ble_eq_true rfl) ?_
              (conv => whnf)
              refine And.intro ⟨by decide, by decide, rfl, hwo.2.1⟩ (And.intro (fun e => Bool.noConfusion (f1.symm.trans e)) (fun _ a' b' c' e => And.intro (fun h => absurd h (by decide)) (And.intro (fun h => absurd h (by decide)) fun _ _ => And.intro (fun _ => ?_) (fun e => Bool.noConfusion (hwo.2.2.symm.trans e)))))
              (conv => whnf)
              refine And.intro (by exact Nat.le_of_ble_eq_true rfl) ?_
              (conv => whnf)
              refine And.intro (by exact Nat.le_of_ble_eq_true rfl) ?_
              (conv => whnf)
              refine And.intro ⟨by decide, by decide, by exact Nat.le_of_ble_eq_true rfl⟩ ?_
              (conv => whnf)
              have nm := nice_told (d := 10) (hwo.1 6) "matrix" ns_matrix
              refine And.intro ⟨rfl, nice_l (d := 12) (by simp) (by simp only [List.all_cons, List.all_nil, List.nil_append, List.cons_append, nm, Bool.and_self])⟩ ?_
              (conv => whnf)
              exact hK _ _ ⟨m + 1 + 1, _, _, _, _, by omega, g3, g4, rfl⟩
          · rintro _ C' ⟨m, z2, z3, z14, z15, hm, t1, t2, rfl⟩
            refine .inr ⟨C.length, Nat.le_refl _, trivial, ?_, ?_⟩
            · rw [t1]; exact ok_set hc
            · rw [t1]; exact q m
        show if rowB 3 (-1000) 1000 (cg a b c p q0 r s) = true then _ else _
        cases eD : rowB 3 (-1000) 1000 (cg a b c p q0 r s) with
        | false =>
          simp only [Bool.false_eq_true, if_false]
          exact odds n none none (by omega)
        | true =>
          simp only [if_true]
          have dl := rb_ln (m := 300) eD rfl (by decide)
          (conv => whnf)
          refine ⟨_, hk3, by omega, fun n' hn' p' q' r' s' gp' gq' gr' gs' => ?_⟩
          simp only [set_set]
          have mN := mB (p := p') (q := q') (r := r') (s := s') ⟨by have := gp'.1; omega, by have := gp'.2; omega⟩ ⟨by have := gq'.1; omega, by have := gq'.2; omega⟩ ⟨by have := gr'.1; omega, by have := gr'.2; omega⟩ ⟨by have := gs'.1; omega, by have := gs'.2; omega⟩
          (conv => whnf)
          refine And.intro ⟨⟨ln27 gp', ln27 gq', ln27 gr', ln27 gs'⟩, l3 gp, l3 gq, l3 gr, l3 gs⟩ ?_
          (conv => whnf)
          refine And.intro rfl (And.intro (fun _ a' b' c' e => ?_) (fun e => Bool.noConfusion (eD.symm.trans e)))
          cases e
          (conv => whnf)
          refine And.intro ⟨rfl, rfl⟩ (And.intro (fun _ _ a' b' c' p2 q2 r2 s2 e1 e2 => ?_) (And.intro (fun e => Bool.noConfusion (eD.symm.trans e)) (fun _ e => Bool.noConfusion (mN.symm.trans e))))
          cases e1
          cases e2
          (conv => whnf)
          refine And.intro (by exact Nat.le_of_ble_eq_true rfl) ?_
          (conv => whnf)
          refine And.intro ⟨l10 ga, l10 gb, l10 gc⟩ ?_
          (conv => whnf)
          refine And.intro ⟨by unfold dsc; (apply Sz_of; (focus (repeat (first | assumption | with_reducible apply Ln_mul | with_reducible apply Ln_add | with_reducible apply Ln_sub | with_reducible apply Ln_neg | (exact Ln_lit (by decide))))); decide), by (apply Sz_of; (focus (repeat (first | assumption | with_reducible apply Ln_mul | with_reducible apply Ln_add | with_reducible apply Ln_sub | with_reducible apply Ln_neg | (exact Ln_lit (by decide))))); decide)⟩ ?_
          (conv => whnf)
          refine And.intro ⟨by unfold dsc; (apply Sz_of; (focus (repeat (first | assumption | with_reducible apply Ln_mul | with_reducible apply Ln_add | with_reducible apply Ln_sub | with_reducible apply Ln_neg | (exact Ln_lit (by decide))))); decide), by (apply Sz_of; (focus (repeat (first | assumption | with_reducible apply Ln_mul | with_reducible apply Ln_add | with_reducible apply Ln_sub | with_reducible apply Ln_neg | (exact Ln_lit (by decide))))); decide)⟩ ?_
          (conv => whnf)
          refine And.intro ⟨dl, ln27 gp', ln27 gq', ln27 gr', ln27 gs'⟩ ?_
          (conv => whnf)
          refine And.intro (by exact Nat.le_of_ble_eq_true rfl) ?_
          (conv => whnf)
          refine And.intro ⟨by rw [dsc_tr], nice_l (d := 12) (by simp) (by simp only [List.all_cons, List.all_nil, nice_i, nice_fm, cg, Bool.and_self])⟩ ?_
          (conv => whnf)
          refine And.intro ⟨by simp, by exact Nat.le_of_ble_eq_true rfl⟩ ?_
          (conv => whnf)
          iterate 4 (refine And.intro (by exact Nat.le_of_ble_eq_true rfl) ?_; (conv => whnf))
          refine And.intro (by exact Nat.le_of_ble_eq_true rfl) ?_
          intro mx hmx hall
          show if decide (mx < 1001) = true then _ else _
          cases eM : decide (mx < 1001) with
          | false =>
            simp only [Bool.false_eq_true, if_false]
            exact odds n' _ _ (by omega)
          | true =>
            simp only [if_true]
            have hmx2 : mx < 1001 := by simpa using eM
            have bd : ∀ x : Int, (if x < 0 then -x else x) ≤ mx → Le1 1000 x := fun x h => by
              unfold Le1
              split at h <;> omega
            have b1 := bd _ (hall _ (List.mem_cons_self ..))
            have b2 := bd _ (hall _ (List.mem_cons_of_mem _ (List.mem_cons_self ..)))
            have b3 := bd _ (hall _ (List.mem_cons_of_mem _ (List.mem_cons_of_mem _ (List.mem_cons_self ..))))
            have b4 := bd _ (hall _ (List.mem_cons_of_mem _ (List.mem_cons_of_mem _ (List.mem_cons_of_mem _ (List.mem_cons_self ..)))))
            have mB2 := mB b1 b2 b3 b4
            (conv => whnf)
            refine And.intro ⟨rfl, rfl⟩ (And.intro (fun _ _ a' b' c' p2 q2 r2 s2 e1 e2 => ?_) (And.intro (fun e => Bool.noConfusion (f1.symm.trans e)) (fun _ e => Bool.noConfusion (mB2.symm.trans e))))
            cases e1
            cases e2
            (conv => whnf)
            refine And.intro ⟨dl, ln27 gp', ln27 gq', ln27 gr', ln27 gs'⟩ ?_
            (conv => whnf)
            refine And.intro ⟨cg_tr .., nice_fm⟩ ?_
            (conv => whnf)
            exact odds n' _ _ (by omega)
  · exact h.elim
theorem okC_box {N : Nat} : ∀ {C : Cs}, (∀ c, c ∈ C → ∃ n, c = Ct.box n) → okC N C
  | [], _ => trivial
  | c :: C, h => by
    obtain ⟨n, rfl⟩ := h c (List.mem_cons_self ..)
    exact okC_box (C := C) fun c hc => h c (List.mem_cons_of_mem _ hc)
theorem box_app {C : Cs} {n : Nat} (h : ∀ c, c ∈ C → ∃ n, c = Ct.box n) : ∀ c, c ∈ C ++ [Ct.box n] → ∃ n, c = Ct.box n := fun c hc => by
  rcases List.mem_append.mp hc with hc | hc
  · exact h c hc
  · exact ⟨n, by simpa using hc⟩
theorem box_set {C : Cs} {n k : Nat} (h : ∀ c, c ∈ C → ∃ n, c = Ct.box n) : ∀ c, c ∈ C.set k (Ct.box n) → ∃ n, c = Ct.box n := fun c hc => by
  rcases List.mem_or_eq_of_mem_set hc with hc | hc
  · exact h c hc
  · exact ⟨n, hc⟩
theorem kp_law : Keeps 2 m_law 1 W_law := by
  intro rs C Q E hl h
  unfold W_law at h
  split at h
  · rename_i xs
    obtain ⟨⟨rfl, hx, ns, rfl⟩, q⟩ := h
    (conv => whnf)
    obtain ⟨nt, ent, hnt0, hnt⟩ : ∃ nt : Int, (if (if ((ns.map R.int).length : Int) < 6 then ((ns.map R.int).length : Int) else 6) > 3 then (if ((ns.map R.int).length : Int) < 6 then ((ns.map R.int).length : Int) else 6) else 3) = nt ∧ 3 ≤ nt ∧ nt ≤ 6 := ⟨_, rfl, by split <;> omega, by split <;> (try split) <;> omega⟩
    rw [ent]
    refine And.intro ⟨by omega, by omega⟩ ?_
    refine forL_inv (fun _ Γ C' => (∀ c, c ∈ C' → ∃ n, c = Ct.box n) ∧ ∃ x1, Γ = [some (.scr (ns.map .int)), x1]) _ 0 _ _ ⟨(fun c hc => by cases hc), _, rfl⟩ ?_ ?_
    · rintro x hx0 j _ C' hj ⟨hc, x1, rfl⟩ K hK
      obtain ⟨w, rfl, w0, w6⟩ := upto_mem hx0
      (conv => whnf)
      refine And.intro ⟨w0, by omega, ns, rfl⟩ fun i => ?_
      (conv => whnf)
      refine And.intro ⟨by simp, ?_⟩ fun n => ?_
      · exact okC_box (box_app hc)
      · (conv => whnf)
        exact hK _ _ ⟨box_set (box_app hc), _, rfl⟩
    · rintro _ C' ⟨hc, x1, rfl⟩
      exact .inl (q _)
  · exact h.elim
theorem law_true : ∀ (ns : List Int) (Q : Qe), ns.length ≤ 63 → (∀ C, Q (.bl true) C) → W_law [.scr (ns.map .int)] [] Q noX := fun ns Q h q => ⟨⟨rfl, by rw [List.length_map]; exact h, ns, rfl⟩, q⟩
theorem ar_is_between : ∀ rs C Q E, W_is_between rs C Q E → rs.length = 3 := by
  intro rs C Q E h; unfold W_is_between at h; split at h <;> first | rfl | exact h.elim
theorem ar_is_tuple_of : ∀ rs C Q E, W_is_tuple_of rs C Q E → rs.length = 2 := by
  intro rs C Q E h; unfold W_is_tuple_of at h; split at h <;> first | rfl | exact h.elim
theorem ar_is_row : ∀ rs C Q E, W_is_row rs C Q E → rs.length = 4 := by
  intro rs C Q E h; unfold W_is_row at h; split at h <;> first | rfl | exact h.elim
theorem ar_is_form : ∀ rs C Q E, W_is_form rs C Q E → rs.length = 1 := by
  intro rs C Q E h; unfold W_is_form at h; split at h <;> first | rfl | exact h.elim
theorem ar_discriminant_of : ∀ rs C Q E, W_discriminant_of rs C Q E → rs.length = 1 := by
  intro rs C Q E h; unfold W_discriminant_of at h; split at h <;> first | rfl | exact h.elim
theorem ar_discriminant : ∀ rs C Q E, W_discriminant rs C Q E → rs.length = 1 := by
  intro rs C Q E h; unfold W_discriminant at h; split at h <;> first | rfl | exact h.elim
theorem ar_value_at : ∀ rs C Q E, W_value_at rs C Q E → rs.length = 3 := by
  intro rs C Q E h; unfold W_value_at at h; split at h <;> first | rfl | exact h.elim
theorem ar_value : ∀ rs C Q E, W_value rs C Q E → rs.length = 3 := by
  intro rs C Q E h; unfold W_value at h; split at h <;> first | rfl | exact h.elim
theorem ar_moved : ∀ rs C Q E, W_moved rs C Q E → rs.length = 2 := by
  intro rs C Q E h; unfold W_moved at h; split at h <;> first | rfl | exact h.elim
theorem ar_is_matrix : ∀ rs C Q E, W_is_matrix rs C Q E → rs.length = 1 := by
  intro rs C Q E h; unfold W_is_matrix at h; split at h <;> first | rfl | exact h.elim
theorem ar_changed : ∀ rs C Q E, W_changed rs C Q E → rs.length = 2 := by
  intro rs C Q E h; unfold W_changed at h; split at h <;> first | rfl | exact h.elim
theorem ar_l_cell : ∀ rs C Q E, W_l_cell rs C Q E → rs.length = 2 := by
  intro rs C Q E h; unfold W_l_cell at h; split at h <;> first | rfl | exact h.elim
theorem ar_l_box : ∀ rs C Q E, W_l_box rs C Q E → rs.length = 1 := by
  intro rs C Q E h; unfold W_l_box at h; split at h <;> first | rfl | exact h.elim
theorem ar_l_take : ∀ rs C Q E, W_l_take rs C Q E → rs.length = 2 := by
  intro rs C Q E h; unfold W_l_take at h; split at h <;> first | rfl | exact h.elim
theorem ar_l_disc : ∀ rs C Q E, W_l_disc rs C Q E → rs.length = 1 := by
  intro rs C Q E h; unfold W_l_disc W_discriminant_of at h; split at h <;> first | rfl | exact h.elim
theorem ar_l_value : ∀ rs C Q E, W_l_value rs C Q E → rs.length = 3 := by
  intro rs C Q E h; unfold W_l_value W_value_at at h; split at h <;> first | rfl | exact h.elim
theorem ar_l_changed : ∀ rs C Q E, W_l_changed rs C Q E → rs.length = 2 := by
  intro rs C Q E h; unfold W_l_changed at h; split at h <;> first | rfl | exact h.elim
theorem ar_l_times : ∀ rs C Q E, W_l_times rs C Q E → rs.length = 2 := by
  intro rs C Q E h; unfold W_l_times at h; split at h <;> first | rfl | exact h.elim
theorem ar_l_shift : ∀ rs C Q E, W_l_shift rs C Q E → rs.length = 1 := by
  intro rs C Q E h; unfold W_l_shift at h; split at h <;> first | rfl | exact h.elim
theorem ar_l_is_small : ∀ rs C Q E, W_l_is_small rs C Q E → rs.length = 1 := by
  intro rs C Q E h; unfold W_l_is_small at h; split at h <;> first | rfl | exact h.elim
theorem ar_l_form : ∀ rs C Q E, W_l_form rs C Q E → rs.length = 1 := by
  intro rs C Q E h; unfold W_l_form at h; split at h <;> first | rfl | exact h.elim
theorem ar_l_odd_form : ∀ rs C Q E, W_l_odd_form rs C Q E → rs.length = 1 := by
  intro rs C Q E h; unfold W_l_odd_form at h; split at h <;> first | rfl | exact h.elim
theorem ar_l_any_form : ∀ rs C Q E, W_l_any_form rs C Q E → rs.length = 1 := by
  intro rs C Q E h; unfold W_l_any_form at h; split at h <;> first | rfl | exact h.elim
theorem ar_l_any_matrix : ∀ rs C Q E, W_l_any_matrix rs C Q E → rs.length = 1 := by
  intro rs C Q E h; unfold W_l_any_matrix at h; split at h <;> first | rfl | exact h.elim
theorem ar_l_said : ∀ rs C Q E, W_l_said rs C Q E → rs.length = 3 := by
  intro rs C Q E h; unfold W_l_said at h; split at h <;> first | rfl | exact h.elim
theorem ar_l_right : ∀ rs C Q E, W_l_right rs C Q E → rs.length = 1 := by
  intro rs C Q E h; unfold W_l_right at h; split at h <;> first | rfl | exact h.elim
theorem ar_law : ∀ rs C Q E, W_law rs C Q E → rs.length = 1 := by
  intro rs C Q E h; unfold W_law at h; split at h <;> first | rfl | exact h.elim
end NB
namespace NB
open PySem PySem.Spec L2
open PyProof.Rows (envOfC)
def top (i : Nat) : Stmt := PySem.Challenge.pw_numberbench_k33_forms.main.body.getD i (.Pass ⟨0, 0, 0, 0⟩)
structure Txt (P : Program) (w : World) (K : PySem.W.Frag) (mg : Str → Option Value) (base : Heap) (cl : String → Addr) : Prop where
  b_abs : mg "abs" = none
  b_all : mg "all" = none
  b_bool : mg "bool" = none
  b_int : mg "int" = none
  b_isinstance : mg "isinstance" = none
  b_len : mg "len" = none
  b_list : mg "list" = none
  b_max : mg "max" = none
  b_min : mg "min" = none
  b_range : mg "range" = none
  b_str : mg "str" = none
  b_sum : mg "sum" = none
  b_tuple : mg "tuple" = none
  c_InvalidForm : mg "InvalidForm" = some (.ref (cl "InvalidForm"))
  c_InvalidMatrix : mg "InvalidMatrix" = some (.ref (cl "InvalidMatrix"))
  x_InvalidForm : ExcK P w K mg base cl "InvalidForm" (Str.ofString "given") "InvalidForm"
  x_InvalidMatrix : ExcK P w K mg base cl "InvalidMatrix" (Str.ofString "given") "InvalidMatrix"
  exm_InvalidForm : ∀ c1 ∈ knE, PySem.W.exmOne K (.ref (cl c1)) (.ref (cl "InvalidForm")) = some (subE c1 "InvalidForm")
  exm_InvalidMatrix : ∀ c1 ∈ knE, PySem.W.exmOne K (.ref (cl c1)) (.ref (cl "InvalidMatrix")) = some (subE c1 "InvalidMatrix")
  xf : ∀ c1 ∈ knE, XfC K (cl c1)
  no_given : ∀ c1 ∈ knE, PySem.W.findIn K (.ref (cl c1)) (Str.ofString "given") = some none
  k_MOST_ITEM : ∃ t, mg "MOST_ITEM" = some (.int 1000 t)
section
variable {P : Program} {w : World} {K : PySem.W.Frag} {mg : Str → Option Value} {base : Heap} {cl : String → Addr}
abbrev s_is_integer : Stmt := top 5
abbrev N_is_integer : List Str := ["value"]
theorem sc_is_integer : FnScope N_is_integer ["value"] (defScope s_is_integer) := ⟨rfl, rfl, rfl, by decide +kernel, rfl, by decide +kernel, by decide +kernel⟩
theorem d_is_integer (T : Txt P w K mg base cl)  {f : Addr} (cdv : Value) (A : Around) (outer : List Env) (s : Shared) (H : Hp) (E : XK) (Z : Zx) (hcl : Z.cl = cl) (hr : Room 0 (A.deeper (envOfC "is_integer" (defScope s_is_integer) s.heap.objs.size f cdv))) (ok : ZOk (cxOf (L2.CX P w) P w K mg base N_is_integer "is_integer" (defScope s_is_integer) f cdv A outer s H E) Z) : JSs (cxOf (L2.CX P w) P w K mg base N_is_integer "is_integer" (defScope s_is_integer) f cdv A outer s H E) Z (defBody s_is_integer) (m_is_integer Z.e) := by
  subst hcl
  have sc := sc_is_integer
  exact (jss_one (js_ret (je_and (je_isi "int" kitM_int T.b_isinstance T.b_int (je_var 0)) (je_one (je_not (je_isi "bool" kitM_bool T.b_isinstance T.b_bool (je_var 0)))))))
abbrev s_is_between : Stmt := top 6
abbrev N_is_between : List Str := ["value", "least", "most"]
theorem sc_is_between : FnScope N_is_between ["value", "least", "most"] (defScope s_is_between) := ⟨rfl, rfl, rfl, by decide +kernel, rfl, by decide +kernel, by decide +kernel⟩
theorem d_is_between (T : Txt P w K mg base cl) {f_is_integer : Addr} {fd_is_integer : FuncData} (G_is_integer : Fn P w K mg base cl 1 "is_integer" 1 W_is_integer f_is_integer fd_is_integer ["value"]) (B_is_integer : Binds K fd_is_integer ["value"] []) {f : Addr} (cdv : Value) (A : Around) (outer : List Env) (s : Shared) (H : Hp) (E : XK) (Z : Zx) (hcl : Z.cl = cl) (hr : Room 1 (A.deeper (envOfC "is_between" (defScope s_is_between) s.heap.objs.size f cdv))) (ok : ZOk (cxOf (L2.CX P w) P w K mg base N_is_between "is_between" (defScope s_is_between) f cdv A outer s H E) Z) : JSs (cxOf (L2.CX P w) P w K mg base N_is_between "is_between" (defScope s_is_between) f cdv A outer s H E) Z (defBody s_is_between) (m_is_between Z.e) := by
  subst hcl
  have sc := sc_is_between
  exact (jss_one (js_ret (je_and (je_call G_is_integer ok (hr.mono (by decide)) B_is_integer (ja_cons (je_var 0) ja_nil)) (je_one (je_chain jo_le jo_le (je_var 1) (je_var 0) (je_var 2))))))
abbrev s_is_tuple_of : Stmt := top 7
abbrev N_is_tuple_of : List Str := ["value", "many"]
theorem sc_is_tuple_of : FnScope N_is_tuple_of ["value", "many"] (defScope s_is_tuple_of) := ⟨rfl, rfl, rfl, by decide +kernel, rfl, by decide +kernel, by decide +kernel⟩
theorem d_is_tuple_of (T : Txt P w K mg base cl)  {f : Addr} (cdv : Value) (A : Around) (outer : List Env) (s : Shared) (H : Hp) (E : XK) (Z : Zx) (hcl : Z.cl = cl) (hr : Room 0 (A.deeper (envOfC "is_tuple_of" (defScope s_is_tuple_of) s.heap.objs.size f cdv))) (ok : ZOk (cxOf (L2.CX P w) P w K mg base N_is_tuple_of "is_tuple_of" (defScope s_is_tuple_of) f cdv A outer s H E) Z) : JSs (cxOf (L2.CX P w) P w K mg base N_is_tuple_of "is_tuple_of" (defScope s_is_tuple_of) f cdv A outer s H E) Z (defBody s_is_tuple_of) (m_is_tuple_of Z.e) := by
  subst hcl
  have sc := sc_is_tuple_of
  exact (jss_one (js_ret (je_and (je_isi "tuple" kitM_tuple T.b_isinstance T.b_tuple (je_var 0)) (je_one (je_cmp (jo_eq hr.units) (je_bltn jf_len T.b_len (ja_cons (je_var 0) ja_nil)) (je_var 1))))))
abbrev s_is_row : Stmt := top 8
abbrev N_is_row : List Str := ["value", "many", "least", "most", "item"]
theorem sc_is_row : FnScope N_is_row ["value", "many", "least", "most"] (defScope s_is_row) := ⟨rfl, rfl, rfl, by decide +kernel, rfl, by decide +kernel, by decide +kernel⟩
theorem d_is_row (T : Txt P w K mg base cl) {f_is_between : Addr} {fd_is_between : FuncData} (G_is_between : Fn P w K mg base cl 2 "is_between" 3 W_is_between f_is_between fd_is_between ["value", "least", "most"]) (B_is_between : Binds K fd_is_between ["value", "least", "most"] []) {f_is_tuple_of : Addr} {fd_is_tuple_of : FuncData} (G_is_tuple_of : Fn P w K mg base cl 1 "is_tuple_of" 2 W_is_tuple_of f_is_tuple_of fd_is_tuple_of ["value", "many"]) (B_is_tuple_of : Binds K fd_is_tuple_of ["value", "many"] []) {f : Addr} (cdv : Value) (A : Around) (outer : List Env) (s : Shared) (H : Hp) (E : XK) (Z : Zx) (hcl : Z.cl = cl) (hr : Room 2 (A.deeper (envOfC "is_row" (defScope s_is_row) s.heap.objs.size f cdv))) (ok : ZOk (cxOf (L2.CX P w) P w K mg base N_is_row "is_row" (defScope s_is_row) f cdv A outer s H E) Z) : JSs (cxOf (L2.CX P w) P w K mg base N_is_row "is_row" (defScope s_is_row) f cdv A outer s H E) Z (defBody s_is_row) (m_is_row Z.e) := by
  subst hcl
  have sc := sc_is_row
  exact (jss_one (js_ret (je_and (je_call G_is_tuple_of ok (hr.mono (by decide)) B_is_tuple_of (ja_cons (je_var 0) (ja_cons (je_var 1) ja_nil))) (je_one (je_bltn (jf_all rfl) T.b_all (ja_cons (je_comp false [("item", 4)] rfl sc.nd (ji_tup (je_var 0)) (blkOk_by (N := N_is_row) (sc := defScope s_is_row) (by decide +kernel)) (jgw_name 4 (by rintro _ ⟨_, _, _, _, _, rfl⟩; exact pg_name (i := 4) sc.nd rfl (by first | exact Or.inl rfl | exact Or.inr rfl))) (fun Y hY => by obtain ⟨_, _, _, _, _, rfl⟩ := hY; exact jts_nil) (fun Y hY => by obtain ⟨_, _, _, _, _, rfl⟩ := hY; exact (je_call G_is_between ZOk.calm (hr.mono (by decide)) B_is_between (ja_cons (je_var 4) (ja_cons (je_var 2) (ja_cons (je_var 3) ja_nil)))))) ja_nil))))))
abbrev s_is_form : Stmt := top 11
abbrev N_is_form : List Str := ["value"]
theorem sc_is_form : FnScope N_is_form ["value"] (defScope s_is_form) := ⟨rfl, rfl, rfl, by decide +kernel, rfl, by decide +kernel, by decide +kernel⟩
theorem d_is_form (T : Txt P w K mg base cl) {f_is_row : Addr} {fd_is_row : FuncData} (G_is_row : Fn P w K mg base cl 3 "is_row" 4 W_is_row f_is_row fd_is_row ["value", "many", "least", "most"]) (B_is_row : Binds K fd_is_row ["value", "many", "least", "most"] []) {f : Addr} (cdv : Value) (A : Around) (outer : List Env) (s : Shared) (H : Hp) (E : XK) (Z : Zx) (hcl : Z.cl = cl) (hr : Room 3 (A.deeper (envOfC "is_form" (defScope s_is_form) s.heap.objs.size f cdv))) (ok : ZOk (cxOf (L2.CX P w) P w K mg base N_is_form "is_form" (defScope s_is_form) f cdv A outer s H E) Z) : JSs (cxOf (L2.CX P w) P w K mg base N_is_form "is_form" (defScope s_is_form) f cdv A outer s H E) Z (defBody s_is_form) (m_is_form Z.e) := by
  subst hcl
  have sc := sc_is_form
  exact (jss_one (js_ret (je_call G_is_row ok (hr.mono (by decide)) B_is_row (ja_cons (je_var 0) (ja_cons je_int (ja_cons (je_neg (je_gI T.k_MOST_ITEM)) (ja_cons (je_gI T.k_MOST_ITEM) ja_nil)))))))
abbrev s_discriminant_of : Stmt := top 12
abbrev N_discriminant_of : List Str := ["form", "a", "b", "c"]
theorem sc_discriminant_of : FnScope N_discriminant_of ["form"] (defScope s_discriminant_of) := ⟨rfl, rfl, rfl, by decide +kernel, rfl, by decide +kernel, by decide +kernel⟩
theorem d_discriminant_of (T : Txt P w K mg base cl)  {f : Addr} (cdv : Value) (A : Around) (outer : List Env) (s : Shared) (H : Hp) (E : XK) (Z : Zx) (hcl : Z.cl = cl) (hr : Room 0 (A.deeper (envOfC "discriminant_of" (defScope s_discriminant_of) s.heap.objs.size f cdv))) (ok : ZOk (cxOf (L2.CX P w) P w K mg base N_discriminant_of "discriminant_of" (defScope s_discriminant_of) f cdv A outer s H E) Z) : JSs (cxOf (L2.CX P w) P w K mg base N_discriminant_of "discriminant_of" (defScope s_discriminant_of) f cdv A outer s H E) Z (defBody s_discriminant_of) (m_discriminant_of Z.e) := by
  subst hcl
  have sc := sc_discriminant_of
  exact (jss_cons (js_asg (je_var 0) (jg_seq rfl (jgs_cons (jg_name 1 sc.nd) (jgs_cons (jg_name 2 sc.nd) (jgs_cons (jg_name 3 sc.nd) jgs_nil)))))
  (jss_one (js_ret (je_op jo_sub (je_op (jo_times false) (je_var 2) (je_var 2)) (je_op (jo_times false) (je_op (jo_times false) je_int (je_var 1)) (je_var 3))))))
abbrev s_discriminant : Stmt := top 13
abbrev N_discriminant : List Str := ["form"]
theorem sc_discriminant : FnScope N_discriminant ["form"] (defScope s_discriminant) := ⟨rfl, rfl, rfl, by decide +kernel, rfl, by decide +kernel, by decide +kernel⟩
theorem d_discriminant (T : Txt P w K mg base cl) {f_discriminant_of : Addr} {fd_discriminant_of : FuncData} (G_discriminant_of : Fn P w K mg base cl 1 "discriminant_of" 1 W_discriminant_of f_discriminant_of fd_discriminant_of ["form"]) (B_discriminant_of : Binds K fd_discriminant_of ["form"] []) {f_is_form : Addr} {fd_is_form : FuncData} (G_is_form : Fn P w K mg base cl 4 "is_form" 1 W_is_form f_is_form fd_is_form ["value"]) (B_is_form : Binds K fd_is_form ["value"] []) {f : Addr} (cdv : Value) (A : Around) (outer : List Env) (s : Shared) (H : Hp) (E : XK) (Z : Zx) (hcl : Z.cl = cl) (hr : Room 4 (A.deeper (envOfC "discriminant" (defScope s_discriminant) s.heap.objs.size f cdv))) (ok : ZOk (cxOf (L2.CX P w) P w K mg base N_discriminant "discriminant" (defScope s_discriminant) f cdv A outer s H E) Z) : JSs (cxOf (L2.CX P w) P w K mg base N_discriminant "discriminant" (defScope s_discriminant) f cdv A outer s H E) Z (defBody s_discriminant) (m_discriminant Z.e) := by
  subst hcl
  have sc := sc_discriminant
  exact (jss_cons (js_if (jt_not (jt_tru (je_call G_is_form ok (hr.mono (by decide)) B_is_form (ja_cons (je_var 0) ja_nil)))) (jss_one (js_raise T.x_InvalidForm ok rfl (hr.mono (by decide)) (je_var 0))) jss_nil)
  (jss_one (js_ret (je_call G_discriminant_of ok (hr.mono (by decide)) B_discriminant_of (ja_cons (je_var 0) ja_nil)))))
abbrev s_value_at : Stmt := top 14
abbrev N_value_at : List Str := ["form", "x", "y", "a", "b", "c"]
theorem sc_value_at : FnScope N_value_at ["form", "x", "y"] (defScope s_value_at) := ⟨rfl, rfl, rfl, by decide +kernel, rfl, by decide +kernel, by decide +kernel⟩
theorem d_value_at (T : Txt P w K mg base cl)  {f : Addr} (cdv : Value) (A : Around) (outer : List Env) (s : Shared) (H : Hp) (E : XK) (Z : Zx) (hcl : Z.cl = cl) (hr : Room 0 (A.deeper (envOfC "value_at" (defScope s_value_at) s.heap.objs.size f cdv))) (ok : ZOk (cxOf (L2.CX P w) P w K mg base N_value_at "value_at" (defScope s_value_at) f cdv A outer s H E) Z) : JSs (cxOf (L2.CX P w) P w K mg base N_value_at "value_at" (defScope s_value_at) f cdv A outer s H E) Z (defBody s_value_at) (m_value_at Z.e) := by
  subst hcl
  have sc := sc_value_at
  exact (jss_cons (js_asg (je_var 0) (jg_seq rfl (jgs_cons (jg_name 3 sc.nd) (jgs_cons (jg_name 4 sc.nd) (jgs_cons (jg_name 5 sc.nd) jgs_nil)))))
  (jss_one (js_ret (je_op (jo_plus false) (je_op (jo_plus false) (je_op (jo_times false) (je_op (jo_times false) (je_var 3) (je_var 1)) (je_var 1)) (je_op (jo_times false) (je_op (jo_times false) (je_var 4) (je_var 1)) (je_var 2))) (je_op (jo_times false) (je_op (jo_times false) (je_var 5) (je_var 2)) (je_var 2))))))
abbrev s_value : Stmt := top 15
abbrev N_value : List Str := ["form", "x", "y"]
theorem sc_value : FnScope N_value ["form", "x", "y"] (defScope s_value) := ⟨rfl, rfl, rfl, by decide +kernel, rfl, by decide +kernel, by decide +kernel⟩
theorem d_value (T : Txt P w K mg base cl) {f_is_form : Addr} {fd_is_form : FuncData} (G_is_form : Fn P w K mg base cl 4 "is_form" 1 W_is_form f_is_form fd_is_form ["value"]) (B_is_form : Binds K fd_is_form ["value"] []) {f_value_at : Addr} {fd_value_at : FuncData} (G_value_at : Fn P w K mg base cl 1 "value_at" 3 W_value_at f_value_at fd_value_at ["form", "x", "y"]) (B_value_at : Binds K fd_value_at ["form", "x", "y"] []) {f : Addr} (cdv : Value) (A : Around) (outer : List Env) (s : Shared) (H : Hp) (E : XK) (Z : Zx) (hcl : Z.cl = cl) (hr : Room 4 (A.deeper (envOfC "value" (defScope s_value) s.heap.objs.size f cdv))) (ok : ZOk (cxOf (L2.CX P w) P w K mg base N_value "value" (defScope s_value) f cdv A outer s H E) Z) : JSs (cxOf (L2.CX P w) P w K mg base N_value "value" (defScope s_value) f cdv A outer s H E) Z (defBody s_value) (m_value Z.e) := by
  subst hcl
  have sc := sc_value
  exact (jss_cons (js_if (jt_not (jt_tru (je_call G_is_form ok (hr.mono (by decide)) B_is_form (ja_cons (je_var 0) ja_nil)))) (jss_one (js_raise T.x_InvalidForm ok rfl (hr.mono (by decide)) (je_var 0))) jss_nil)
  (jss_one (js_ret (je_call G_value_at ok (hr.mono (by decide)) B_value_at (ja_cons (je_var 0) (ja_cons (je_var 1) (ja_cons (je_var 2) ja_nil)))))))
abbrev s_moved : Stmt := top 16
abbrev N_moved : List Str := ["form", "matrix", "middle", "a", "b", "c", "p", "q", "r", "s"]
theorem sc_moved : FnScope N_moved ["form", "matrix"] (defScope s_moved) := ⟨rfl, rfl, rfl, by decide +kernel, rfl, by decide +kernel, by decide +kernel⟩
theorem d_moved (T : Txt P w K mg base cl) {f_value_at : Addr} {fd_value_at : FuncData} (G_value_at : Fn P w K mg base cl 1 "value_at" 3 W_value_at f_value_at fd_value_at ["form", "x", "y"]) (B_value_at : Binds K fd_value_at ["form", "x", "y"] []) {f : Addr} (cdv : Value) (A : Around) (outer : List Env) (s : Shared) (H : Hp) (E : XK) (Z : Zx) (hcl : Z.cl = cl) (hr : Room 1 (A.deeper (envOfC "moved" (defScope s_moved) s.heap.objs.size f cdv))) (ok : ZOk (cxOf (L2.CX P w) P w K mg base N_moved "moved" (defScope s_moved) f cdv A outer s H E) Z) : JSs (cxOf (L2.CX P w) P w K mg base N_moved "moved" (defScope s_moved) f cdv A outer s H E) Z (defBody s_moved) (m_moved Z.e) := by
  subst hcl
  have sc := sc_moved
  exact (jss_cons (js_asg (je_var 1) (jg_seq rfl (jgs_cons (jg_seq rfl (jgs_cons (jg_name 6 sc.nd) (jgs_cons (jg_name 7 sc.nd) jgs_nil))) (jgs_cons (jg_seq rfl (jgs_cons (jg_name 8 sc.nd) (jgs_cons (jg_name 9 sc.nd) jgs_nil))) jgs_nil))))
  (jss_cons (js_asg (je_var 0) (jg_seq rfl (jgs_cons (jg_name 3 sc.nd) (jgs_cons (jg_name 4 sc.nd) (jgs_cons (jg_name 5 sc.nd) jgs_nil)))))
  (jss_cons (js_asg (je_op (jo_plus false) (je_op (jo_plus false) (je_op (jo_times false) (je_op (jo_times false) (je_op (jo_times false) je_int (je_var 3)) (je_var 6)) (je_var 7)) (je_op (jo_times false) (je_var 4) (je_op (jo_plus false) (je_op (jo_times false) (je_var 6) (je_var 9)) (je_op (jo_times false) (je_var 7) (je_var 8))))) (je_op (jo_times false) (je_op (jo_times false) (je_op (jo_times false) je_int (je_var 5)) (je_var 8)) (je_var 9))) (jg_name 2 sc.nd))
  (jss_one (js_ret (je_tup (ja_cons (je_call G_value_at ok (hr.mono (by decide)) B_value_at (ja_cons (je_var 0) (ja_cons (je_var 6) (ja_cons (je_var 8) ja_nil)))) (ja_cons (je_var 2) (ja_cons (je_call G_value_at ok (hr.mono (by decide)) B_value_at (ja_cons (je_var 0) (ja_cons (je_var 7) (ja_cons (je_var 9) ja_nil)))) ja_nil)))))))))
abbrev s_is_matrix : Stmt := top 17
abbrev N_is_matrix : List Str := ["value", "row"]
theorem sc_is_matrix : FnScope N_is_matrix ["value"] (defScope s_is_matrix) := ⟨rfl, rfl, rfl, by decide +kernel, rfl, by decide +kernel, by decide +kernel⟩
theorem d_is_matrix (T : Txt P w K mg base cl) {f_is_row : Addr} {fd_is_row : FuncData} (G_is_row : Fn P w K mg base cl 3 "is_row" 4 W_is_row f_is_row fd_is_row ["value", "many", "least", "most"]) (B_is_row : Binds K fd_is_row ["value", "many", "least", "most"] []) {f_is_tuple_of : Addr} {fd_is_tuple_of : FuncData} (G_is_tuple_of : Fn P w K mg base cl 1 "is_tuple_of" 2 W_is_tuple_of f_is_tuple_of fd_is_tuple_of ["value", "many"]) (B_is_tuple_of : Binds K fd_is_tuple_of ["value", "many"] []) {f : Addr} (cdv : Value) (A : Around) (outer : List Env) (s : Shared) (H : Hp) (E : XK) (Z : Zx) (hcl : Z.cl = cl) (hr : Room 3 (A.deeper (envOfC "is_matrix" (defScope s_is_matrix) s.heap.objs.size f cdv))) (ok : ZOk (cxOf (L2.CX P w) P w K mg base N_is_matrix "is_matrix" (defScope s_is_matrix) f cdv A outer s H E) Z) : JSs (cxOf (L2.CX P w) P w K mg base N_is_matrix "is_matrix" (defScope s_is_matrix) f cdv A outer s H E) Z (defBody s_is_matrix) (m_is_matrix Z.e) := by
  subst hcl
  have sc := sc_is_matrix
  exact (jss_one (js_ret (je_and (je_call G_is_tuple_of ok (hr.mono (by decide)) B_is_tuple_of (ja_cons (je_var 0) (ja_cons je_int ja_nil))) (je_one (je_bltn (jf_all rfl) T.b_all (ja_cons (je_comp false [("row", 1)] rfl sc.nd (ji_tup (je_var 0)) (blkOk_by (N := N_is_matrix) (sc := defScope s_is_matrix) (by decide +kernel)) (jgw_name 1 (by rintro _ ⟨_, _, _, _, _, rfl⟩; exact pg_name (i := 1) sc.nd rfl (by first | exact Or.inl rfl | exact Or.inr rfl))) (fun Y hY => by obtain ⟨_, _, _, _, _, rfl⟩ := hY; exact jts_nil) (fun Y hY => by obtain ⟨_, _, _, _, _, rfl⟩ := hY; exact (je_call G_is_row ZOk.calm (hr.mono (by decide)) B_is_row (ja_cons (je_var 1) (ja_cons je_int (ja_cons (je_neg (je_gI T.k_MOST_ITEM)) (ja_cons (je_gI T.k_MOST_ITEM) ja_nil))))))) ja_nil))))))
abbrev s_changed : Stmt := top 18
abbrev N_changed : List Str := ["form", "matrix"]
theorem sc_changed : FnScope N_changed ["form", "matrix"] (defScope s_changed) := ⟨rfl, rfl, rfl, by decide +kernel, rfl, by decide +kernel, by decide +kernel⟩
theorem d_changed (T : Txt P w K mg base cl) {f_is_form : Addr} {fd_is_form : FuncData} (G_is_form : Fn P w K mg base cl 4 "is_form" 1 W_is_form f_is_form fd_is_form ["value"]) (B_is_form : Binds K fd_is_form ["value"] []) {f_is_matrix : Addr} {fd_is_matrix : FuncData} (G_is_matrix : Fn P w K mg base cl 4 "is_matrix" 1 W_is_matrix f_is_matrix fd_is_matrix ["value"]) (B_is_matrix : Binds K fd_is_matrix ["value"] []) {f_moved : Addr} {fd_moved : FuncData} (G_moved : Fn P w K mg base cl 2 "moved" 2 W_moved f_moved fd_moved ["form", "matrix"]) (B_moved : Binds K fd_moved ["form", "matrix"] []) {f : Addr} (cdv : Value) (A : Around) (outer : List Env) (s : Shared) (H : Hp) (E : XK) (Z : Zx) (hcl : Z.cl = cl) (hr : Room 4 (A.deeper (envOfC "changed" (defScope s_changed) s.heap.objs.size f cdv))) (ok : ZOk (cxOf (L2.CX P w) P w K mg base N_changed "changed" (defScope s_changed) f cdv A outer s H E) Z) : JSs (cxOf (L2.CX P w) P w K mg base N_changed "changed" (defScope s_changed) f cdv A outer s H E) Z (defBody s_changed) (m_changed Z.e) := by
  subst hcl
  have sc := sc_changed
  exact (jss_cons (js_if (jt_not (jt_tru (je_call G_is_form ok (hr.mono (by decide)) B_is_form (ja_cons (je_var 0) ja_nil)))) (jss_one (js_raise T.x_InvalidForm ok rfl (hr.mono (by decide)) (je_var 0))) jss_nil)
  (jss_cons (js_if (jt_not (jt_tru (je_call G_is_matrix ok (hr.mono (by decide)) B_is_matrix (ja_cons (je_var 1) ja_nil)))) (jss_one (js_raise T.x_InvalidMatrix ok rfl (hr.mono (by decide)) (je_var 1))) jss_nil)
  (jss_one (js_ret (je_call G_moved ok (hr.mono (by decide)) B_moved (ja_cons (je_var 0) (ja_cons (je_var 1) ja_nil)))))))
abbrev s_l_cell : Stmt := top 20
abbrev N_l_cell : List Str := ["script", "k"]
theorem sc_l_cell : FnScope N_l_cell ["script", "k"] (defScope s_l_cell) := ⟨rfl, rfl, rfl, by decide +kernel, rfl, by decide +kernel, by decide +kernel⟩
theorem d_l_cell (T : Txt P w K mg base cl)  {f : Addr} (cdv : Value) (A : Around) (outer : List Env) (s : Shared) (H : Hp) (E : XK) (Z : Zx) (hcl : Z.cl = cl) (hr : Room 0 (A.deeper (envOfC "_law_cell" (defScope s_l_cell) s.heap.objs.size f cdv))) (ok : ZOk (cxOf (L2.CX P w) P w K mg base N_l_cell "_law_cell" (defScope s_l_cell) f cdv A outer s H E) Z) : JSs (cxOf (L2.CX P w) P w K mg base N_l_cell "_law_cell" (defScope s_l_cell) f cdv A outer s H E) Z (defBody s_l_cell) (m_l_cell Z.e) := by
  subst hcl
  have sc := sc_l_cell
  exact (jss_one (js_ret (je_if (jt_cmp jo_lt (je_var 1) (je_bltn jf_len T.b_len (ja_cons (je_var 0) ja_nil))) (je_ix (je_var 0) (je_var 1)) (je_op (jo_plus false) (je_op (jo_times false) je_int (je_var 1)) (je_op jo_mod (je_type jf_int T.b_int (ja_cons (je_bltn (jf_sum rfl) T.b_sum (ja_cons (je_slice false (je_var 0) jo_none (jo_some je_int)) ja_nil)) ja_nil)) je_int)))))
abbrev s_l_box : Stmt := top 21
abbrev N_l_box : List Str := ["great"]
theorem sc_l_box : FnScope N_l_box ["great"] (defScope s_l_box) := ⟨rfl, rfl, rfl, by decide +kernel, rfl, by decide +kernel, by decide +kernel⟩
theorem d_l_box (T : Txt P w K mg base cl)  {f : Addr} (cdv : Value) (A : Around) (outer : List Env) (s : Shared) (H : Hp) (E : XK) (Z : Zx) (hcl : Z.cl = cl) (hr : Room 0 (A.deeper (envOfC "_law_box" (defScope s_l_box) s.heap.objs.size f cdv))) (ok : ZOk (cxOf (L2.CX P w) P w K mg base N_l_box "_law_box" (defScope s_l_box) f cdv A outer s H E) Z) : JSs (cxOf (L2.CX P w) P w K mg base N_l_box "_law_box" (defScope s_l_box) f cdv A outer s H E) Z (defBody s_l_box) (m_l_box Z.e) := by
  subst hcl
  have sc := sc_l_box
  exact (jss_box 0 (jss_one (js_ret (je_lst true (ja_cons (je_bltn jf_abs T.b_abs (ja_cons (je_var 0) ja_nil)) (ja_cons (je_cmp jo_ge (je_bltn jf_abs T.b_abs (ja_cons (je_var 0) ja_nil)) (je_op jo_pow je_int je_int)) (ja_cons (je_op jo_mod (je_type jf_int T.b_int (ja_cons (je_bltn jf_abs T.b_abs (ja_cons (je_var 0) ja_nil)) ja_nil)) je_int) (ja_cons je_int ja_nil))))))))
abbrev s_l_take : Stmt := top 22
abbrev N_l_take : List Str := ["box", "many", "mixed", "digit"]
theorem sc_l_take : FnScope N_l_take ["box", "many"] (defScope s_l_take) := ⟨rfl, rfl, rfl, by decide +kernel, rfl, by decide +kernel, by decide +kernel⟩
theorem d_l_take (T : Txt P w K mg base cl)  {f : Addr} (cdv : Value) (A : Around) (outer : List Env) (s : Shared) (H : Hp) (E : XK) (Z : Zx) (hcl : Z.cl = cl) (hr : Room 0 (A.deeper (envOfC "_law_take" (defScope s_l_take) s.heap.objs.size f cdv))) (ok : ZOk (cxOf (L2.CX P w) P w K mg base N_l_take "_law_take" (defScope s_l_take) f cdv A outer s H E) Z) : JSs (cxOf (L2.CX P w) P w K mg base N_l_take "_law_take" (defScope s_l_take) f cdv A outer s H E) Z (defBody s_l_take) (m_l_take Z.e) := by
  subst hcl
  have sc := sc_l_take
  exact (jss_unb 0 (jss_cons (js_if (JW.jt (jw_and (jt_tru (je_ix (je_var 0) je_int)) (jw_and1 (jt_cmp jo_gt (je_ix (je_var 0) je_int) je_int)))) (jss_cons (js_asg (je_op jo_mod (je_type jf_int T.b_int (ja_cons (je_ix (je_var 0) je_int) ja_nil)) (je_var 1)) (jg_name 3 sc.nd))
  (jss_cons (js_asg (je_op jo_div (je_ix (je_var 0) je_int) (je_var 1)) (jg_sub (je_var 0) je_int))
  (jss_one (js_ret (je_var 3))))) jss_nil)
  (jss_cons (js_asg (je_op (jo_plus false) (je_ix (je_var 0) je_int) je_int) (jg_sub (je_var 0) je_int))
  (jss_cons (js_asg (je_op jo_mod (je_type jf_int T.b_int (ja_cons (je_op jo_pow (je_op (jo_plus false) (je_op (jo_plus false) (je_ix (je_var 0) je_int) (je_op (jo_times false) je_int (je_ix (je_var 0) je_int))) je_int) je_int) ja_nil)) je_int) (jg_name 2 sc.nd))
  (jss_one (js_ret (je_op jo_mod (je_type jf_int T.b_int (ja_cons (je_op jo_div (je_op jo_mod (je_type jf_int T.b_int (ja_cons (je_op jo_pow (je_op (jo_plus false) (je_op (jo_times false) (je_var 2) je_int) (je_op (jo_times false) je_int (je_ix (je_var 0) je_int))) je_int) ja_nil)) je_int) je_int) ja_nil)) (je_var 1))))))))
abbrev s_l_same : Stmt := top 23
abbrev N_l_same : List Str := ["told", "due", "k"]
theorem sc_l_same : FnScope N_l_same ["told", "due"] (defScope s_l_same) := ⟨rfl, rfl, rfl, by decide +kernel, rfl, by decide +kernel, by decide +kernel⟩
theorem d_l_same (T : Txt P w K mg base cl) {lvR : Nat} {WR : Wt} {f_l_same : Addr} {fd_l_same : FuncData} (G_l_same : Fn P w K mg base cl lvR "_law_same" 2 WR f_l_same fd_l_same ["told", "due"]) (B_l_same : Binds K fd_l_same ["told", "due"] []) {f : Addr} (cdv : Value) (A : Around) (outer : List Env) (s : Shared) (H : Hp) (E : XK) (Z : Zx) (hcl : Z.cl = cl) (hr : Room lvR (A.deeper (envOfC "_law_same" (defScope s_l_same) s.heap.objs.size f cdv))) (ok : ZOk (cxOf (L2.CX P w) P w K mg base N_l_same "_law_same" (defScope s_l_same) f cdv A outer s H E) Z) : JSs (cxOf (L2.CX P w) P w K mg base N_l_same "_law_same" (defScope s_l_same) f cdv A outer s H E) Z (defBody s_l_same) (m_l_same WR Z.e) := by
  subst hcl
  have sc := sc_l_same
  exact (jss_cons (js_if (JW.jt (jw_or (jt_cmp jo_isN (je_var 1) je_non) (jw_or1 (jt_tru (je_isi "bool" kitM_bool T.b_isinstance T.b_bool (je_var 1)))))) (jss_one (js_ret (je_if (jt_cmp jo_isN (je_var 1) je_non) (je_cmp jo_isN (je_var 0) je_non) (je_and (je_isi "bool" kitM_bool T.b_isinstance T.b_bool (je_var 0)) (je_one (je_cmp (jo_eq hr.units) (je_cmp jo_isB (je_var 0) je_bl) (je_cmp jo_isB (je_var 1) je_bl))))))) jss_nil)
  (jss_cons (js_if (jt_tru (je_isi "int" kitM_int T.b_isinstance T.b_int (je_var 1))) (jss_one (js_ret (je_and (je_isi "int" kitM_int T.b_isinstance T.b_int (je_var 0)) (je_and (je_not (je_isi "bool" kitM_bool T.b_isinstance T.b_bool (je_var 0))) (je_one (je_cmp (jo_eq hr.units) (je_op jo_sub (je_type jf_int T.b_int (ja_cons (je_var 0) ja_nil)) (je_var 1)) je_int)))))) jss_nil)
  (jss_cons (js_if (jt_tru (je_isi "str" kitM_str T.b_isinstance T.b_str (je_var 1))) (jss_one (js_ret (je_and (je_isi "str" kitM_str T.b_isinstance T.b_str (je_var 0)) (je_and (je_cmp (jo_eq hr.units) (je_bltn jf_len T.b_len (ja_cons (je_var 0) ja_nil)) (je_bltn jf_len T.b_len (ja_cons (je_var 1) ja_nil))) (je_one (je_cmp (jo_eq hr.units) (je_comp false [("k", 2)] rfl sc.nd (ji_rng1 T.b_range (ja_cons (je_bltn jf_len T.b_len (ja_cons (je_var 1) ja_nil)) ja_nil)) (blkOk_by (N := N_l_same) (sc := defScope s_l_same) (by decide +kernel)) (jgw_name 2 (by rintro _ ⟨_, _, _, _, _, rfl⟩; exact pg_name (i := 2) sc.nd rfl (by first | exact Or.inl rfl | exact Or.inr rfl))) (fun Y hY => by obtain ⟨_, _, _, _, _, rfl⟩ := hY; exact (jts_one (jt_cmp (jo_ne hr.units) (je_slice false (je_var 0) (jo_some (je_var 2)) (jo_some (je_op (jo_plus false) (je_var 2) je_int))) (je_ix (je_var 1) (je_var 2))))) (fun Y hY => by obtain ⟨_, _, _, _, _, rfl⟩ := hY; exact (je_var 2))) (je_lst false ja_nil))))))) jss_nil)
  (jss_cons (js_if (JW.jt (jw_or (jt_cmp (jo_ne hr.units) (je_isi "list" kitM_list T.b_isinstance T.b_list (je_var 0)) (je_isi "list" kitM_list T.b_isinstance T.b_list (je_var 1))) (jw_or1 (jt_cmp (jo_ne hr.units) (je_isi "tuple" kitM_tuple T.b_isinstance T.b_tuple (je_var 0)) (je_isi "tuple" kitM_tuple T.b_isinstance T.b_tuple (je_var 1)))))) (jss_one (js_ret je_bl)) jss_nil)
  (jss_one (js_ret (je_and (je_cmp (jo_eq hr.units) (je_bltn jf_len T.b_len (ja_cons (je_var 0) ja_nil)) (je_bltn jf_len T.b_len (ja_cons (je_var 1) ja_nil))) (je_one (je_cmp (jo_eq hr.units) (je_comp false [("k", 2)] rfl sc.nd (ji_rng1 T.b_range (ja_cons (je_bltn jf_len T.b_len (ja_cons (je_var 1) ja_nil)) ja_nil)) (blkOk_by (N := N_l_same) (sc := defScope s_l_same) (by decide +kernel)) (jgw_name 2 (by rintro _ ⟨_, _, _, _, _, rfl⟩; exact pg_name (i := 2) sc.nd rfl (by first | exact Or.inl rfl | exact Or.inr rfl))) (fun Y hY => by obtain ⟨_, _, _, _, _, rfl⟩ := hY; exact (jts_one (jt_not (jt_tru (je_call G_l_same ZOk.calm hr B_l_same (ja_cons (je_ix (je_var 0) (je_var 2)) (ja_cons (je_ix (je_var 1) (je_var 2)) ja_nil))))))) (fun Y hY => by obtain ⟨_, _, _, _, _, rfl⟩ := hY; exact (je_var 2))) (je_lst false ja_nil))))))))))
abbrev s_l_disc : Stmt := top 24
abbrev N_l_disc : List Str := ["form"]
theorem sc_l_disc : FnScope N_l_disc ["form"] (defScope s_l_disc) := ⟨rfl, rfl, rfl, by decide +kernel, rfl, by decide +kernel, by decide +kernel⟩
theorem d_l_disc (T : Txt P w K mg base cl)  {f : Addr} (cdv : Value) (A : Around) (outer : List Env) (s : Shared) (H : Hp) (E : XK) (Z : Zx) (hcl : Z.cl = cl) (hr : Room 0 (A.deeper (envOfC "_law_disc" (defScope s_l_disc) s.heap.objs.size f cdv))) (ok : ZOk (cxOf (L2.CX P w) P w K mg base N_l_disc "_law_disc" (defScope s_l_disc) f cdv A outer s H E) Z) : JSs (cxOf (L2.CX P w) P w K mg base N_l_disc "_law_disc" (defScope s_l_disc) f cdv A outer s H E) Z (defBody s_l_disc) (m_l_disc Z.e) := by
  subst hcl
  have sc := sc_l_disc
  exact (jss_one (js_ret (je_op jo_sub (je_op (jo_times false) (je_ix (je_var 0) je_int) (je_ix (je_var 0) je_int)) (je_op (jo_times false) (je_op (jo_times false) je_int (je_ix (je_var 0) je_int)) (je_ix (je_var 0) je_int)))))
abbrev s_l_value : Stmt := top 25
abbrev N_l_value : List Str := ["form", "x", "y"]
theorem sc_l_value : FnScope N_l_value ["form", "x", "y"] (defScope s_l_value) := ⟨rfl, rfl, rfl, by decide +kernel, rfl, by decide +kernel, by decide +kernel⟩
theorem d_l_value (T : Txt P w K mg base cl)  {f : Addr} (cdv : Value) (A : Around) (outer : List Env) (s : Shared) (H : Hp) (E : XK) (Z : Zx) (hcl : Z.cl = cl) (hr : Room 0 (A.deeper (envOfC "_law_value" (defScope s_l_value) s.heap.objs.size f cdv))) (ok : ZOk (cxOf (L2.CX P w) P w K mg base N_l_value "_law_value" (defScope s_l_value) f cdv A outer s H E) Z) : JSs (cxOf (L2.CX P w) P w K mg base N_l_value "_law_value" (defScope s_l_value) f cdv A outer s H E) Z (defBody s_l_value) (m_l_value Z.e) := by
  subst hcl
  have sc := sc_l_value
  exact (jss_one (js_ret (je_op (jo_plus false) (je_op (jo_plus false) (je_op (jo_times false) (je_op (jo_times false) (je_ix (je_var 0) je_int) (je_var 1)) (je_var 1)) (je_op (jo_times false) (je_op (jo_times false) (je_ix (je_var 0) je_int) (je_var 1)) (je_var 2))) (je_op (jo_times false) (je_op (jo_times false) (je_ix (je_var 0) je_int) (je_var 2)) (je_var 2)))))
abbrev s_l_changed : Stmt := top 26
abbrev N_l_changed : List Str := ["form", "m", "middle", "p", "q", "r", "s"]
theorem sc_l_changed : FnScope N_l_changed ["form", "m"] (defScope s_l_changed) := ⟨rfl, rfl, rfl, by decide +kernel, rfl, by decide +kernel, by decide +kernel⟩
theorem d_l_changed (T : Txt P w K mg base cl) {f_l_value : Addr} {fd_l_value : FuncData} (G_l_value : Fn P w K mg base cl 1 "_law_value" 3 W_l_value f_l_value fd_l_value ["form", "x", "y"]) (B_l_value : Binds K fd_l_value ["form", "x", "y"] []) {f : Addr} (cdv : Value) (A : Around) (outer : List Env) (s : Shared) (H : Hp) (E : XK) (Z : Zx) (hcl : Z.cl = cl) (hr : Room 1 (A.deeper (envOfC "_law_changed" (defScope s_l_changed) s.heap.objs.size f cdv))) (ok : ZOk (cxOf (L2.CX P w) P w K mg base N_l_changed "_law_changed" (defScope s_l_changed) f cdv A outer s H E) Z) : JSs (cxOf (L2.CX P w) P w K mg base N_l_changed "_law_changed" (defScope s_l_changed) f cdv A outer s H E) Z (defBody s_l_changed) (m_l_changed Z.e) := by
  subst hcl
  have sc := sc_l_changed
  exact (jss_cons (js_asg (je_var 1) (jg_seq rfl (jgs_cons (jg_seq rfl (jgs_cons (jg_name 3 sc.nd) (jgs_cons (jg_name 4 sc.nd) jgs_nil))) (jgs_cons (jg_seq rfl (jgs_cons (jg_name 5 sc.nd) (jgs_cons (jg_name 6 sc.nd) jgs_nil))) jgs_nil))))
  (jss_cons (js_asg (je_op jo_sub (je_op jo_sub (je_call G_l_value ok (hr.mono (by decide)) B_l_value (ja_cons (je_var 0) (ja_cons (je_op (jo_plus false) (je_var 3) (je_var 4)) (ja_cons (je_op (jo_plus false) (je_var 5) (je_var 6)) ja_nil)))) (je_call G_l_value ok (hr.mono (by decide)) B_l_value (ja_cons (je_var 0) (ja_cons (je_var 3) (ja_cons (je_var 5) ja_nil))))) (je_call G_l_value ok (hr.mono (by decide)) B_l_value (ja_cons (je_var 0) (ja_cons (je_var 4) (ja_cons (je_var 6) ja_nil))))) (jg_name 2 sc.nd))
  (jss_one (js_ret (je_tup (ja_cons (je_call G_l_value ok (hr.mono (by decide)) B_l_value (ja_cons (je_var 0) (ja_cons (je_var 3) (ja_cons (je_var 5) ja_nil)))) (ja_cons (je_var 2) (ja_cons (je_call G_l_value ok (hr.mono (by decide)) B_l_value (ja_cons (je_var 0) (ja_cons (je_var 4) (ja_cons (je_var 6) ja_nil)))) ja_nil))))))))
abbrev s_l_times : Stmt := top 27
abbrev N_l_times : List Str := ["m", "n"]
theorem sc_l_times : FnScope N_l_times ["m", "n"] (defScope s_l_times) := ⟨rfl, rfl, rfl, by decide +kernel, rfl, by decide +kernel, by decide +kernel⟩
theorem d_l_times (T : Txt P w K mg base cl)  {f : Addr} (cdv : Value) (A : Around) (outer : List Env) (s : Shared) (H : Hp) (E : XK) (Z : Zx) (hcl : Z.cl = cl) (hr : Room 0 (A.deeper (envOfC "_law_times" (defScope s_l_times) s.heap.objs.size f cdv))) (ok : ZOk (cxOf (L2.CX P w) P w K mg base N_l_times "_law_times" (defScope s_l_times) f cdv A outer s H E) Z) : JSs (cxOf (L2.CX P w) P w K mg base N_l_times "_law_times" (defScope s_l_times) f cdv A outer s H E) Z (defBody s_l_times) (m_l_times Z.e) := by
  subst hcl
  have sc := sc_l_times
  exact (jss_one (js_ret (je_tup (ja_cons (je_tup (ja_cons (je_op (jo_plus false) (je_op (jo_times false) (je_ix (je_ix (je_var 0) je_int) je_int) (je_ix (je_ix (je_var 1) je_int) je_int)) (je_op (jo_times false) (je_ix (je_ix (je_var 0) je_int) je_int) (je_ix (je_ix (je_var 1) je_int) je_int))) (ja_cons (je_op (jo_plus false) (je_op (jo_times false) (je_ix (je_ix (je_var 0) je_int) je_int) (je_ix (je_ix (je_var 1) je_int) je_int)) (je_op (jo_times false) (je_ix (je_ix (je_var 0) je_int) je_int) (je_ix (je_ix (je_var 1) je_int) je_int))) ja_nil))) (ja_cons (je_tup (ja_cons (je_op (jo_plus false) (je_op (jo_times false) (je_ix (je_ix (je_var 0) je_int) je_int) (je_ix (je_ix (je_var 1) je_int) je_int)) (je_op (jo_times false) (je_ix (je_ix (je_var 0) je_int) je_int) (je_ix (je_ix (je_var 1) je_int) je_int))) (ja_cons (je_op (jo_plus false) (je_op (jo_times false) (je_ix (je_ix (je_var 0) je_int) je_int) (je_ix (je_ix (je_var 1) je_int) je_int)) (je_op (jo_times false) (je_ix (je_ix (je_var 0) je_int) je_int) (je_ix (je_ix (je_var 1) je_int) je_int))) ja_nil))) ja_nil)))))
abbrev s_l_shift : Stmt := top 30
abbrev N_l_shift : List Str := ["box", "found", "turn", "k"]
theorem sc_l_shift : FnScope N_l_shift ["box"] (defScope s_l_shift) := ⟨rfl, rfl, rfl, by decide +kernel, rfl, by decide +kernel, by decide +kernel⟩
theorem d_l_shift (T : Txt P w K mg base cl) {f_l_take : Addr} {fd_l_take : FuncData} (G_l_take : Fn P w K mg base cl 1 "_law_take" 2 W_l_take f_l_take fd_l_take ["box", "many"]) (B_l_take : Binds K fd_l_take ["box", "many"] []) {f_l_times : Addr} {fd_l_times : FuncData} (G_l_times : Fn P w K mg base cl 1 "_law_times" 2 W_l_times f_l_times fd_l_times ["m", "n"]) (B_l_times : Binds K fd_l_times ["m", "n"] []) {f : Addr} (cdv : Value) (A : Around) (outer : List Env) (s : Shared) (H : Hp) (E : XK) (Z : Zx) (hcl : Z.cl = cl) (hr : Room 1 (A.deeper (envOfC "_law_shift" (defScope s_l_shift) s.heap.objs.size f cdv))) (ok : ZOk (cxOf (L2.CX P w) P w K mg base N_l_shift "_law_shift" (defScope s_l_shift) f cdv A outer s H E) Z) : JSs (cxOf (L2.CX P w) P w K mg base N_l_shift "_law_shift" (defScope s_l_shift) f cdv A outer s H E) Z (defBody s_l_shift) (m_l_shift Z.e) := by
  subst hcl
  have sc := sc_l_shift
  exact (jss_cons (js_asg (je_tup (ja_cons (je_tup (ja_cons je_int (ja_cons je_int ja_nil))) (ja_cons (je_tup (ja_cons je_int (ja_cons je_int ja_nil))) ja_nil))) (jg_name 1 sc.nd))
  (jss_cons (js_for (passes_of rfl) rfl (ji_rng1 T.b_range (ja_cons (je_call G_l_take ok (hr.mono (by decide)) B_l_take (ja_cons (je_var 0) (ja_cons je_int ja_nil))) ja_nil)) (jg_name 2 sc.nd) (jss_cons (js_asg (je_op jo_sub (je_call G_l_take ok (hr.mono (by decide)) B_l_take (ja_cons (je_var 0) (ja_cons je_int ja_nil))) je_int) (jg_name 3 sc.nd))
  (jss_one (js_asg (je_call G_l_times ok (hr.mono (by decide)) B_l_times (ja_cons (je_var 1) (ja_cons (je_ix (je_lst false (ja_cons (je_tup (ja_cons (je_tup (ja_cons je_int (ja_cons (je_var 3) ja_nil))) (ja_cons (je_tup (ja_cons je_int (ja_cons je_int ja_nil))) ja_nil))) (ja_cons (je_tup (ja_cons (je_tup (ja_cons je_int (ja_cons je_int ja_nil))) (ja_cons (je_tup (ja_cons (je_var 3) (ja_cons je_int ja_nil))) ja_nil))) (ja_cons (je_tup (ja_cons (je_tup (ja_cons je_int (ja_cons (je_neg je_int) ja_nil))) (ja_cons (je_tup (ja_cons je_int (ja_cons je_int ja_nil))) ja_nil))) ja_nil)))) (je_call G_l_take ok (hr.mono (by decide)) B_l_take (ja_cons (je_var 0) (ja_cons je_int ja_nil)))) ja_nil))) (jg_name 1 sc.nd)))))
  (jss_one (js_ret (je_var 1)))))
abbrev s_l_is_small : Stmt := top 31
abbrev N_l_is_small : List Str := ["form", "n"]
theorem sc_l_is_small : FnScope N_l_is_small ["form"] (defScope s_l_is_small) := ⟨rfl, rfl, rfl, by decide +kernel, rfl, by decide +kernel, by decide +kernel⟩
theorem d_l_is_small (T : Txt P w K mg base cl)  {f : Addr} (cdv : Value) (A : Around) (outer : List Env) (s : Shared) (H : Hp) (E : XK) (Z : Zx) (hcl : Z.cl = cl) (hr : Room 0 (A.deeper (envOfC "_law_is_small" (defScope s_l_is_small) s.heap.objs.size f cdv))) (ok : ZOk (cxOf (L2.CX P w) P w K mg base N_l_is_small "_law_is_small" (defScope s_l_is_small) f cdv A outer s H E) Z) : JSs (cxOf (L2.CX P w) P w K mg base N_l_is_small "_law_is_small" (defScope s_l_is_small) f cdv A outer s H E) Z (defBody s_l_is_small) (m_l_is_small Z.e) := by
  subst hcl
  have sc := sc_l_is_small
  exact (jss_one (js_ret (je_cmp (jo_eq hr.units) (je_comp false [("n", 1)] rfl sc.nd (ji_tup (je_var 0)) (blkOk_by (N := N_l_is_small) (sc := defScope s_l_is_small) (by decide +kernel)) (jgw_name 1 (by rintro _ ⟨_, _, _, _, _, rfl⟩; exact pg_name (i := 1) sc.nd rfl (by first | exact Or.inl rfl | exact Or.inr rfl))) (fun Y hY => by obtain ⟨_, _, _, _, _, rfl⟩ := hY; exact (jts_one (jt_cmp jo_gt (je_bltn jf_abs T.b_abs (ja_cons (je_var 1) ja_nil)) je_int))) (fun Y hY => by obtain ⟨_, _, _, _, _, rfl⟩ := hY; exact (je_var 1))) (je_lst false ja_nil))))
abbrev s_l_form : Stmt := top 32
abbrev N_l_form : List Str := ["box", "a", "form", "other", "b", "c"]
theorem sc_l_form : FnScope N_l_form ["box"] (defScope s_l_form) := ⟨rfl, rfl, rfl, by decide +kernel, rfl, by decide +kernel, by decide +kernel⟩
theorem d_l_form (T : Txt P w K mg base cl) {f_l_changed : Addr} {fd_l_changed : FuncData} (G_l_changed : Fn P w K mg base cl 2 "_law_changed" 2 W_l_changed f_l_changed fd_l_changed ["form", "m"]) (B_l_changed : Binds K fd_l_changed ["form", "m"] []) {f_l_is_small : Addr} {fd_l_is_small : FuncData} (G_l_is_small : Fn P w K mg base cl 1 "_law_is_small" 1 W_l_is_small f_l_is_small fd_l_is_small ["form"]) (B_l_is_small : Binds K fd_l_is_small ["form"] []) {f_l_shift : Addr} {fd_l_shift : FuncData} (G_l_shift : Fn P w K mg base cl 2 "_law_shift" 1 W_l_shift f_l_shift fd_l_shift ["box"]) (B_l_shift : Binds K fd_l_shift ["box"] []) {f_l_take : Addr} {fd_l_take : FuncData} (G_l_take : Fn P w K mg base cl 1 "_law_take" 2 W_l_take f_l_take fd_l_take ["box", "many"]) (B_l_take : Binds K fd_l_take ["box", "many"] []) {f : Addr} (cdv : Value) (A : Around) (outer : List Env) (s : Shared) (H : Hp) (E : XK) (Z : Zx) (hcl : Z.cl = cl) (hr : Room 2 (A.deeper (envOfC "_law_form" (defScope s_l_form) s.heap.objs.size f cdv))) (ok : ZOk (cxOf (L2.CX P w) P w K mg base N_l_form "_law_form" (defScope s_l_form) f cdv A outer s H E) Z) : JSs (cxOf (L2.CX P w) P w K mg base N_l_form "_law_form" (defScope s_l_form) f cdv A outer s H E) Z (defBody s_l_form) (m_l_form Z.e) := by
  subst hcl
  have sc := sc_l_form
  exact (jss_cons (js_asg (je_op (jo_plus false) je_int (je_call G_l_take ok (hr.mono (by decide)) B_l_take (ja_cons (je_var 0) (ja_cons (je_ix (je_lst false (ja_cons je_int (ja_cons je_int (ja_cons je_int ja_nil)))) (je_call G_l_take ok (hr.mono (by decide)) B_l_take (ja_cons (je_var 0) (ja_cons je_int ja_nil)))) ja_nil)))) (jg_name 1 sc.nd))
  (jss_cons (js_par 4 5 rfl sc.nd (ja_cons (je_op (jo_plus false) (je_op jo_sub (je_call G_l_take ok (hr.mono (by decide)) B_l_take (ja_cons (je_var 0) (ja_cons (je_op (jo_times false) je_int (je_var 1)) ja_nil))) (je_var 1)) je_int) (ja_cons (je_op (jo_plus false) (je_var 1) (je_call G_l_take ok (hr.mono (by decide)) B_l_take (ja_cons (je_var 0) (ja_cons (je_ix (je_lst false (ja_cons je_int (ja_cons je_int (ja_cons je_int ja_nil)))) (je_call G_l_take ok (hr.mono (by decide)) B_l_take (ja_cons (je_var 0) (ja_cons je_int ja_nil)))) ja_nil)))) ja_nil)))
  (jss_cons (js_asg (je_ix (je_lst false (ja_cons (je_tup (ja_cons (je_var 1) (ja_cons (je_var 4) (ja_cons (je_var 5) ja_nil)))) (ja_cons (je_tup (ja_cons (je_var 1) (ja_cons (je_var 1) (ja_cons (je_var 1) ja_nil)))) (ja_cons (je_tup (ja_cons (je_var 1) (ja_cons je_int (ja_cons (je_var 1) ja_nil)))) (ja_cons (je_tup (ja_cons (je_var 1) (ja_cons (je_var 1) (ja_cons (je_var 5) ja_nil)))) (ja_cons (je_tup (ja_cons (je_var 1) (ja_cons (je_bltn jf_abs T.b_abs (ja_cons (je_var 4) ja_nil)) (ja_cons (je_var 1) ja_nil)))) ja_nil)))))) (je_ix (je_lst false (ja_cons je_int (ja_cons je_int (ja_cons je_int (ja_cons je_int (ja_cons je_int (ja_cons je_int (ja_cons je_int (ja_cons je_int ja_nil))))))))) (je_call G_l_take ok (hr.mono (by decide)) B_l_take (ja_cons (je_var 0) (ja_cons je_int ja_nil))))) (jg_name 2 sc.nd))
  (jss_cons (js_asg (je_call G_l_changed ok (hr.mono (by decide)) B_l_changed (ja_cons (je_var 2) (ja_cons (je_call G_l_shift ok (hr.mono (by decide)) B_l_shift (ja_cons (je_var 0) ja_nil)) ja_nil))) (jg_name 3 sc.nd))
  (jss_one (js_ret (je_if (jt_tru (je_call G_l_is_small ok (hr.mono (by decide)) B_l_is_small (ja_cons (je_var 3) ja_nil))) (je_var 3) (je_var 2))))))))
abbrev s_l_odd_form : Stmt := top 33
abbrev N_l_odd_form : List Str := ["box"]
theorem sc_l_odd_form : FnScope N_l_odd_form ["box"] (defScope s_l_odd_form) := ⟨rfl, rfl, rfl, by decide +kernel, rfl, by decide +kernel, by decide +kernel⟩
theorem d_l_odd_form (T : Txt P w K mg base cl) {f_l_take : Addr} {fd_l_take : FuncData} (G_l_take : Fn P w K mg base cl 1 "_law_take" 2 W_l_take f_l_take fd_l_take ["box", "many"]) (B_l_take : Binds K fd_l_take ["box", "many"] []) {f : Addr} (cdv : Value) (A : Around) (outer : List Env) (s : Shared) (H : Hp) (E : XK) (Z : Zx) (hcl : Z.cl = cl) (hr : Room 1 (A.deeper (envOfC "_law_odd_form" (defScope s_l_odd_form) s.heap.objs.size f cdv))) (ok : ZOk (cxOf (L2.CX P w) P w K mg base N_l_odd_form "_law_odd_form" (defScope s_l_odd_form) f cdv A outer s H E) Z) : JSs (cxOf (L2.CX P w) P w K mg base N_l_odd_form "_law_odd_form" (defScope s_l_odd_form) f cdv A outer s H E) Z (defBody s_l_odd_form) (m_l_odd_form Z.e) := by
  subst hcl
  have sc := sc_l_odd_form
  exact (jss_one (js_ret (je_ix (je_lst false (ja_cons je_non (ja_cons je_int (ja_cons (je_tup (ja_cons je_int (ja_cons je_int ja_nil))) (ja_cons (je_tup (ja_cons je_int (ja_cons je_int (ja_cons je_int (ja_cons je_int ja_nil))))) (ja_cons (je_lst false (ja_cons je_int (ja_cons je_int (ja_cons je_int ja_nil)))) (ja_cons (je_tup (ja_cons je_int (ja_cons je_int (ja_cons je_int ja_nil)))) (ja_cons (je_tup (ja_cons je_int (ja_cons (je_neg je_int) (ja_cons je_int ja_nil)))) (ja_cons (je_tup (ja_cons je_bl (ja_cons je_int (ja_cons je_int ja_nil)))) (ja_cons (je_tup (ja_cons je_str (ja_cons je_int (ja_cons je_int ja_nil)))) (ja_cons (je_tup (ja_cons je_int (ja_cons je_int (ja_cons je_non ja_nil)))) (ja_cons je_str (ja_cons je_dct0 (ja_cons (je_tup (ja_cons (je_tup (ja_cons je_int ja_nil)) (ja_cons je_int (ja_cons je_int ja_nil)))) ja_nil)))))))))))))) (je_call G_l_take ok (hr.mono (by decide)) B_l_take (ja_cons (je_var 0) (ja_cons je_int ja_nil))))))
abbrev s_l_any_form : Stmt := top 35
abbrev N_l_any_form : List Str := ["box", "far", "k"]
theorem sc_l_any_form : FnScope N_l_any_form ["box"] (defScope s_l_any_form) := ⟨rfl, rfl, rfl, by decide +kernel, rfl, by decide +kernel, by decide +kernel⟩
theorem d_l_any_form (T : Txt P w K mg base cl) {f_l_form : Addr} {fd_l_form : FuncData} (G_l_form : Fn P w K mg base cl 3 "_law_form" 1 W_l_form f_l_form fd_l_form ["box"]) (B_l_form : Binds K fd_l_form ["box"] []) {f_l_take : Addr} {fd_l_take : FuncData} (G_l_take : Fn P w K mg base cl 1 "_law_take" 2 W_l_take f_l_take fd_l_take ["box", "many"]) (B_l_take : Binds K fd_l_take ["box", "many"] []) {f : Addr} (cdv : Value) (A : Around) (outer : List Env) (s : Shared) (H : Hp) (E : XK) (Z : Zx) (hcl : Z.cl = cl) (hr : Room 3 (A.deeper (envOfC "_law_any_form" (defScope s_l_any_form) s.heap.objs.size f cdv))) (ok : ZOk (cxOf (L2.CX P w) P w K mg base N_l_any_form "_law_any_form" (defScope s_l_any_form) f cdv A outer s H E) Z) : JSs (cxOf (L2.CX P w) P w K mg base N_l_any_form "_law_any_form" (defScope s_l_any_form) f cdv A outer s H E) Z (defBody s_l_any_form) (m_l_any_form Z.e) := by
  subst hcl
  have sc := sc_l_any_form
  exact (jss_cons (js_if (jt_cmp (jo_eq hr.units) (je_call G_l_take ok (hr.mono (by decide)) B_l_take (ja_cons (je_var 0) (ja_cons je_int ja_nil))) je_int) (jss_one (js_ret (je_call G_l_form ok (hr.mono (by decide)) B_l_form (ja_cons (je_var 0) ja_nil)))) jss_nil)
  (jss_cons (js_asg (je_ix (je_lst false (ja_cons je_int (ja_cons je_int (ja_cons je_int ja_nil)))) (je_call G_l_take ok (hr.mono (by decide)) B_l_take (ja_cons (je_var 0) (ja_cons je_int ja_nil)))) (jg_name 1 sc.nd))
  (jss_one (js_ret (je_type jf_tuple T.b_tuple (ja_cons (je_comp false [("k", 2)] rfl sc.nd (ji_rng1 T.b_range (ja_cons je_int ja_nil)) (blkOk_by (N := N_l_any_form) (sc := defScope s_l_any_form) (by decide +kernel)) (jgw_name 2 (by rintro _ ⟨_, _, _, _, _, rfl⟩; exact pg_name (i := 2) sc.nd rfl (by first | exact Or.inl rfl | exact Or.inr rfl))) (fun Y hY => by obtain ⟨_, _, _, _, _, rfl⟩ := hY; exact jts_nil) (fun Y hY => by obtain ⟨_, _, _, _, _, rfl⟩ := hY; exact (je_op jo_sub (je_call G_l_take ZOk.calm (hr.mono (by decide)) B_l_take (ja_cons (je_var 0) (ja_cons (je_op (jo_plus false) (je_op (jo_times false) je_int (je_var 1)) je_int) ja_nil))) (je_var 1)))) ja_nil))))))
abbrev s_l_any_matrix : Stmt := top 36
abbrev N_l_any_matrix : List Str := ["box", "far", "j", "k"]
theorem sc_l_any_matrix : FnScope N_l_any_matrix ["box"] (defScope s_l_any_matrix) := ⟨rfl, rfl, rfl, by decide +kernel, rfl, by decide +kernel, by decide +kernel⟩
theorem d_l_any_matrix (T : Txt P w K mg base cl) {f_l_shift : Addr} {fd_l_shift : FuncData} (G_l_shift : Fn P w K mg base cl 2 "_law_shift" 1 W_l_shift f_l_shift fd_l_shift ["box"]) (B_l_shift : Binds K fd_l_shift ["box"] []) {f_l_take : Addr} {fd_l_take : FuncData} (G_l_take : Fn P w K mg base cl 1 "_law_take" 2 W_l_take f_l_take fd_l_take ["box", "many"]) (B_l_take : Binds K fd_l_take ["box", "many"] []) {f : Addr} (cdv : Value) (A : Around) (outer : List Env) (s : Shared) (H : Hp) (E : XK) (Z : Zx) (hcl : Z.cl = cl) (hr : Room 2 (A.deeper (envOfC "_law_any_matrix" (defScope s_l_any_matrix) s.heap.objs.size f cdv))) (ok : ZOk (cxOf (L2.CX P w) P w K mg base N_l_any_matrix "_law_any_matrix" (defScope s_l_any_matrix) f cdv A outer s H E) Z) : JSs (cxOf (L2.CX P w) P w K mg base N_l_any_matrix "_law_any_matrix" (defScope s_l_any_matrix) f cdv A outer s H E) Z (defBody s_l_any_matrix) (m_l_any_matrix Z.e) := by
  subst hcl
  have sc := sc_l_any_matrix
  exact (jss_cons (js_if (jt_cmp (jo_eq hr.units) (je_call G_l_take ok (hr.mono (by decide)) B_l_take (ja_cons (je_var 0) (ja_cons je_int ja_nil))) je_int) (jss_one (js_ret (je_call G_l_shift ok (hr.mono (by decide)) B_l_shift (ja_cons (je_var 0) ja_nil)))) jss_nil)
  (jss_cons (js_asg (je_ix (je_lst false (ja_cons je_int (ja_cons je_int (ja_cons je_int ja_nil)))) (je_op jo_div (je_call G_l_take ok (hr.mono (by decide)) B_l_take (ja_cons (je_var 0) (ja_cons je_int ja_nil))) je_int)) (jg_name 1 sc.nd))
  (jss_one (js_ret (je_type jf_tuple T.b_tuple (ja_cons (je_comp false [("j", 2)] rfl sc.nd (ji_rng1 T.b_range (ja_cons je_int ja_nil)) (blkOk_by (N := N_l_any_matrix) (sc := defScope s_l_any_matrix) (by decide +kernel)) (jgw_name 2 (by rintro _ ⟨_, _, _, _, _, rfl⟩; exact pg_name (i := 2) sc.nd rfl (by first | exact Or.inl rfl | exact Or.inr rfl))) (fun Y hY => by obtain ⟨_, _, _, _, _, rfl⟩ := hY; exact jts_nil) (fun Y hY => by obtain ⟨_, _, _, _, _, rfl⟩ := hY; exact (je_type jf_tuple T.b_tuple (ja_cons (je_comp false [("k", 3)] rfl sc.nd (ji_rng1 T.b_range (ja_cons je_int ja_nil)) (blkOk_by (by first | rfl | kernel_rfl)) (jgw_name 3 (by rintro _ ⟨_, _, _, _, _, rfl⟩; exact pg_name (i := 3) sc.nd rfl (by first | exact Or.inl rfl | exact Or.inr rfl))) (fun Y hY => by obtain ⟨_, _, _, _, _, rfl⟩ := hY; exact jts_nil) (fun Y hY => by obtain ⟨_, _, _, _, _, rfl⟩ := hY; exact (je_op jo_sub (je_call G_l_take ZOk.calm (hr.mono (by decide)) B_l_take (ja_cons (je_var 0) (ja_cons (je_op (jo_plus false) (je_op (jo_times false) je_int (je_var 1)) je_int) ja_nil))) (je_var 1)))) ja_nil)))) ja_nil))))))
abbrev s_l_said : Stmt := top 37
abbrev N_l_said : List Str := ["way", "form", "matrix", "e"]
theorem sc_l_said : FnScope N_l_said ["way", "form", "matrix"] (defScope s_l_said) := ⟨rfl, rfl, rfl, by decide +kernel, rfl, by decide +kernel, by decide +kernel⟩
theorem d_l_said (T : Txt P w K mg base cl) {f_changed : Addr} {fd_changed : FuncData} (G_changed : Fn P w K mg base cl 5 "changed" 2 W_changed f_changed fd_changed ["form", "matrix"]) (B_changed : Binds K fd_changed ["form", "matrix"] []) (BK_changed_0_matrix_form : BindK K fd_changed ["form", "matrix"] 0 ["matrix", "form"] [1, 0]) {f_discriminant : Addr} {fd_discriminant : FuncData} (G_discriminant : Fn P w K mg base cl 5 "discriminant" 1 W_discriminant f_discriminant fd_discriminant ["form"]) (B_discriminant : Binds K fd_discriminant ["form"] []) (BK_discriminant_0_form : BindK K fd_discriminant ["form"] 0 ["form"] [0]) {f_value : Addr} {fd_value : FuncData} (G_value : Fn P w K mg base cl 5 "value" 3 W_value f_value fd_value ["form", "x", "y"]) (B_value : Binds K fd_value ["form", "x", "y"] []) (BK_value_0_y_x_form : BindK K fd_value ["form", "x", "y"] 0 ["y", "x", "form"] [2, 1, 0]) {f : Addr} (cdv : Value) (A : Around) (outer : List Env) (s : Shared) (H : Hp) (E : XK) (Z : Zx) (hcl : Z.cl = cl) (hr : Room 5 (A.deeper (envOfC "_law_said" (defScope s_l_said) s.heap.objs.size f cdv))) (ok : ZOk (cxOf (L2.CX P w) P w K mg base N_l_said "_law_said" (defScope s_l_said) f cdv A outer s H E) Z) : JSs (cxOf (L2.CX P w) P w K mg base N_l_said "_law_said" (defScope s_l_said) f cdv A outer s H E) Z (defBody s_l_said) (m_l_said Z.e) := by
  subst hcl
  have sc := sc_l_said
  exact (jss_one (js_try ok sc.nd (fun pn xe Z1 h1 ok1 hp1 => by obtain ⟨cl1, S01, H01, W1, e1⟩ := Z1; cases h1; exact (jss_cons (js_if (jt_cmp jo_lt (je_var 0) je_int) (jss_one (js_ret (je_lst false (ja_cons je_str (ja_cons (je_if (jt_cmp (jo_eq hr.units) (je_var 0) je_int) (je_call G_discriminant ok1 (hr.mono (by decide)) B_discriminant (ja_cons (je_var 1) ja_nil)) (je_callK0 G_discriminant ok1 (hr.mono (by decide)) BK_discriminant_0_form (jk_cons (je_var 1) jk_nil))) ja_nil))))) jss_nil)
  (jss_cons (js_if (jt_cmp jo_lt (je_var 0) je_int) (jss_one (js_ret (je_lst false (ja_cons je_str (ja_cons (je_if (jt_cmp (jo_eq hr.units) (je_var 0) je_int) (je_call G_changed ok1 (hr.mono (by decide)) B_changed (ja_cons (je_var 1) (ja_cons (je_var 2) ja_nil))) (je_callK0 G_changed ok1 (hr.mono (by decide)) BK_changed_0_matrix_form (jk_cons (je_var 2) (jk_cons (je_var 1) jk_nil)))) ja_nil))))) jss_nil)
  (jss_one (js_ret (je_lst false (ja_cons je_str (ja_cons (je_if (jt_cmp (jo_eq hr.units) (je_var 0) je_int) (je_call G_value ok1 (hr.mono (by decide)) B_value (ja_cons (je_var 1) (ja_cons je_int (ja_cons (je_neg je_int) ja_nil)))) (je_callK0 G_value ok1 (hr.mono (by decide)) BK_value_0_y_x_form (jk_cons (je_neg je_int) (jk_cons je_int (jk_cons (je_var 1) jk_nil))))) ja_nil)))))))) (HdJ.cons T.c_InvalidForm T.exm_InvalidForm (fun a oe c1 d pn hk hz hf => (jss_one (js_ret (je_lst false (ja_cons je_str (ja_cons (je_exF (f := "given") (T.xf c1 hk) (T.no_given c1 hk) hz hf (je_var 3)) ja_nil)))))) (HdJ.cons T.c_InvalidMatrix T.exm_InvalidMatrix (fun a oe c1 d pn hk hz hf => (jss_one (js_ret (je_lst false (ja_cons je_str (ja_cons (je_exF (f := "given") (T.xf c1 hk) (T.no_given c1 hk) hz hf (je_var 3)) ja_nil)))))) HdJ.nil))))
abbrev s_l_right : Stmt := top 38
abbrev N_l_right : List Str := ["box", "due", "way", "turn", "turned", "odd", "form", "m", "told", "far", "n", "both", "x", "y", "wrong", "worse"]
theorem sc_l_right : FnScope N_l_right ["box"] (defScope s_l_right) := ⟨rfl, rfl, rfl, by decide +kernel, rfl, by decide +kernel, by decide +kernel⟩
theorem d_l_right (T : Txt P w K mg base cl) {f_l_any_form : Addr} {fd_l_any_form : FuncData} (G_l_any_form : Fn P w K mg base cl 4 "_law_any_form" 1 W_l_any_form f_l_any_form fd_l_any_form ["box"]) (B_l_any_form : Binds K fd_l_any_form ["box"] []) {f_l_any_matrix : Addr} {fd_l_any_matrix : FuncData} (G_l_any_matrix : Fn P w K mg base cl 3 "_law_any_matrix" 1 W_l_any_matrix f_l_any_matrix fd_l_any_matrix ["box"]) (B_l_any_matrix : Binds K fd_l_any_matrix ["box"] []) {f_l_changed : Addr} {fd_l_changed : FuncData} (G_l_changed : Fn P w K mg base cl 2 "_law_changed" 2 W_l_changed f_l_changed fd_l_changed ["form", "m"]) (B_l_changed : Binds K fd_l_changed ["form", "m"] []) {f_l_disc : Addr} {fd_l_disc : FuncData} (G_l_disc : Fn P w K mg base cl 1 "_law_disc" 1 W_l_disc f_l_disc fd_l_disc ["form"]) (B_l_disc : Binds K fd_l_disc ["form"] []) {f_l_is_small : Addr} {fd_l_is_small : FuncData} (G_l_is_small : Fn P w K mg base cl 1 "_law_is_small" 1 W_l_is_small f_l_is_small fd_l_is_small ["form"]) (B_l_is_small : Binds K fd_l_is_small ["form"] []) {f_l_odd_form : Addr} {fd_l_odd_form : FuncData} (G_l_odd_form : Fn P w K mg base cl 2 "_law_odd_form" 1 W_l_odd_form f_l_odd_form fd_l_odd_form ["box"]) (B_l_odd_form : Binds K fd_l_odd_form ["box"] []) {f_l_said : Addr} {fd_l_said : FuncData} (G_l_said : Fn P w K mg base cl 6 "_law_said" 3 W_l_said f_l_said fd_l_said ["way", "form", "matrix"]) (B_l_said : Binds K fd_l_said ["way", "form", "matrix"] []) {f_l_same : Addr} {fd_l_same : FuncData} (G_l_same : Fn P w K mg base cl 14 "_law_same" 2 W_l_same f_l_same fd_l_same ["told", "due"]) (B_l_same : Binds K fd_l_same ["told", "due"] []) {f_l_shift : Addr} {fd_l_shift : FuncData} (G_l_shift : Fn P w K mg base cl 2 "_law_shift" 1 W_l_shift f_l_shift fd_l_shift ["box"]) (B_l_shift : Binds K fd_l_shift ["box"] []) {f_l_take : Addr} {fd_l_take : FuncData} (G_l_take : Fn P w K mg base cl 1 "_law_take" 2 W_l_take f_l_take fd_l_take ["box", "many"]) (B_l_take : Binds K fd_l_take ["box", "many"] []) {f_l_times : Addr} {fd_l_times : FuncData} (G_l_times : Fn P w K mg base cl 1 "_law_times" 2 W_l_times f_l_times fd_l_times ["m", "n"]) (B_l_times : Binds K fd_l_times ["m", "n"] []) {f_l_value : Addr} {fd_l_value : FuncData} (G_l_value : Fn P w K mg base cl 1 "_law_value" 3 W_l_value f_l_value fd_l_value ["form", "x", "y"]) (B_l_value : Binds K fd_l_value ["form", "x", "y"] []) {f_changed : Addr} {fd_changed : FuncData} (G_changed : Fn P w K mg base cl 5 "changed" 2 W_changed f_changed fd_changed ["form", "matrix"]) (B_changed : Binds K fd_changed ["form", "matrix"] []) {f_discriminant : Addr} {fd_discriminant : FuncData} (G_discriminant : Fn P w K mg base cl 5 "discriminant" 1 W_discriminant f_discriminant fd_discriminant ["form"]) (B_discriminant : Binds K fd_discriminant ["form"] []) {f_value : Addr} {fd_value : FuncData} (G_value : Fn P w K mg base cl 5 "value" 3 W_value f_value fd_value ["form", "x", "y"]) (B_value : Binds K fd_value ["form", "x", "y"] []) {f : Addr} (cdv : Value) (A : Around) (outer : List Env) (s : Shared) (H : Hp) (E : XK) (Z : Zx) (hcl : Z.cl = cl) (hr : Room 14 (A.deeper (envOfC "_law_right" (defScope s_l_right) s.heap.objs.size f cdv))) (ok : ZOk (cxOf (L2.CX P w) P w K mg base N_l_right "_law_right" (defScope s_l_right) f cdv A outer s H E) Z) : JSs (cxOf (L2.CX P w) P w K mg base N_l_right "_law_right" (defScope s_l_right) f cdv A outer s H E) Z (defBody s_l_right) (m_l_right Z.e) := by
  subst hcl
  have sc := sc_l_right
  exact (jss_cons (js_asg (je_tup (ja_cons (je_call G_l_any_form ok (hr.mono (by decide)) B_l_any_form (ja_cons (je_var 0) ja_nil)) (ja_cons (je_call G_l_any_matrix ok (hr.mono (by decide)) B_l_any_matrix (ja_cons (je_var 0) ja_nil)) ja_nil))) (jg_seq rfl (jgs_cons (jg_name 6 sc.nd) (jgs_cons (jg_name 7 sc.nd) jgs_nil))))
  (jss_cons (js_asg (je_call G_l_changed ok (hr.mono (by decide)) B_l_changed (ja_cons (je_var 6) (ja_cons (je_var 7) ja_nil))) (jg_name 1 sc.nd))
  (jss_cons (js_for (passes_of rfl) rfl (ji_rng1 T.b_range (ja_cons je_int ja_nil)) (jg_name 2 sc.nd) (jss_cons (js_asg (je_ix (je_lst false (ja_cons (je_call G_l_disc ok (hr.mono (by decide)) B_l_disc (ja_cons (je_var 6) ja_nil)) (ja_cons (je_var 1) (ja_cons (je_call G_l_value ok (hr.mono (by decide)) B_l_value (ja_cons (je_var 6) (ja_cons je_int (ja_cons (je_neg je_int) ja_nil)))) ja_nil)))) (je_op jo_div (je_var 2) je_int)) (jg_name 8 sc.nd))
  (jss_one (js_if (jt_not (jt_tru (je_call G_l_same ok (hr.mono (by decide)) B_l_same (ja_cons (je_call G_l_said ok (hr.mono (by decide)) B_l_said (ja_cons (je_var 2) (ja_cons (je_var 6) (ja_cons (je_var 7) ja_nil)))) (ja_cons (je_lst false (ja_cons je_str (ja_cons (je_var 8) ja_nil))) ja_nil))))) (jss_one (js_ret je_bl)) jss_nil))))
  (jss_cons (js_for (passes_of rfl) rfl (ji_rng1 T.b_range (ja_cons je_int ja_nil)) (jg_name 3 sc.nd) (jss_cons (js_par 12 13 rfl sc.nd (ja_cons (je_op jo_sub (je_call G_l_take ok (hr.mono (by decide)) B_l_take (ja_cons (je_var 0) (ja_cons je_int ja_nil))) je_int) (ja_cons (je_op jo_sub (je_call G_l_take ok (hr.mono (by decide)) B_l_take (ja_cons (je_var 0) (ja_cons je_int ja_nil))) je_int) ja_nil)))
  (jss_cons (js_asg (je_lst false (ja_cons (je_op (jo_plus false) (je_op (jo_times false) (je_ix (je_ix (je_var 7) je_int) je_int) (je_var 12)) (je_op (jo_times false) (je_ix (je_ix (je_var 7) je_int) je_int) (je_var 13))) (ja_cons (je_op (jo_plus false) (je_op (jo_times false) (je_ix (je_ix (je_var 7) je_int) je_int) (je_var 12)) (je_op (jo_times false) (je_ix (je_ix (je_var 7) je_int) je_int) (je_var 13))) ja_nil))) (jg_name 9 sc.nd))
  (jss_one (js_if (JW.jt (jw_or (jt_not (jt_tru (je_call G_l_same ok (hr.mono (by decide)) B_l_same (ja_cons (je_call G_value ok (hr.mono (by decide)) B_value (ja_cons (je_var 6) (ja_cons (je_var 12) (ja_cons (je_var 13) ja_nil)))) (ja_cons (je_call G_l_value ok (hr.mono (by decide)) B_l_value (ja_cons (je_var 6) (ja_cons (je_var 12) (ja_cons (je_var 13) ja_nil)))) ja_nil))))) (jw_or1 (jt_cmp (jo_ne hr.units) (je_call G_l_value ok (hr.mono (by decide)) B_l_value (ja_cons (je_var 1) (ja_cons (je_var 12) (ja_cons (je_var 13) ja_nil)))) (je_call G_l_value ok (hr.mono (by decide)) B_l_value (ja_cons (je_var 6) (ja_cons (je_ix (je_var 9) je_int) (ja_cons (je_ix (je_var 9) je_int) ja_nil)))))))) (jss_one (js_ret je_bl)) jss_nil)))))
  (jss_cons (js_asg (je_op jo_sub (je_op (jo_times false) (je_ix (je_ix (je_var 7) je_int) je_int) (je_ix (je_ix (je_var 7) je_int) je_int)) (je_op (jo_times false) (je_ix (je_ix (je_var 7) je_int) je_int) (je_ix (je_ix (je_var 7) je_int) je_int))) (jg_name 4 sc.nd))
  (jss_cons (js_if (jt_tru (je_call G_l_is_small ok (hr.mono (by decide)) B_l_is_small (ja_cons (je_var 1) ja_nil))) (jss_cons (js_asg (je_call G_l_shift ok (hr.mono (by decide)) B_l_shift (ja_cons (je_var 0) ja_nil)) (jg_name 10 sc.nd))
  (jss_cons (js_asg (je_call G_l_times ok (hr.mono (by decide)) B_l_times (ja_cons (je_var 7) (ja_cons (je_var 10) ja_nil))) (jg_name 11 sc.nd))
  (jss_cons (js_if (jt_not (jt_tru (je_call G_l_same ok (hr.mono (by decide)) B_l_same (ja_cons (je_lst false (ja_cons (je_call G_discriminant ok (hr.mono (by decide)) B_discriminant (ja_cons (je_var 1) ja_nil)) (ja_cons (je_call G_changed ok (hr.mono (by decide)) B_changed (ja_cons (je_var 1) (ja_cons (je_var 10) ja_nil))) ja_nil))) (ja_cons (je_lst false (ja_cons (je_op (jo_times false) (je_op (jo_times false) (je_call G_l_disc ok (hr.mono (by decide)) B_l_disc (ja_cons (je_var 6) ja_nil)) (je_var 4)) (je_var 4)) (ja_cons (je_call G_l_changed ok (hr.mono (by decide)) B_l_changed (ja_cons (je_var 1) (ja_cons (je_var 10) ja_nil))) ja_nil))) ja_nil))))) (jss_one (js_ret je_bl)) jss_nil)
  (jss_one (js_if (JW.jt (jw_and (jt_cmp jo_lt (je_bltn (jf_maxL rfl) T.b_max (ja_cons (je_comp false [("x", 12)] rfl sc.nd (ji_tup (je_op (jo_plus false) (je_ix (je_var 11) je_int) (je_ix (je_var 11) je_int))) (blkOk_by (N := N_l_right) (sc := defScope s_l_right) (by decide +kernel)) (jgw_name 12 (by rintro _ ⟨_, _, _, _, _, rfl⟩; exact pg_name (i := 12) sc.nd rfl (by first | exact Or.inl rfl | exact Or.inr rfl))) (fun Y hY => by obtain ⟨_, _, _, _, _, rfl⟩ := hY; exact jts_nil) (fun Y hY => by obtain ⟨_, _, _, _, _, rfl⟩ := hY; exact (je_bltn jf_abs T.b_abs (ja_cons (je_var 12) ja_nil)))) ja_nil)) je_int) (jw_and1 (jt_not (jt_tru (je_call G_l_same ok (hr.mono (by decide)) B_l_same (ja_cons (je_call G_changed ok (hr.mono (by decide)) B_changed (ja_cons (je_var 6) (ja_cons (je_var 11) ja_nil))) (ja_cons (je_call G_l_changed ok (hr.mono (by decide)) B_l_changed (ja_cons (je_var 1) (ja_cons (je_var 10) ja_nil))) ja_nil)))))))) (jss_one (js_ret je_bl)) jss_nil))))) jss_nil)
  (jss_cons (js_asg (je_lst false (ja_cons je_non (ja_cons je_int (ja_cons (je_tup (ja_cons (je_tup (ja_cons je_int (ja_cons je_int ja_nil))) ja_nil)) (ja_cons (je_tup (ja_cons (je_tup (ja_cons je_int (ja_cons je_int ja_nil))) (ja_cons (je_tup (ja_cons je_int (ja_cons je_int ja_nil))) (ja_cons (je_tup (ja_cons je_int (ja_cons je_int ja_nil))) ja_nil)))) (ja_cons (je_lst false (ja_cons (je_tup (ja_cons je_int (ja_cons je_int ja_nil))) (ja_cons (je_tup (ja_cons je_int (ja_cons je_int ja_nil))) ja_nil))) (ja_cons (je_tup (ja_cons (je_lst false (ja_cons je_int (ja_cons je_int ja_nil))) (ja_cons (je_tup (ja_cons je_int (ja_cons je_int ja_nil))) ja_nil))) (ja_cons (je_tup (ja_cons (je_tup (ja_cons je_int (ja_cons je_int ja_nil))) (ja_cons (je_tup (ja_cons je_int ja_nil)) ja_nil))) (ja_cons (je_tup (ja_cons (je_tup (ja_cons je_int (ja_cons je_int ja_nil))) (ja_cons (je_tup (ja_cons je_int (ja_cons je_int ja_nil))) ja_nil))) (ja_cons (je_tup (ja_cons (je_tup (ja_cons je_bl (ja_cons je_int ja_nil))) (ja_cons (je_tup (ja_cons je_int (ja_cons je_int ja_nil))) ja_nil))) (ja_cons (je_tup (ja_cons (je_tup (ja_cons je_int (ja_cons je_int ja_nil))) (ja_cons (je_tup (ja_cons je_int (ja_cons je_non ja_nil))) ja_nil))) (ja_cons je_str (ja_cons je_dct0 ja_nil))))))))))))) (jg_name 5 sc.nd))
  (jss_cons (js_for (passes_of rfl) rfl (ji_rng1 T.b_range (ja_cons je_int ja_nil)) (jg_name 3 sc.nd) (jss_cons (js_asg (je_tup (ja_cons (je_call G_l_odd_form ok (hr.mono (by decide)) B_l_odd_form (ja_cons (je_var 0) ja_nil)) (ja_cons (je_ix (je_var 5) (je_call G_l_take ok (hr.mono (by decide)) B_l_take (ja_cons (je_var 0) (ja_cons je_int ja_nil)))) ja_nil))) (jg_seq rfl (jgs_cons (jg_name 14 sc.nd) (jgs_cons (jg_name 15 sc.nd) jgs_nil))))
  (jss_cons (js_for (passes_of rfl) rfl (ji_rng1 T.b_range (ja_cons je_int ja_nil)) (jg_name 2 sc.nd) (jss_one (js_if (jt_not (jt_tru (je_call G_l_same ok (hr.mono (by decide)) B_l_same (ja_cons (je_call G_l_said ok (hr.mono (by decide)) B_l_said (ja_cons (je_var 2) (ja_cons (je_var 14) (ja_cons (je_var 15) ja_nil)))) (ja_cons (je_lst false (ja_cons je_str (ja_cons (je_var 14) ja_nil))) ja_nil))))) (jss_one (js_ret je_bl)) jss_nil)))
  (jss_one (js_if (jt_not (jt_tru (je_call G_l_same ok (hr.mono (by decide)) B_l_same (ja_cons (je_comp false [("way", 2)] rfl sc.nd (ji_list (je_lst false (ja_cons je_int (ja_cons je_int ja_nil)))) (blkOk_by (N := N_l_right) (sc := defScope s_l_right) (by decide +kernel)) (jgw_name 2 (by rintro _ ⟨_, _, _, _, _, rfl⟩; exact pg_name (i := 2) sc.nd rfl (by first | exact Or.inl rfl | exact Or.inr rfl))) (fun Y hY => by obtain ⟨_, _, _, _, _, rfl⟩ := hY; exact jts_nil) (fun Y hY => by obtain ⟨_, _, _, _, _, rfl⟩ := hY; exact (je_call G_l_said ZOk.calm (hr.mono (by decide)) B_l_said (ja_cons (je_var 2) (ja_cons (je_var 6) (ja_cons (je_var 15) ja_nil)))))) (ja_cons (je_op (jo_times false) (je_lst false (ja_cons (je_lst false (ja_cons je_str (ja_cons (je_var 15) ja_nil))) ja_nil)) je_int) ja_nil))))) (jss_one (js_ret je_bl)) jss_nil)))))
  (jss_one (js_ret je_bl))))))))))
abbrev s_law : Stmt := top 39
abbrev N_law : List Str := ["script", "k"]
theorem sc_law : FnScope N_law ["script"] (defScope s_law) := ⟨rfl, rfl, rfl, by decide +kernel, rfl, by decide +kernel, by decide +kernel⟩
theorem d_law (T : Txt P w K mg base cl) {f_l_box : Addr} {fd_l_box : FuncData} (G_l_box : Fn P w K mg base cl 1 "_law_box" 1 W_l_box f_l_box fd_l_box ["great"]) (B_l_box : Binds K fd_l_box ["great"] []) {f_l_cell : Addr} {fd_l_cell : FuncData} (G_l_cell : Fn P w K mg base cl 1 "_law_cell" 2 W_l_cell f_l_cell fd_l_cell ["script", "k"]) (B_l_cell : Binds K fd_l_cell ["script", "k"] []) {f_l_right : Addr} {fd_l_right : FuncData} (G_l_right : Fn P w K mg base cl 15 "_law_right" 1 W_l_right f_l_right fd_l_right ["box"]) (B_l_right : Binds K fd_l_right ["box"] []) {f : Addr} (cdv : Value) (A : Around) (outer : List Env) (s : Shared) (H : Hp) (E : XK) (Z : Zx) (hcl : Z.cl = cl) (hr : Room 15 (A.deeper (envOfC "law" (defScope s_law) s.heap.objs.size f cdv))) (ok : ZOk (cxOf (L2.CX P w) P w K mg base N_law "law" (defScope s_law) f cdv A outer s H E) Z) : JSs (cxOf (L2.CX P w) P w K mg base N_law "law" (defScope s_law) f cdv A outer s H E) Z (defBody s_law) (m_law Z.e) := by
  subst hcl
  have sc := sc_law
  exact (jss_cons (js_for (passes_of rfl) rfl (ji_rng1 T.b_range (ja_cons (je_bltn (jf_max2 rfl) T.b_max (ja_cons je_int (ja_cons (je_bltn (jf_min2 rfl) T.b_min (ja_cons je_int (ja_cons (je_bltn jf_len T.b_len (ja_cons (je_var 0) ja_nil)) ja_nil))) ja_nil))) ja_nil)) (jg_name 1 sc.nd) (jss_one (js_if (jt_not (jt_tru (je_call G_l_right ok (hr.mono (by decide)) B_l_right (ja_cons (je_call G_l_box ok (hr.mono (by decide)) B_l_box (ja_cons (je_call G_l_cell ok (hr.mono (by decide)) B_l_cell (ja_cons (je_var 0) (ja_cons (je_var 1) ja_nil))) ja_nil)) ja_nil)))) (jss_one (js_ret je_bl)) jss_nil)))
  (jss_one (js_ret je_bl)))
end
theorem ar_same : ∀ (n : Nat) rs C Q E, WSame n rs C Q E → rs.length = 2 := by
  intro n rs C Q E h; unfold WSame at h; split at h <;> first | rfl | exact h.elim
theorem rec_l_same {P : Program} {w : World} {K : PySem.W.Frag} {mg : Str → Option Value} {base : Heap} {cl : String → Addr} {f : Addr} {fd : FuncData} (F : Fun K "_law_same" "_law_same" s_l_same f fd) (B : Binds K fd ["told", "due"] []) (hmg : mg "_law_same" = some (.ref f)) (T : Txt P w K mg base cl) : Fn P w K mg base cl 14 "_law_same" 2 W_l_same f fd ["told", "due"] :=
  fn_rec (N := N_l_same) (m := m_l_same) WSame F sc_l_same rfl hmg ar_same (fun lvR WR G cdv A outer s H E Z hcl hr ok => d_l_same T G B cdv A outer s H E Z hcl hr ok) (fun n => kp_same n) 13
def clK (K : PySem.W.Frag) (s : String) : Addr := match PySem.W.nsIn K mainGlobals (Str.ofString s) with
  | some (some (.ref C)) => C
  | _ => 0
theorem clK_of {K : PySem.W.Frag} {s : String} {C : Addr} (h : PySem.W.nsIn K mainGlobals (Str.ofString s) = some (some (.ref C))) : clK K s = C := by unfold clK; rw [h]
set_option maxHeartbeats 4000000 in
theorem all_mk {P : Program} {w : World} {K : PySem.W.Frag} {h : Heap} {mg : Str → Option Value} {fa : Addr} (X : K.In h) (G : h.Ns mainGlobals mg) (hfa : mg "law" = some (.ref fa))
    {f_is_integer : Addr} {oc_is_integer kV_is_integer dc_is_integer pm_is_integer cd_is_integer ct_is_integer : Value} {od_is_integer an_is_integer : Option Addr} {sl_is_integer : Array (Option Value)}
    {f_is_between : Addr} {oc_is_between kV_is_between dc_is_between pm_is_between cd_is_between ct_is_between : Value} {od_is_between an_is_between : Option Addr} {sl_is_between : Array (Option Value)}
    {f_is_tuple_of : Addr} {oc_is_tuple_of kV_is_tuple_of dc_is_tuple_of pm_is_tuple_of cd_is_tuple_of ct_is_tuple_of : Value} {od_is_tuple_of an_is_tuple_of : Option Addr} {sl_is_tuple_of : Array (Option Value)}
    {f_is_row : Addr} {oc_is_row kV_is_row dc_is_row pm_is_row cd_is_row ct_is_row : Value} {od_is_row an_is_row : Option Addr} {sl_is_row : Array (Option Value)}
    {f_is_form : Addr} {oc_is_form kV_is_form dc_is_form pm_is_form cd_is_form ct_is_form : Value} {od_is_form an_is_form : Option Addr} {sl_is_form : Array (Option Value)}
    {f_discriminant_of : Addr} {oc_discriminant_of kV_discriminant_of dc_discriminant_of pm_discriminant_of cd_discriminant_of ct_discriminant_of : Value} {od_discriminant_of an_discriminant_of : Option Addr} {sl_discriminant_of : Array (Option Value)}
    {f_discriminant : Addr} {oc_discriminant kV_discriminant dc_discriminant pm_discriminant cd_discriminant ct_discriminant : Value} {od_discriminant an_discriminant : Option Addr} {sl_discriminant : Array (Option Value)}
    {f_value_at : Addr} {oc_value_at kV_value_at dc_value_at pm_value_at cd_value_at ct_value_at : Value} {od_value_at an_value_at : Option Addr} {sl_value_at : Array (Option Value)}
    {f_value : Addr} {oc_value kV_value dc_value pm_value cd_value ct_value : Value} {od_value an_value : Option Addr} {sl_value : Array (Option Value)}
    {f_moved : Addr} {oc_moved kV_moved dc_moved pm_moved cd_moved ct_moved : Value} {od_moved an_moved : Option Addr} {sl_moved : Array (Option Value)}
    {f_is_matrix : Addr} {oc_is_matrix kV_is_matrix dc_is_matrix pm_is_matrix cd_is_matrix ct_is_matrix : Value} {od_is_matrix an_is_matrix : Option Addr} {sl_is_matrix : Array (Option Value)}
    {f_changed : Addr} {oc_changed kV_changed dc_changed pm_changed cd_changed ct_changed : Value} {od_changed an_changed : Option Addr} {sl_changed : Array (Option Value)}
    {f_l_cell : Addr} {oc_l_cell kV_l_cell dc_l_cell pm_l_cell cd_l_cell ct_l_cell : Value} {od_l_cell an_l_cell : Option Addr} {sl_l_cell : Array (Option Value)}
    {f_l_box : Addr} {oc_l_box kV_l_box dc_l_box pm_l_box cd_l_box ct_l_box : Value} {od_l_box an_l_box : Option Addr} {sl_l_box : Array (Option Value)}
    {f_l_take : Addr} {oc_l_take kV_l_take dc_l_take pm_l_take cd_l_take ct_l_take : Value} {od_l_take an_l_take : Option Addr} {sl_l_take : Array (Option Value)}
    {f_l_same : Addr} {oc_l_same kV_l_same dc_l_same pm_l_same cd_l_same ct_l_same : Value} {od_l_same an_l_same : Option Addr} {sl_l_same : Array (Option Value)}
    {f_l_disc : Addr} {oc_l_disc kV_l_disc dc_l_disc pm_l_disc cd_l_disc ct_l_disc : Value} {od_l_disc an_l_disc : Option Addr} {sl_l_disc : Array (Option Value)}
    {f_l_value : Addr} {oc_l_value kV_l_value dc_l_value pm_l_value cd_l_value ct_l_value : Value} {od_l_value an_l_value : Option Addr} {sl_l_value : Array (Option Value)}
    {f_l_changed : Addr} {oc_l_changed kV_l_changed dc_l_changed pm_l_changed cd_l_changed ct_l_changed : Value} {od_l_changed an_l_changed : Option Addr} {sl_l_changed : Array (Option Value)}
    {f_l_times : Addr} {oc_l_times kV_l_times dc_l_times pm_l_times cd_l_times ct_l_times : Value} {od_l_times an_l_times : Option Addr} {sl_l_times : Array (Option Value)}
    {f_l_shift : Addr} {oc_l_shift kV_l_shift dc_l_shift pm_l_shift cd_l_shift ct_l_shift : Value} {od_l_shift an_l_shift : Option Addr} {sl_l_shift : Array (Option Value)}
    {f_l_is_small : Addr} {oc_l_is_small kV_l_is_small dc_l_is_small pm_l_is_small cd_l_is_small ct_l_is_small : Value} {od_l_is_small an_l_is_small : Option Addr} {sl_l_is_small : Array (Option Value)}
    {f_l_form : Addr} {oc_l_form kV_l_form dc_l_form pm_l_form cd_l_form ct_l_form : Value} {od_l_form an_l_form : Option Addr} {sl_l_form : Array (Option Value)}
    {f_l_odd_form : Addr} {oc_l_odd_form kV_l_odd_form dc_l_odd_form pm_l_odd_form cd_l_odd_form ct_l_odd_form : Value} {od_l_odd_form an_l_odd_form : Option Addr} {sl_l_odd_form : Array (Option Value)}
    {f_l_any_form : Addr} {oc_l_any_form kV_l_any_form dc_l_any_form pm_l_any_form cd_l_any_form ct_l_any_form : Value} {od_l_any_form an_l_any_form : Option Addr} {sl_l_any_form : Array (Option Value)}
    {f_l_any_matrix : Addr} {oc_l_any_matrix kV_l_any_matrix dc_l_any_matrix pm_l_any_matrix cd_l_any_matrix ct_l_any_matrix : Value} {od_l_any_matrix an_l_any_matrix : Option Addr} {sl_l_any_matrix : Array (Option Value)}
    {f_l_said : Addr} {oc_l_said kV_l_said dc_l_said pm_l_said cd_l_said ct_l_said : Value} {od_l_said an_l_said : Option Addr} {sl_l_said : Array (Option Value)}
    {f_l_right : Addr} {oc_l_right kV_l_right dc_l_right pm_l_right cd_l_right ct_l_right : Value} {od_l_right an_l_right : Option Addr} {sl_l_right : Array (Option Value)}
    {f_law : Addr} {oc_law kV_law dc_law pm_law cd_law ct_law : Value} {od_law an_law : Option Addr} {sl_law : Array (Option Value)}
    {C_InvalidForm I_InvalidForm N_InvalidForm : Addr} {nm_InvalidForm q_InvalidForm : Str} {bs_InvalidForm bm_InvalidForm : List Value} {sn_InvalidForm : List Str} {su_InvalidForm : List Value} {ab_InvalidForm : Bool} {co_InvalidForm : Option Bool} {dd_InvalidForm : Option Addr} {m0_InvalidForm m1_InvalidForm m2_InvalidForm m3_InvalidForm m5_InvalidForm : Option Value} {oi_InvalidForm ki_InvalidForm di_InvalidForm pi_InvalidForm ci_InvalidForm ti_InvalidForm : Value} {oj_InvalidForm ai_InvalidForm : Option Addr} {si_InvalidForm : Array (Option Value)}
    {C_InvalidMatrix I_InvalidMatrix N_InvalidMatrix : Addr} {nm_InvalidMatrix q_InvalidMatrix : Str} {bs_InvalidMatrix bm_InvalidMatrix : List Value} {sn_InvalidMatrix : List Str} {su_InvalidMatrix : List Value} {ab_InvalidMatrix : Bool} {co_InvalidMatrix : Option Bool} {dd_InvalidMatrix : Option Addr} {m0_InvalidMatrix m1_InvalidMatrix m2_InvalidMatrix m3_InvalidMatrix m5_InvalidMatrix : Option Value} {oi_InvalidMatrix ki_InvalidMatrix di_InvalidMatrix pi_InvalidMatrix ci_InvalidMatrix ti_InvalidMatrix : Value} {oj_InvalidMatrix ai_InvalidMatrix : Option Addr} {si_InvalidMatrix : Array (Option Value)}
    {t_MOST_ITEM : Tok}
    (a_is_integer : PySem.W.nsIn K mainGlobals "is_integer" = some (some (.ref f_is_integer)))
    (l_is_integer : K.lookup f_is_integer = some ⟨oc_is_integer, od_is_integer, .func (PySem.W.fnOf "is_integer" "is_integer" (defArgs s_is_integer) (defBody s_is_integer) (defScope s_is_integer) .none kV_is_integer dc_is_integer pm_is_integer an_is_integer cd_is_integer ct_is_integer), sl_is_integer⟩)
    (c_is_integer : PySem.W.codeIn K cd_is_integer "is_integer" = true)
    (k_is_integer : PySem.W.keepIn K (.ref f_is_integer) = true)
    (a_is_between : PySem.W.nsIn K mainGlobals "is_between" = some (some (.ref f_is_between)))
    (l_is_between : K.lookup f_is_between = some ⟨oc_is_between, od_is_between, .func (PySem.W.fnOf "is_between" "is_between" (defArgs s_is_between) (defBody s_is_between) (defScope s_is_between) .none kV_is_between dc_is_between pm_is_between an_is_between cd_is_between ct_is_between), sl_is_between⟩)
    (c_is_between : PySem.W.codeIn K cd_is_between "is_between" = true)
    (k_is_between : PySem.W.keepIn K (.ref f_is_between) = true)
    (a_is_tuple_of : PySem.W.nsIn K mainGlobals "is_tuple_of" = some (some (.ref f_is_tuple_of)))
    (l_is_tuple_of : K.lookup f_is_tuple_of = some ⟨oc_is_tuple_of, od_is_tuple_of, .func (PySem.W.fnOf "is_tuple_of" "is_tuple_of" (defArgs s_is_tuple_of) (defBody s_is_tuple_of) (defScope s_is_tuple_of) .none kV_is_tuple_of dc_is_tuple_of pm_is_tuple_of an_is_tuple_of cd_is_tuple_of ct_is_tuple_of), sl_is_tuple_of⟩)
    (c_is_tuple_of : PySem.W.codeIn K cd_is_tuple_of "is_tuple_of" = true)
    (k_is_tuple_of : PySem.W.keepIn K (.ref f_is_tuple_of) = true)
    (a_is_row : PySem.W.nsIn K mainGlobals "is_row" = some (some (.ref f_is_row)))
    (l_is_row : K.lookup f_is_row = some ⟨oc_is_row, od_is_row, .func (PySem.W.fnOf "is_row" "is_row" (defArgs s_is_row) (defBody s_is_row) (defScope s_is_row) .none kV_is_row dc_is_row pm_is_row an_is_row cd_is_row ct_is_row), sl_is_row⟩)
    (c_is_row : PySem.W.codeIn K cd_is_row "is_row" = true)
    (k_is_row : PySem.W.keepIn K (.ref f_is_row) = true)
    (a_is_form : PySem.W.nsIn K mainGlobals "is_form" = some (some (.ref f_is_form)))
    (l_is_form : K.lookup f_is_form = some ⟨oc_is_form, od_is_form, .func (PySem.W.fnOf "is_form" "is_form" (defArgs s_is_form) (defBody s_is_form) (defScope s_is_form) .none kV_is_form dc_is_form pm_is_form an_is_form cd_is_form ct_is_form), sl_is_form⟩)
    (c_is_form : PySem.W.codeIn K cd_is_form "is_form" = true)
    (k_is_form : PySem.W.keepIn K (.ref f_is_form) = true)
    (a_discriminant_of : PySem.W.nsIn K mainGlobals "discriminant_of" = some (some (.ref f_discriminant_of)))
    (l_discriminant_of : K.lookup f_discriminant_of = some ⟨oc_discriminant_of, od_discriminant_of, .func (PySem.W.fnOf "discriminant_of" "discriminant_of" (defArgs s_discriminant_of) (defBody s_discriminant_of) (defScope s_discriminant_of) .none kV_discriminant_of dc_discriminant_of pm_discriminant_of an_discriminant_of cd_discriminant_of ct_discriminant_of), sl_discriminant_of⟩)
    (c_discriminant_of : PySem.W.codeIn K cd_discriminant_of "discriminant_of" = true)
    (k_discriminant_of : PySem.W.keepIn K (.ref f_discriminant_of) = true)
    (a_discriminant : PySem.W.nsIn K mainGlobals "discriminant" = some (some (.ref f_discriminant)))
    (l_discriminant : K.lookup f_discriminant = some ⟨oc_discriminant, od_discriminant, .func (PySem.W.fnOf "discriminant" "discriminant" (defArgs s_discriminant) (defBody s_discriminant) (defScope s_discriminant) .none kV_discriminant dc_discriminant pm_discriminant an_discriminant cd_discriminant ct_discriminant), sl_discriminant⟩)
    (c_discriminant : PySem.W.codeIn K cd_discriminant "discriminant" = true)
    (k_discriminant : PySem.W.keepIn K (.ref f_discriminant) = true)
    (a_value_at : PySem.W.nsIn K mainGlobals "value_at" = some (some (.ref f_value_at)))
    (l_value_at : K.lookup f_value_at = some ⟨oc_value_at, od_value_at, .func (PySem.W.fnOf "value_at" "value_at" (defArgs s_value_at) (defBody s_value_at) (defScope s_value_at) .none kV_value_at dc_value_at pm_value_at an_value_at cd_value_at ct_value_at), sl_value_at⟩)
    (c_value_at : PySem.W.codeIn K cd_value_at "value_at" = true)
    (k_value_at : PySem.W.keepIn K (.ref f_value_at) = true)
    (a_value : PySem.W.nsIn K mainGlobals "value" = some (some (.ref f_value)))
    (l_value : K.lookup f_value = some ⟨oc_value, od_value, .func (PySem.W.fnOf "value" "value" (defArgs s_value) (defBody s_value) (defScope s_value) .none kV_value dc_value pm_value an_value cd_value ct_value), sl_value⟩)
    (c_value : PySem.W.codeIn K cd_value "value" = true)
    (k_value : PySem.W.keepIn K (.ref f_value) = true)
    (a_moved : PySem.W.nsIn K mainGlobals "moved" = some (some (.ref f_moved)))
    (l_moved : K.lookup f_moved = some ⟨oc_moved, od_moved, .func (PySem.W.fnOf "moved" "moved" (defArgs s_moved) (defBody s_moved) (defScope s_moved) .none kV_moved dc_moved pm_moved an_moved cd_moved ct_moved), sl_moved⟩)
    (c_moved : PySem.W.codeIn K cd_moved "moved" = true)
    (k_moved : PySem.W.keepIn K (.ref f_moved) = true)
    (a_is_matrix : PySem.W.nsIn K mainGlobals "is_matrix" = some (some (.ref f_is_matrix)))
    (l_is_matrix : K.lookup f_is_matrix = some ⟨oc_is_matrix, od_is_matrix, .func (PySem.W.fnOf "is_matrix" "is_matrix" (defArgs s_is_matrix) (defBody s_is_matrix) (defScope s_is_matrix) .none kV_is_matrix dc_is_matrix pm_is_matrix an_is_matrix cd_is_matrix ct_is_matrix), sl_is_matrix⟩)
    (c_is_matrix : PySem.W.codeIn K cd_is_matrix "is_matrix" = true)
    (k_is_matrix : PySem.W.keepIn K (.ref f_is_matrix) = true)
    (a_changed : PySem.W.nsIn K mainGlobals "changed" = some (some (.ref f_changed)))
    (l_changed : K.lookup f_changed = some ⟨oc_changed, od_changed, .func (PySem.W.fnOf "changed" "changed" (defArgs s_changed) (defBody s_changed) (defScope s_changed) .none kV_changed dc_changed pm_changed an_changed cd_changed ct_changed), sl_changed⟩)
    (c_changed : PySem.W.codeIn K cd_changed "changed" = true)
    (k_changed : PySem.W.keepIn K (.ref f_changed) = true)
    (a_l_cell : PySem.W.nsIn K mainGlobals "_law_cell" = some (some (.ref f_l_cell)))
    (l_l_cell : K.lookup f_l_cell = some ⟨oc_l_cell, od_l_cell, .func (PySem.W.fnOf "_law_cell" "_law_cell" (defArgs s_l_cell) (defBody s_l_cell) (defScope s_l_cell) .none kV_l_cell dc_l_cell pm_l_cell an_l_cell cd_l_cell ct_l_cell), sl_l_cell⟩)
    (c_l_cell : PySem.W.codeIn K cd_l_cell "_law_cell" = true)
    (k_l_cell : PySem.W.keepIn K (.ref f_l_cell) = true)
    (a_l_box : PySem.W.nsIn K mainGlobals "_law_box" = some (some (.ref f_l_box)))
    (l_l_box : K.lookup f_l_box = some ⟨oc_l_box, od_l_box, .func (PySem.W.fnOf "_law_box" "_law_box" (defArgs s_l_box) (defBody s_l_box) (defScope s_l_box) .none kV_l_box dc_l_box pm_l_box an_l_box cd_l_box ct_l_box), sl_l_box⟩)
    (c_l_box : PySem.W.codeIn K cd_l_box "_law_box" = true)
    (k_l_box : PySem.W.keepIn K (.ref f_l_box) = true)
    (a_l_take : PySem.W.nsIn K mainGlobals "_law_take" = some (some (.ref f_l_take)))
    (l_l_take : K.lookup f_l_take = some ⟨oc_l_take, od_l_take, .func (PySem.W.fnOf "_law_take" "_law_take" (defArgs s_l_take) (defBody s_l_take) (defScope s_l_take) .none kV_l_take dc_l_take pm_l_take an_l_take cd_l_take ct_l_take), sl_l_take⟩)
    (c_l_take : PySem.W.codeIn K cd_l_take "_law_take" = true)
    (k_l_take : PySem.W.keepIn K (.ref f_l_take) = true)
    (a_l_same : PySem.W.nsIn K mainGlobals "_law_same" = some (some (.ref f_l_same)))
    (l_l_same : K.lookup f_l_same = some ⟨oc_l_same, od_l_same, .func (PySem.W.fnOf "_law_same" "_law_same" (defArgs s_l_same) (defBody s_l_same) (defScope s_l_same) .none kV_l_same dc_l_same pm_l_same an_l_same cd_l_same ct_l_same), sl_l_same⟩)
    (c_l_same : PySem.W.codeIn K cd_l_same "_law_same" = true)
    (k_l_same : PySem.W.keepIn K (.ref f_l_same) = true)
    (a_l_disc : PySem.W.nsIn K mainGlobals "_law_disc" = some (some (.ref f_l_disc)))
    (l_l_disc : K.lookup f_l_disc = some ⟨oc_l_disc, od_l_disc, .func (PySem.W.fnOf "_law_disc" "_law_disc" (defArgs s_l_disc) (defBody s_l_disc) (defScope s_l_disc) .none kV_l_disc dc_l_disc pm_l_disc an_l_disc cd_l_disc ct_l_disc), sl_l_disc⟩)
    (c_l_disc : PySem.W.codeIn K cd_l_disc "_law_disc" = true)
    (k_l_disc : PySem.W.keepIn K (.ref f_l_disc) = true)
    (a_l_value : PySem.W.nsIn K mainGlobals "_law_value" = some (some (.ref f_l_value)))
    (l_l_value : K.lookup f_l_value = some ⟨oc_l_value, od_l_value, .func (PySem.W.fnOf "_law_value" "_law_value" (defArgs s_l_value) (defBody s_l_value) (defScope s_l_value) .none kV_l_value dc_l_value pm_l_value an_l_value cd_l_value ct_l_value), sl_l_value⟩)
    (c_l_value : PySem.W.codeIn K cd_l_value "_law_value" = true)
    (k_l_value : PySem.W.keepIn K (.ref f_l_value) = true)
    (a_l_changed : PySem.W.nsIn K mainGlobals "_law_changed" = some (some (.ref f_l_changed)))
    (l_l_changed : K.lookup f_l_changed = some ⟨oc_l_changed, od_l_changed, .func (PySem.W.fnOf "_law_changed" "_law_changed" (defArgs s_l_changed) (defBody s_l_changed) (defScope s_l_changed) .none kV_l_changed dc_l_changed pm_l_changed an_l_changed cd_l_changed ct_l_changed), sl_l_changed⟩)
    (c_l_changed : PySem.W.codeIn K cd_l_changed "_law_changed" = true)
    (k_l_changed : PySem.W.keepIn K (.ref f_l_changed) = true)
    (a_l_times : PySem.W.nsIn K mainGlobals "_law_times" = some (some (.ref f_l_times)))
    (l_l_times : K.lookup f_l_times = some ⟨oc_l_times, od_l_times, .func (PySem.W.fnOf "_law_times" "_law_times" (defArgs s_l_times) (defBody s_l_times) (defScope s_l_times) .none kV_l_times dc_l_times pm_l_times an_l_times cd_l_times ct_l_times), sl_l_times⟩)
    (c_l_times : PySem.W.codeIn K cd_l_times "_law_times" = true)
    (k_l_times : PySem.W.keepIn K (.ref f_l_times) = true)
    (a_l_shift : PySem.W.nsIn K mainGlobals "_law_shift" = some (some (.ref f_l_shift)))
    (l_l_shift : K.lookup f_l_shift = some ⟨oc_l_shift, od_l_shift, .func (PySem.W.fnOf "_law_shift" "_law_shift" (defArgs s_l_shift) (defBody s_l_shift) (defScope s_l_shift) .none kV_l_shift dc_l_shift pm_l_shift an_l_shift cd_l_shift ct_l_shift), sl_l_shift⟩)
    (c_l_shift : PySem.W.codeIn K cd_l_shift "_law_shift" = true)
    (k_l_shift : PySem.W.keepIn K (.ref f_l_shift) = true)
    (a_l_is_small : PySem.W.nsIn K mainGlobals "_law_is_small" = some (some (.ref f_l_is_small)))
    (l_l_is_small : K.lookup f_l_is_small = some ⟨oc_l_is_small, od_l_is_small, .func (PySem.W.fnOf "_law_is_small" "_law_is_small" (defArgs s_l_is_small) (defBody s_l_is_small) (defScope s_l_is_small) .none kV_l_is_small dc_l_is_small pm_l_is_small an_l_is_small cd_l_is_small ct_l_is_small), sl_l_is_small⟩)
    (c_l_is_small : PySem.W.codeIn K cd_l_is_small "_law_is_small" = true)
    (k_l_is_small : PySem.W.keepIn K (.ref f_l_is_small) = true)
    (a_l_form : PySem.W.nsIn K mainGlobals "_law_form" = some (some (.ref f_l_form)))
    (l_l_form : K.lookup f_l_form = some ⟨oc_l_form, od_l_form, .func (PySem.W.fnOf "_law_form" "_law_form" (defArgs s_l_form) (defBody s_l_form) (defScope s_l_form) .none kV_l_form dc_l_form pm_l_form an_l_form cd_l_form ct_l_form), sl_l_form⟩)
    (c_l_form : PySem.W.codeIn K cd_l_form "_law_form" = true)
    (k_l_form : PySem.W.keepIn K (.ref f_l_form) = true)
    (a_l_odd_form : PySem.W.nsIn K mainGlobals "_law_odd_form" = some (some (.ref f_l_odd_form)))
    (l_l_odd_form : K.lookup f_l_odd_form = some ⟨oc_l_odd_form, od_l_odd_form, .func (PySem.W.fnOf "_law_odd_form" "_law_odd_form" (defArgs s_l_odd_form) (defBody s_l_odd_form) (defScope s_l_odd_form) .none kV_l_odd_form dc_l_odd_form pm_l_odd_form an_l_odd_form cd_l_odd_form ct_l_odd_form), sl_l_odd_form⟩)
    (c_l_odd_form : PySem.W.codeIn K cd_l_odd_form "_law_odd_form" = true)
    (k_l_odd_form : PySem.W.keepIn K (.ref f_l_odd_form) = true)
    (a_l_any_form : PySem.W.nsIn K mainGlobals "_law_any_form" = some (some (.ref f_l_any_form)))
    (l_l_any_form : K.lookup f_l_any_form = some ⟨oc_l_any_form, od_l_any_form, .func (PySem.W.fnOf "_law_any_form" "_law_any_form" (defArgs s_l_any_form) (defBody s_l_any_form) (defScope s_l_any_form) .none kV_l_any_form dc_l_any_form pm_l_any_form an_l_any_form cd_l_any_form ct_l_any_form), sl_l_any_form⟩)
    (c_l_any_form : PySem.W.codeIn K cd_l_any_form "_law_any_form" = true)
    (k_l_any_form : PySem.W.keepIn K (.ref f_l_any_form) = true)
    (a_l_any_matrix : PySem.W.nsIn K mainGlobals "_law_any_matrix" = some (some (.ref f_l_any_matrix)))
    (l_l_any_matrix : K.lookup f_l_any_matrix = some ⟨oc_l_any_matrix, od_l_any_matrix, .func (PySem.W.fnOf "_law_any_matrix" "_law_any_matrix" (defArgs s_l_any_matrix) (defBody s_l_any_matrix) (defScope s_l_any_matrix) .none kV_l_any_matrix dc_l_any_matrix pm_l_any_matrix an_l_any_matrix cd_l_any_matrix ct_l_any_matrix), sl_l_any_matrix⟩)
    (c_l_any_matrix : PySem.W.codeIn K cd_l_any_matrix "_law_any_matrix" = true)
    (k_l_any_matrix : PySem.W.keepIn K (.ref f_l_any_matrix) = true)
    (a_l_said : PySem.W.nsIn K mainGlobals "_law_said" = some (some (.ref f_l_said)))
    (l_l_said : K.lookup f_l_said = some ⟨oc_l_said, od_l_said, .func (PySem.W.fnOf "_law_said" "_law_said" (defArgs s_l_said) (defBody s_l_said) (defScope s_l_said) .none kV_l_said dc_l_said pm_l_said an_l_said cd_l_said ct_l_said), sl_l_said⟩)
    (c_l_said : PySem.W.codeIn K cd_l_said "_law_said" = true)
    (k_l_said : PySem.W.keepIn K (.ref f_l_said) = true)
    (a_l_right : PySem.W.nsIn K mainGlobals "_law_right" = some (some (.ref f_l_right)))
    (l_l_right : K.lookup f_l_right = some ⟨oc_l_right, od_l_right, .func (PySem.W.fnOf "_law_right" "_law_right" (defArgs s_l_right) (defBody s_l_right) (defScope s_l_right) .none kV_l_right dc_l_right pm_l_right an_l_right cd_l_right ct_l_right), sl_l_right⟩)
    (c_l_right : PySem.W.codeIn K cd_l_right "_law_right" = true)
    (k_l_right : PySem.W.keepIn K (.ref f_l_right) = true)
    (a_law : PySem.W.nsIn K mainGlobals "law" = some (some (.ref f_law)))
    (l_law : K.lookup f_law = some ⟨oc_law, od_law, .func (PySem.W.fnOf "law" "law" (defArgs s_law) (defBody s_law) (defScope s_law) .none kV_law dc_law pm_law an_law cd_law ct_law), sl_law⟩)
    (c_law : PySem.W.codeIn K cd_law "law" = true)
    (k_law : PySem.W.keepIn K (.ref f_law) = true)
    (aC_InvalidForm : PySem.W.nsIn K mainGlobals "InvalidForm" = some (some (.ref C_InvalidForm)))
    (xL_InvalidForm : K.lookup C_InvalidForm = some (excClassObj nm_InvalidForm q_InvalidForm C_InvalidForm N_InvalidForm bs_InvalidForm bm_InvalidForm true sn_InvalidForm su_InvalidForm ab_InvalidForm co_InvalidForm dd_InvalidForm m0_InvalidForm m1_InvalidForm m2_InvalidForm m3_InvalidForm m5_InvalidForm "ValueError.__new__"))
    (rb_InvalidForm : PySem.HandSPX.refsVE bm_InvalidForm = true)
    (sa_InvalidForm : PySem.W.findIn K (.ref C_InvalidForm) "__setattr__" = some (some (.builtin "object.__setattr__")))
    (ga_InvalidForm : PySem.W.findIn K (.ref C_InvalidForm) "__getattribute__" = some (some (.builtin "BaseException.__getattribute__")))
    (gg_InvalidForm : PySem.W.findIn K (.ref C_InvalidForm) "__getattr__" = some none)
    (no_InvalidForm : PySem.W.findIn K (.ref C_InvalidForm) "given" = some none)
    (fi_InvalidForm : PySem.W.findIn K (.ref C_InvalidForm) "__init__" = some (some (.ref I_InvalidForm)))
    (ft_InvalidForm : PySem.W.typeIn K (.ref I_InvalidForm) = some (.type "function"))
    (fl_InvalidForm : K.lookup I_InvalidForm = some ⟨oi_InvalidForm, oj_InvalidForm, .func (PySem.W.fnOf "__init__" "InvalidForm.__init__" (defArgs (inClass (top 2) 0)) (defBody (inClass (top 2) 0)) (defScope (inClass (top 2) 0)) .none ki_InvalidForm di_InvalidForm pi_InvalidForm ai_InvalidForm ci_InvalidForm ti_InvalidForm), si_InvalidForm⟩)
    (fc_InvalidForm : PySem.W.codeIn K ci_InvalidForm "InvalidForm.__init__" = true)
    (fk_InvalidForm : PySem.W.keepIn K (.ref I_InvalidForm) = true)
    (kC_InvalidForm : PySem.W.keepIn K (.ref C_InvalidForm) = true)
    (eC_InvalidForm : PySem.W.subIn K (.ref C_InvalidForm) (.type "BaseException") = some true)
    (tC_InvalidForm : PySem.W.typeIn K (.ref C_InvalidForm) = some (.type "type"))
    (hC_InvalidForm : PySem.W.hasDictIn K C_InvalidForm = true)
    (iC_InvalidForm : PySem.W.isClsIn K C_InvalidForm = true)
    (aC_InvalidMatrix : PySem.W.nsIn K mainGlobals "InvalidMatrix" = some (some (.ref C_InvalidMatrix)))
    (xL_InvalidMatrix : K.lookup C_InvalidMatrix = some (excClassObj nm_InvalidMatrix q_InvalidMatrix C_InvalidMatrix N_InvalidMatrix bs_InvalidMatrix bm_InvalidMatrix true sn_InvalidMatrix su_InvalidMatrix ab_InvalidMatrix co_InvalidMatrix dd_InvalidMatrix m0_InvalidMatrix m1_InvalidMatrix m2_InvalidMatrix m3_InvalidMatrix m5_InvalidMatrix "ValueError.__new__"))
    (rb_InvalidMatrix : PySem.HandSPX.refsVE bm_InvalidMatrix = true)
    (sa_InvalidMatrix : PySem.W.findIn K (.ref C_InvalidMatrix) "__setattr__" = some (some (.builtin "object.__setattr__")))
    (ga_InvalidMatrix : PySem.W.findIn K (.ref C_InvalidMatrix) "__getattribute__" = some (some (.builtin "BaseException.__getattribute__")))
    (gg_InvalidMatrix : PySem.W.findIn K (.ref C_InvalidMatrix) "__getattr__" = some none)
    (no_InvalidMatrix : PySem.W.findIn K (.ref C_InvalidMatrix) "given" = some none)
    (fi_InvalidMatrix : PySem.W.findIn K (.ref C_InvalidMatrix) "__init__" = some (some (.ref I_InvalidMatrix)))
    (ft_InvalidMatrix : PySem.W.typeIn K (.ref I_InvalidMatrix) = some (.type "function"))
    (fl_InvalidMatrix : K.lookup I_InvalidMatrix = some ⟨oi_InvalidMatrix, oj_InvalidMatrix, .func (PySem.W.fnOf "__init__" "InvalidMatrix.__init__" (defArgs (inClass (top 3) 0)) (defBody (inClass (top 3) 0)) (defScope (inClass (top 3) 0)) .none ki_InvalidMatrix di_InvalidMatrix pi_InvalidMatrix ai_InvalidMatrix ci_InvalidMatrix ti_InvalidMatrix), si_InvalidMatrix⟩)
    (fc_InvalidMatrix : PySem.W.codeIn K ci_InvalidMatrix "InvalidMatrix.__init__" = true)
    (fk_InvalidMatrix : PySem.W.keepIn K (.ref I_InvalidMatrix) = true)
    (kC_InvalidMatrix : PySem.W.keepIn K (.ref C_InvalidMatrix) = true)
    (eC_InvalidMatrix : PySem.W.subIn K (.ref C_InvalidMatrix) (.type "BaseException") = some true)
    (tC_InvalidMatrix : PySem.W.typeIn K (.ref C_InvalidMatrix) = some (.type "type"))
    (hC_InvalidMatrix : PySem.W.hasDictIn K C_InvalidMatrix = true)
    (iC_InvalidMatrix : PySem.W.isClsIn K C_InvalidMatrix = true)
    (s_InvalidForm_InvalidForm : PySem.W.subIn K (.ref C_InvalidForm) (.ref C_InvalidForm) = some true)
    (s_InvalidForm_InvalidMatrix : PySem.W.subIn K (.ref C_InvalidForm) (.ref C_InvalidMatrix) = some false)
    (s_InvalidMatrix_InvalidForm : PySem.W.subIn K (.ref C_InvalidMatrix) (.ref C_InvalidForm) = some false)
    (s_InvalidMatrix_InvalidMatrix : PySem.W.subIn K (.ref C_InvalidMatrix) (.ref C_InvalidMatrix) = some true)
    (b_abs : PySem.W.nsIn K mainGlobals "abs" = some none)
    (b_all : PySem.W.nsIn K mainGlobals "all" = some none)
    (b_bool : PySem.W.nsIn K mainGlobals "bool" = some none)
    (b_int : PySem.W.nsIn K mainGlobals "int" = some none)
    (b_isinstance : PySem.W.nsIn K mainGlobals "isinstance" = some none)
    (b_len : PySem.W.nsIn K mainGlobals "len" = some none)
    (b_list : PySem.W.nsIn K mainGlobals "list" = some none)
    (b_max : PySem.W.nsIn K mainGlobals "max" = some none)
    (b_min : PySem.W.nsIn K mainGlobals "min" = some none)
    (b_range : PySem.W.nsIn K mainGlobals "range" = some none)
    (b_str : PySem.W.nsIn K mainGlobals "str" = some none)
    (b_sum : PySem.W.nsIn K mainGlobals "sum" = some none)
    (b_tuple : PySem.W.nsIn K mainGlobals "tuple" = some none)
    (k_MOST_ITEM : PySem.W.nsIn K mainGlobals "MOST_ITEM" = some (some (.int 1000 t_MOST_ITEM))) :
    ∃ fd : FuncData, (∀ (s : Shared) (u : Value), BindsTo s fd ⟨[u], []⟩ [("script", u)]) ∧ ∀ base : Heap, K.In base → base.Ns mainGlobals mg → FnOk P w K mg base (L2.CX P w) 16 fa fd ["script"] (spM K (clK K) 1 W_law) := by
  have e := hfa.symm.trans (PySem.W.mg_of X G a_law)
  cases e
  have F_is_integer := fun_mk (st := s_is_integer) l_is_integer c_is_integer k_is_integer
  have B_is_integer := F_is_integer.binds (ps := ["value"]) fun _ _ _ _ _ _ us hl => match us, hl with | [_], _ => rfl
  have F_is_between := fun_mk (st := s_is_between) l_is_between c_is_between k_is_between
  have B_is_between := F_is_between.binds (ps := ["value", "least", "most"]) fun _ _ _ _ _ _ us hl => match us, hl with | [_, _, _], _ => rfl
  have F_is_tuple_of := fun_mk (st := s_is_tuple_of) l_is_tuple_of c_is_tuple_of k_is_tuple_of
  have B_is_tuple_of := F_is_tuple_of.binds (ps := ["value", "many"]) fun _ _ _ _ _ _ us hl => match us, hl with | [_, _], _ => rfl
  have F_is_row := fun_mk (st := s_is_row) l_is_row c_is_row k_is_row
  have B_is_row := F_is_row.binds (ps := ["value", "many", "least", "most"]) fun _ _ _ _ _ _ us hl => match us, hl with | [_, _, _, _], _ => rfl
  have F_is_form := fun_mk (st := s_is_form) l_is_form c_is_form k_is_form
  have B_is_form := F_is_form.binds (ps := ["value"]) fun _ _ _ _ _ _ us hl => match us, hl with | [_], _ => rfl
  have F_discriminant_of := fun_mk (st := s_discriminant_of) l_discriminant_of c_discriminant_of k_discriminant_of
  have B_discriminant_of := F_discriminant_of.binds (ps := ["form"]) fun _ _ _ _ _ _ us hl => match us, hl with | [_], _ => rfl
  have F_discriminant := fun_mk (st := s_discriminant) l_discriminant c_discriminant k_discriminant
  have B_discriminant := F_discriminant.binds (ps := ["form"]) fun _ _ _ _ _ _ us hl => match us, hl with | [_], _ => rfl
  have BK_discriminant_0_form : BindK K _ ["form"] 0 ["form"] [0] := fun s us ws h1 h2 => match us, ws, h1, h2 with | [], [_], _, _ => BindsTo.of_eq (fd := PySem.W.fnOf "discriminant" "discriminant" (defArgs s_discriminant) (defBody s_discriminant) (defScope s_discriminant) .none kV_discriminant dc_discriminant pm_discriminant an_discriminant cd_discriminant ct_discriminant) rfl
  have F_value_at := fun_mk (st := s_value_at) l_value_at c_value_at k_value_at
  have B_value_at := F_value_at.binds (ps := ["form", "x", "y"]) fun _ _ _ _ _ _ us hl => match us, hl with | [_, _, _], _ => rfl
  have F_value := fun_mk (st := s_value) l_value c_value k_value
  have B_value := F_value.binds (ps := ["form", "x", "y"]) fun _ _ _ _ _ _ us hl => match us, hl with | [_, _, _], _ => rfl
  have BK_value_0_y_x_form : BindK K _ ["form", "x", "y"] 0 ["y", "x", "form"] [2, 1, 0] := fun s us ws h1 h2 => match us, ws, h1, h2 with | [], [_, _, _], _, _ => BindsTo.of_eq (fd := PySem.W.fnOf "value" "value" (defArgs s_value) (defBody s_value) (defScope s_value) .none kV_value dc_value pm_value an_value cd_value ct_value) rfl
  have F_moved := fun_mk (st := s_moved) l_moved c_moved k_moved
  have B_moved := F_moved.binds (ps := ["form", "matrix"]) fun _ _ _ _ _ _ us hl => match us, hl with | [_, _], _ => rfl
  have F_is_matrix := fun_mk (st := s_is_matrix) l_is_matrix c_is_matrix k_is_matrix
  have B_is_matrix := F_is_matrix.binds (ps := ["value"]) fun _ _ _ _ _ _ us hl => match us, hl with | [_], _ => rfl
  have F_changed := fun_mk (st := s_changed) l_changed c_changed k_changed
  have B_changed := F_changed.binds (ps := ["form", "matrix"]) fun _ _ _ _ _ _ us hl => match us, hl with | [_, _], _ => rfl
  have BK_changed_0_matrix_form : BindK K _ ["form", "matrix"] 0 ["matrix", "form"] [1, 0] := fun s us ws h1 h2 => match us, ws, h1, h2 with | [], [_, _], _, _ => BindsTo.of_eq (fd := PySem.W.fnOf "changed" "changed" (defArgs s_changed) (defBody s_changed) (defScope s_changed) .none kV_changed dc_changed pm_changed an_changed cd_changed ct_changed) rfl
  have F_l_cell := fun_mk (st := s_l_cell) l_l_cell c_l_cell k_l_cell
  have B_l_cell := F_l_cell.binds (ps := ["script", "k"]) fun _ _ _ _ _ _ us hl => match us, hl with | [_, _], _ => rfl
  have F_l_box := fun_mk (st := s_l_box) l_l_box c_l_box k_l_box
  have B_l_box := F_l_box.binds (ps := ["great"]) fun _ _ _ _ _ _ us hl => match us, hl with | [_], _ => rfl
  have F_l_take := fun_mk (st := s_l_take) l_l_take c_l_take k_l_take
  have B_l_take := F_l_take.binds (ps := ["box", "many"]) fun _ _ _ _ _ _ us hl => match us, hl with | [_, _], _ => rfl
  have F_l_same := fun_mk (st := s_l_same) l_l_same c_l_same k_l_same
  have B_l_same := F_l_same.binds (ps := ["told", "due"]) fun _ _ _ _ _ _ us hl => match us, hl with | [_, _], _ => rfl
  have F_l_disc := fun_mk (st := s_l_disc) l_l_disc c_l_disc k_l_disc
  have B_l_disc := F_l_disc.binds (ps := ["form"]) fun _ _ _ _ _ _ us hl => match us, hl with | [_], _ => rfl
  have F_l_value := fun_mk (st := s_l_value) l_l_value c_l_value k_l_value
  have B_l_value := F_l_value.binds (ps := ["form", "x", "y"]) fun _ _ _ _ _ _ us hl => match us, hl with | [_, _, _], _ => rfl
  have F_l_changed := fun_mk (st := s_l_changed) l_l_changed c_l_changed k_l_changed
  have B_l_changed := F_l_changed.binds (ps := ["form", "m"]) fun _ _ _ _ _ _ us hl => match us, hl with | [_, _], _ => rfl
  have F_l_times := fun_mk (st := s_l_times) l_l_times c_l_times k_l_times
  have B_l_times := F_l_times.binds (ps := ["m", "n"]) fun _ _ _ _ _ _ us hl => match us, hl with | [_, _], _ => rfl
  have F_l_shift := fun_mk (st := s_l_shift) l_l_shift c_l_shift k_l_shift
  have B_l_shift := F_l_shift.binds (ps := ["box"]) fun _ _ _ _ _ _ us hl => match us, hl with | [_], _ => rfl
  have F_l_is_small := fun_mk (st := s_l_is_small) l_l_is_small c_l_is_small k_l_is_small
  have B_l_is_small := F_l_is_small.binds (ps := ["form"]) fun _ _ _ _ _ _ us hl => match us, hl with | [_], _ => rfl
  have F_l_form := fun_mk (st := s_l_form) l_l_form c_l_form k_l_form
  have B_l_form := F_l_form.binds (ps := ["box"]) fun _ _ _ _ _ _ us hl => match us, hl with | [_], _ => rfl
  have F_l_odd_form := fun_mk (st := s_l_odd_form) l_l_odd_form c_l_odd_form k_l_odd_form
  have B_l_odd_form := F_l_odd_form.binds (ps := ["box"]) fun _ _ _ _ _ _ us hl => match us, hl with | [_], _ => rfl
  have F_l_any_form := fun_mk (st := s_l_any_form) l_l_any_form c_l_any_form k_l_any_form
  have B_l_any_form := F_l_any_form.binds (ps := ["box"]) fun _ _ _ _ _ _ us hl => match us, hl with | [_], _ => rfl
  have F_l_any_matrix := fun_mk (st := s_l_any_matrix) l_l_any_matrix c_l_any_matrix k_l_any_matrix
  have B_l_any_matrix := F_l_any_matrix.binds (ps := ["box"]) fun _ _ _ _ _ _ us hl => match us, hl with | [_], _ => rfl
  have F_l_said := fun_mk (st := s_l_said) l_l_said c_l_said k_l_said
  have B_l_said := F_l_said.binds (ps := ["way", "form", "matrix"]) fun _ _ _ _ _ _ us hl => match us, hl with | [_, _, _], _ => rfl
  have F_l_right := fun_mk (st := s_l_right) l_l_right c_l_right k_l_right
  have B_l_right := F_l_right.binds (ps := ["box"]) fun _ _ _ _ _ _ us hl => match us, hl with | [_], _ => rfl
  have F_law := fun_mk (st := s_law) l_law c_law k_law
  have B_law := F_law.binds (ps := ["script"]) fun _ _ _ _ _ _ us hl => match us, hl with | [_], _ => rfl
  refine ⟨_, fun s u => BindsTo.of_eq (fd := PySem.W.fnOf "law" "law" (defArgs s_law) (defBody s_law) (defScope s_law) .none kV_law dc_law pm_law an_law cd_law ct_law) rfl, fun base KB GB => ?_⟩
  have e_InvalidForm := clK_of (s := "InvalidForm") aC_InvalidForm
  have e_InvalidMatrix := clK_of (s := "InvalidMatrix") aC_InvalidMatrix
  have ox_InvalidForm : OexC K C_InvalidForm := ⟨⟨_, _, _, _, _, _, _, _, _, _, _, _, _, _, _, xL_InvalidForm, rb_InvalidForm⟩, sa_InvalidForm, eC_InvalidForm, tC_InvalidForm, kC_InvalidForm⟩
  have FI_InvalidForm := fun_mk (st := (inClass (top 2) 0)) fl_InvalidForm fc_InvalidForm fk_InvalidForm
  have in_InvalidForm : FnOk P w K mg base CX0 1 I_InvalidForm _ ["self", "given"] (spIni C_InvalidForm (Str.ofString "given")) := ini_ok FI_InvalidForm ⟨rfl, rfl, rfl, by decide +kernel, rfl, by decide +kernel, by decide +kernel⟩ ox_InvalidForm no_InvalidForm rfl (Or.inl rfl) (Or.inl rfl) (by decide) (by decide) (fun _ => rfl)
  have bi_InvalidForm := FI_InvalidForm.binds (ps := ["self", "given"]) fun _ _ _ _ _ _ us hl => match us, hl with | [_, _], _ => rfl
  have ox_InvalidMatrix : OexC K C_InvalidMatrix := ⟨⟨_, _, _, _, _, _, _, _, _, _, _, _, _, _, _, xL_InvalidMatrix, rb_InvalidMatrix⟩, sa_InvalidMatrix, eC_InvalidMatrix, tC_InvalidMatrix, kC_InvalidMatrix⟩
  have FI_InvalidMatrix := fun_mk (st := (inClass (top 3) 0)) fl_InvalidMatrix fc_InvalidMatrix fk_InvalidMatrix
  have in_InvalidMatrix : FnOk P w K mg base CX0 1 I_InvalidMatrix _ ["self", "given"] (spIni C_InvalidMatrix (Str.ofString "given")) := ini_ok FI_InvalidMatrix ⟨rfl, rfl, rfl, by decide +kernel, rfl, by decide +kernel, by decide +kernel⟩ ox_InvalidMatrix no_InvalidMatrix rfl (Or.inl rfl) (Or.inl rfl) (by decide) (by decide) (fun _ => rfl)
  have bi_InvalidMatrix := FI_InvalidMatrix.binds (ps := ["self", "given"]) fun _ _ _ _ _ _ us hl => match us, hl with | [_, _], _ => rfl
  have T : Txt P w K mg base (clK K) := {
    b_abs := PySem.W.mg_none_of X G b_abs
    b_all := PySem.W.mg_none_of X G b_all
    b_bool := PySem.W.mg_none_of X G b_bool
    b_int := PySem.W.mg_none_of X G b_int
    b_isinstance := PySem.W.mg_none_of X G b_isinstance
    b_len := PySem.W.mg_none_of X G b_len
    b_list := PySem.W.mg_none_of X G b_list
    b_max := PySem.W.mg_none_of X G b_max
    b_min := PySem.W.mg_none_of X G b_min
    b_range := PySem.W.mg_none_of X G b_range
    b_str := PySem.W.mg_none_of X G b_str
    b_sum := PySem.W.mg_none_of X G b_sum
    b_tuple := PySem.W.mg_none_of X G b_tuple
    c_InvalidForm := by rw [e_InvalidForm]; exact PySem.W.mg_of X G aC_InvalidForm
    c_InvalidMatrix := by rw [e_InvalidMatrix]; exact PySem.W.mg_of X G aC_InvalidMatrix
    x_InvalidForm := ⟨by rw [e_InvalidForm]; exact ox_InvalidForm, by rw [e_InvalidForm]; exact ⟨_, _, _, fi_InvalidForm, ft_InvalidForm, in_InvalidForm, bi_InvalidForm⟩, by rw [e_InvalidForm]; exact PySem.W.mg_of X G aC_InvalidForm⟩
    x_InvalidMatrix := ⟨by rw [e_InvalidMatrix]; exact ox_InvalidMatrix, by rw [e_InvalidMatrix]; exact ⟨_, _, _, fi_InvalidMatrix, ft_InvalidMatrix, in_InvalidMatrix, bi_InvalidMatrix⟩, by rw [e_InvalidMatrix]; exact PySem.W.mg_of X G aC_InvalidMatrix⟩
    exm_InvalidForm := by
      intro c1 hc
      simp only [knE, List.mem_cons, List.not_mem_nil, or_false] at hc
      rcases hc with rfl | rfl
      · rw [e_InvalidForm]; exact (PySem.W.exm_ref eC_InvalidForm hC_InvalidForm tC_InvalidForm s_InvalidForm_InvalidForm).trans (by decide +kernel)
      · rw [e_InvalidMatrix, e_InvalidForm]; exact (PySem.W.exm_ref eC_InvalidForm hC_InvalidForm tC_InvalidForm s_InvalidMatrix_InvalidForm).trans (by decide +kernel)

    exm_InvalidMatrix := by
      intro c1 hc
      simp only [knE, List.mem_cons, List.not_mem_nil, or_false] at hc
      rcases hc with rfl | rfl
      · rw [e_InvalidForm, e_InvalidMatrix]; exact (PySem.W.exm_ref eC_InvalidMatrix hC_InvalidMatrix tC_InvalidMatrix s_InvalidForm_InvalidMatrix).trans (by decide +kernel)
      · rw [e_InvalidMatrix]; exact (PySem.W.exm_ref eC_InvalidMatrix hC_InvalidMatrix tC_InvalidMatrix s_InvalidMatrix_InvalidMatrix).trans (by decide +kernel)

    xf := by
      intro c1 hc
      simp only [knE, List.mem_cons, List.not_mem_nil, or_false] at hc
      rcases hc with rfl | rfl
      · rw [e_InvalidForm]; exact ⟨ga_InvalidForm, gg_InvalidForm, eC_InvalidForm, hC_InvalidForm⟩
      · rw [e_InvalidMatrix]; exact ⟨ga_InvalidMatrix, gg_InvalidMatrix, eC_InvalidMatrix, hC_InvalidMatrix⟩

    no_given := by
      intro c1 hc
      simp only [knE, List.mem_cons, List.not_mem_nil, or_false] at hc
      rcases hc with rfl | rfl
      · rw [e_InvalidForm]; exact no_InvalidForm
      · rw [e_InvalidMatrix]; exact no_InvalidMatrix

    k_MOST_ITEM := ⟨_, PySem.W.mg_of X G k_MOST_ITEM⟩ }
  have G_is_integer : Fn P w K mg base (clK K) 1 "is_integer" 1 W_is_integer f_is_integer _ ["value"] := fn_M F_is_integer sc_is_integer rfl (PySem.W.mg_of X G a_is_integer) ar_is_integer (fun cdv A outer s H E Z hcl hr ok => d_is_integer T  cdv A outer s H E Z hcl hr ok) kp_is_integer
  have G_is_between : Fn P w K mg base (clK K) 2 "is_between" 3 W_is_between f_is_between _ ["value", "least", "most"] := fn_M F_is_between sc_is_between rfl (PySem.W.mg_of X G a_is_between) ar_is_between (fun cdv A outer s H E Z hcl hr ok => d_is_between T G_is_integer B_is_integer cdv A outer s H E Z hcl hr ok) kp_is_between
  have G_is_tuple_of : Fn P w K mg base (clK K) 1 "is_tuple_of" 2 W_is_tuple_of f_is_tuple_of _ ["value", "many"] := fn_M F_is_tuple_of sc_is_tuple_of rfl (PySem.W.mg_of X G a_is_tuple_of) ar_is_tuple_of (fun cdv A outer s H E Z hcl hr ok => d_is_tuple_of T  cdv A outer s H E Z hcl hr ok) kp_is_tuple_of
  have G_is_row : Fn P w K mg base (clK K) 3 "is_row" 4 W_is_row f_is_row _ ["value", "many", "least", "most"] := fn_M F_is_row sc_is_row rfl (PySem.W.mg_of X G a_is_row) ar_is_row (fun cdv A outer s H E Z hcl hr ok => d_is_row T G_is_between B_is_between G_is_tuple_of B_is_tuple_of cdv A outer s H E Z hcl hr ok) kp_is_row
  have G_is_form : Fn P w K mg base (clK K) 4 "is_form" 1 W_is_form f_is_form _ ["value"] := fn_M F_is_form sc_is_form rfl (PySem.W.mg_of X G a_is_form) ar_is_form (fun cdv A outer s H E Z hcl hr ok => d_is_form T G_is_row B_is_row cdv A outer s H E Z hcl hr ok) kp_is_form
  have G_discriminant_of : Fn P w K mg base (clK K) 1 "discriminant_of" 1 W_discriminant_of f_discriminant_of _ ["form"] := fn_M F_discriminant_of sc_discriminant_of rfl (PySem.W.mg_of X G a_discriminant_of) ar_discriminant_of (fun cdv A outer s H E Z hcl hr ok => d_discriminant_of T  cdv A outer s H E Z hcl hr ok) kp_discriminant_of
  have G_discriminant : Fn P w K mg base (clK K) 5 "discriminant" 1 W_discriminant f_discriminant _ ["form"] := fn_M F_discriminant sc_discriminant rfl (PySem.W.mg_of X G a_discriminant) ar_discriminant (fun cdv A outer s H E Z hcl hr ok => d_discriminant T G_discriminant_of B_discriminant_of G_is_form B_is_form cdv A outer s H E Z hcl hr ok) kp_discriminant
  have G_value_at : Fn P w K mg base (clK K) 1 "value_at" 3 W_value_at f_value_at _ ["form", "x", "y"] := fn_M F_value_at sc_value_at rfl (PySem.W.mg_of X G a_value_at) ar_value_at (fun cdv A outer s H E Z hcl hr ok => d_value_at T  cdv A outer s H E Z hcl hr ok) kp_value_at
  have G_value : Fn P w K mg base (clK K) 5 "value" 3 W_value f_value _ ["form", "x", "y"] := fn_M F_value sc_value rfl (PySem.W.mg_of X G a_value) ar_value (fun cdv A outer s H E Z hcl hr ok => d_value T G_is_form B_is_form G_value_at B_value_at cdv A outer s H E Z hcl hr ok) kp_value
  have G_moved : Fn P w K mg base (clK K) 2 "moved" 2 W_moved f_moved _ ["form", "matrix"] := fn_M F_moved sc_moved rfl (PySem.W.mg_of X G a_moved) ar_moved (fun cdv A outer s H E Z hcl hr ok => d_moved T G_value_at B_value_at cdv A outer s H E Z hcl hr ok) kp_moved
  have G_is_matrix : Fn P w K mg base (clK K) 4 "is_matrix" 1 W_is_matrix f_is_matrix _ ["value"] := fn_M F_is_matrix sc_is_matrix rfl (PySem.W.mg_of X G a_is_matrix) ar_is_matrix (fun cdv A outer s H E Z hcl hr ok => d_is_matrix T G_is_row B_is_row G_is_tuple_of B_is_tuple_of cdv A outer s H E Z hcl hr ok) kp_is_matrix
  have G_changed : Fn P w K mg base (clK K) 5 "changed" 2 W_changed f_changed _ ["form", "matrix"] := fn_M F_changed sc_changed rfl (PySem.W.mg_of X G a_changed) ar_changed (fun cdv A outer s H E Z hcl hr ok => d_changed T G_is_form B_is_form G_is_matrix B_is_matrix G_moved B_moved cdv A outer s H E Z hcl hr ok) kp_changed
  have G_l_cell : Fn P w K mg base (clK K) 1 "_law_cell" 2 W_l_cell f_l_cell _ ["script", "k"] := fn_M F_l_cell sc_l_cell rfl (PySem.W.mg_of X G a_l_cell) ar_l_cell (fun cdv A outer s H E Z hcl hr ok => d_l_cell T  cdv A outer s H E Z hcl hr ok) kp_l_cell
  have G_l_box : Fn P w K mg base (clK K) 1 "_law_box" 1 W_l_box f_l_box _ ["great"] := fn_M F_l_box sc_l_box rfl (PySem.W.mg_of X G a_l_box) ar_l_box (fun cdv A outer s H E Z hcl hr ok => d_l_box T  cdv A outer s H E Z hcl hr ok) kp_l_box
  have G_l_take : Fn P w K mg base (clK K) 1 "_law_take" 2 W_l_take f_l_take _ ["box", "many"] := fn_M F_l_take sc_l_take rfl (PySem.W.mg_of X G a_l_take) ar_l_take (fun cdv A outer s H E Z hcl hr ok => d_l_take T  cdv A outer s H E Z hcl hr ok) kp_l_take
  have G_l_same := rec_l_same F_l_same B_l_same (PySem.W.mg_of X G a_l_same) T
  have G_l_disc : Fn P w K mg base (clK K) 1 "_law_disc" 1 W_l_disc f_l_disc _ ["form"] := fn_M F_l_disc sc_l_disc rfl (PySem.W.mg_of X G a_l_disc) ar_l_disc (fun cdv A outer s H E Z hcl hr ok => d_l_disc T  cdv A outer s H E Z hcl hr ok) kp_l_disc
  have G_l_value : Fn P w K mg base (clK K) 1 "_law_value" 3 W_l_value f_l_value _ ["form", "x", "y"] := fn_M F_l_value sc_l_value rfl (PySem.W.mg_of X G a_l_value) ar_l_value (fun cdv A outer s H E Z hcl hr ok => d_l_value T  cdv A outer s H E Z hcl hr ok) kp_l_value
  have G_l_changed : Fn P w K mg base (clK K) 2 "_law_changed" 2 W_l_changed f_l_changed _ ["form", "m"] := fn_M F_l_changed sc_l_changed rfl (PySem.W.mg_of X G a_l_changed) ar_l_changed (fun cdv A outer s H E Z hcl hr ok => d_l_changed T G_l_value B_l_value cdv A outer s H E Z hcl hr ok) kp_l_changed
  have G_l_times : Fn P w K mg base (clK K) 1 "_law_times" 2 W_l_times f_l_times _ ["m", "n"] := fn_M F_l_times sc_l_times rfl (PySem.W.mg_of X G a_l_times) ar_l_times (fun cdv A outer s H E Z hcl hr ok => d_l_times T  cdv A outer s H E Z hcl hr ok) kp_l_times
  have G_l_shift : Fn P w K mg base (clK K) 2 "_law_shift" 1 W_l_shift f_l_shift _ ["box"] := fn_M F_l_shift sc_l_shift rfl (PySem.W.mg_of X G a_l_shift) ar_l_shift (fun cdv A outer s H E Z hcl hr ok => d_l_shift T G_l_take B_l_take G_l_times B_l_times cdv A outer s H E Z hcl hr ok) kp_l_shift
  have G_l_is_small : Fn P w K mg base (clK K) 1 "_law_is_small" 1 W_l_is_small f_l_is_small _ ["form"] := fn_M F_l_is_small sc_l_is_small rfl (PySem.W.mg_of X G a_l_is_small) ar_l_is_small (fun cdv A outer s H E Z hcl hr ok => d_l_is_small T  cdv A outer s H E Z hcl hr ok) kp_l_is_small
  have G_l_form : Fn P w K mg base (clK K) 3 "_law_form" 1 W_l_form f_l_form _ ["box"] := fn_M F_l_form sc_l_form rfl (PySem.W.mg_of X G a_l_form) ar_l_form (fun cdv A outer s H E Z hcl hr ok => d_l_form T G_l_changed B_l_changed G_l_is_small B_l_is_small G_l_shift B_l_shift G_l_take B_l_take cdv A outer s H E Z hcl hr ok) kp_l_form
  have G_l_odd_form : Fn P w K mg base (clK K) 2 "_law_odd_form" 1 W_l_odd_form f_l_odd_form _ ["box"] := fn_M F_l_odd_form sc_l_odd_form rfl (PySem.W.mg_of X G a_l_odd_form) ar_l_odd_form (fun cdv A outer s H E Z hcl hr ok => d_l_odd_form T G_l_take B_l_take cdv A outer s H E Z hcl hr ok) kp_l_odd_form
  have G_l_any_form : Fn P w K mg base (clK K) 4 "_law_any_form" 1 W_l_any_form f_l_any_form _ ["box"] := fn_M F_l_any_form sc_l_any_form rfl (PySem.W.mg_of X G a_l_any_form) ar_l_any_form (fun cdv A outer s H E Z hcl hr ok => d_l_any_form T G_l_form B_l_form G_l_take B_l_take cdv A outer s H E Z hcl hr ok) kp_l_any_form
  have G_l_any_matrix : Fn P w K mg base (clK K) 3 "_law_any_matrix" 1 W_l_any_matrix f_l_any_matrix _ ["box"] := fn_M F_l_any_matrix sc_l_any_matrix rfl (PySem.W.mg_of X G a_l_any_matrix) ar_l_any_matrix (fun cdv A outer s H E Z hcl hr ok => d_l_any_matrix T G_l_shift B_l_shift G_l_take B_l_take cdv A outer s H E Z hcl hr ok) kp_l_any_matrix
  have G_l_said : Fn P w K mg base (clK K) 6 "_law_said" 3 W_l_said f_l_said _ ["way", "form", "matrix"] := fn_M F_l_said sc_l_said rfl (PySem.W.mg_of X G a_l_said) ar_l_said (fun cdv A outer s H E Z hcl hr ok => d_l_said T G_changed B_changed BK_changed_0_matrix_form G_discriminant B_discriminant BK_discriminant_0_form G_value B_value BK_value_0_y_x_form cdv A outer s H E Z hcl hr ok) kp_l_said
  have G_l_right : Fn P w K mg base (clK K) 15 "_law_right" 1 W_l_right f_l_right _ ["box"] := fn_M F_l_right sc_l_right rfl (PySem.W.mg_of X G a_l_right) ar_l_right (fun cdv A outer s H E Z hcl hr ok => d_l_right T G_l_any_form B_l_any_form G_l_any_matrix B_l_any_matrix G_l_changed B_l_changed G_l_disc B_l_disc G_l_is_small B_l_is_small G_l_odd_form B_l_odd_form G_l_said B_l_said G_l_same B_l_same G_l_shift B_l_shift G_l_take B_l_take G_l_times B_l_times G_l_value B_l_value G_changed B_changed G_discriminant B_discriminant G_value B_value cdv A outer s H E Z hcl hr ok) kp_l_right
  have G_law : Fn P w K mg base (clK K) 16 "law" 1 W_law fa _ ["script"] := fn_M F_law sc_law rfl (PySem.W.mg_of X G a_law) ar_law (fun cdv A outer s H E Z hcl hr ok => d_law T G_l_box B_l_box G_l_cell B_l_cell G_l_right B_l_right cdv A outer s H E Z hcl hr ok) kp_law
  exact G_law.ok
end NB
open PySem PySem.W PyProof.Rows
set_option maxRecDepth 100000 in
set_option maxHeartbeats 0 in
theorem PySem.Challenge.cw_numberbench_k33_forms_holds : PySem.Challenge.rw_numberbench_k33_forms.Holds := by
  w_on; o_law; k_head; (case hw => w_witness2)
  k_fill
  refine NB.law_end (l := PySem.Challenge.rw_numberbench_k33_forms) (x := "script") (lv := 16) (cl := NB.clK) (wt := NB.W_law) rfl rfl ⟨rfl, by decide, by decide⟩ (fun w h Y => PySem.W.kIn_of Y) NB.law_true ?F
  case F =>
    intro w mg fa h KX G hmg
    refine' NB.all_mk KX G hmg ?a_is_integer ?l_is_integer ?c_is_integer ?k_is_integer ?a_is_between ?l_is_between ?c_is_between ?k_is_between ?a_is_tuple_of ?l_is_tuple_of ?c_is_tuple_of ?k_is_tuple_of ?a_is_row ?l_is_row ?c_is_row ?k_is_row ?a_is_form ?l_is_form ?c_is_form ?k_is_form ?a_discriminant_of ?l_discriminant_of ?c_discriminant_of ?k_discriminant_of ?a_discriminant ?l_discriminant ?c_discriminant ?k_discriminant ?a_value_at ?l_value_at ?c_value_at ?k_value_at ?a_value ?l_value ?c_value ?k_value ?a_moved ?l_moved ?c_moved ?k_moved ?a_is_matrix ?l_is_matrix ?c_is_matrix ?k_is_matrix ?a_changed ?l_changed ?c_changed ?k_changed ?a_l_cell ?l_l_cell ?c_l_cell ?k_l_cell ?a_l_box ?l_l_box ?c_l_box ?k_l_box ?a_l_take ?l_l_take ?c_l_take ?k_l_take ?a_l_same ?l_l_same ?c_l_same ?k_l_same ?a_l_disc ?l_l_disc ?c_l_disc ?k_l_disc ?a_l_value ?l_l_value ?c_l_value ?k_l_value ?a_l_changed ?l_l_changed ?c_l_changed ?k_l_changed ?a_l_times ?l_l_times ?c_l_times ?k_l_times ?a_l_shift ?l_l_shift ?c_l_shift ?k_l_shift ?a_l_is_small ?l_l_is_small ?c_l_is_small ?k_l_is_small ?a_l_form ?l_l_form ?c_l_form ?k_l_form ?a_l_odd_form ?l_l_odd_form ?c_l_odd_form ?k_l_odd_form ?a_l_any_form ?l_l_any_form ?c_l_any_form ?k_l_any_form ?a_l_any_matrix ?l_l_any_matrix ?c_l_any_matrix ?k_l_any_matrix ?a_l_said ?l_l_said ?c_l_said ?k_l_said ?a_l_right ?l_l_right ?c_l_right ?k_l_right ?a_law ?l_law ?c_law ?k_law ?aC_InvalidForm ?xL_InvalidForm ?rb_InvalidForm ?sa_InvalidForm ?ga_InvalidForm ?gg_InvalidForm ?no_InvalidForm ?fi_InvalidForm ?ft_InvalidForm ?fl_InvalidForm ?fc_InvalidForm ?fk_InvalidForm ?kC_InvalidForm ?eC_InvalidForm ?tC_InvalidForm ?hC_InvalidForm ?iC_InvalidForm ?aC_InvalidMatrix ?xL_InvalidMatrix ?rb_InvalidMatrix ?sa_InvalidMatrix ?ga_InvalidMatrix ?gg_InvalidMatrix ?no_InvalidMatrix ?fi_InvalidMatrix ?ft_InvalidMatrix ?fl_InvalidMatrix ?fc_InvalidMatrix ?fk_InvalidMatrix ?kC_InvalidMatrix ?eC_InvalidMatrix ?tC_InvalidMatrix ?hC_InvalidMatrix ?iC_InvalidMatrix ?s_InvalidForm_InvalidForm ?s_InvalidForm_InvalidMatrix ?s_InvalidMatrix_InvalidForm ?s_InvalidMatrix_InvalidMatrix ?b_abs ?b_all ?b_bool ?b_int ?b_isinstance ?b_len ?b_list ?b_max ?b_min ?b_range ?b_str ?b_sum ?b_tuple ?k_MOST_ITEM
    (case a_is_integer => first | k_is | rfl)
    (case l_is_integer => first | k_is | rfl)
    (case c_is_integer => first | k_is | rfl)
    (case k_is_integer => first | k_is | rfl)
    (case a_is_between => first | k_is | rfl)
    (case l_is_between => first | k_is | rfl)
    (case c_is_between => first | k_is | rfl)
    (case k_is_between => first | k_is | rfl)
    (case a_is_tuple_of => first | k_is | rfl)
    (case l_is_tuple_of => first | k_is | rfl)
    (case c_is_tuple_of => first | k_is | rfl)
    (case k_is_tuple_of => first | k_is | rfl)
    (case a_is_row => first | k_is | rfl)
    (case l_is_row => first | k_is | rfl)
    (case c_is_row => first | k_is | rfl)
    (case k_is_row => first | k_is | rfl)
    (case a_is_form => first | k_is | rfl)
    (case l_is_form => first | k_is | rfl)
    (case c_is_form => first | k_is | rfl)
    (case k_is_form => first | k_is | rfl)
    (case a_discriminant_of => first | k_is | rfl)
    (case l_discriminant_of => first | k_is | rfl)
    (case c_discriminant_of => first | k_is | rfl)
    (case k_discriminant_of => first | k_is | rfl)
    (case a_discriminant => first | k_is | rfl)
    (case l_discriminant => first | k_is | rfl)
    (case c_discriminant => first | k_is | rfl)
    (case k_discriminant => first | k_is | rfl)
    (case a_value_at => first | k_is | rfl)
    (case l_value_at => first | k_is | rfl)
    (case c_value_at => first | k_is | rfl)
    (case k_value_at => first | k_is | rfl)
    (case a_value => first | k_is | rfl)
    (case l_value => first | k_is | rfl)
    (case c_value => first | k_is | rfl)
    (case k_value => first | k_is | rfl)
    (case a_moved => first | k_is | rfl)
    (case l_moved => first | k_is | rfl)
    (case c_moved => first | k_is | rfl)
    (case k_moved => first | k_is | rfl)
    (case a_is_matrix => first | k_is | rfl)
    (case l_is_matrix => first | k_is | rfl)
    (case c_is_matrix => first | k_is | rfl)
    (case k_is_matrix => first | k_is | rfl)
    (case a_changed => first | k_is | rfl)
    (case l_changed => first | k_is | rfl)
    (case c_changed => first | k_is | rfl)
    (case k_changed => first | k_is | rfl)
    (case a_l_cell => first | k_is | rfl)
    (case l_l_cell => first | k_is | rfl)
    (case c_l_cell => first | k_is | rfl)
    (case k_l_cell => first | k_is | rfl)
    (case a_l_box => first | k_is | rfl)
    (case l_l_box => first | k_is | rfl)
    (case c_l_box => first | k_is | rfl)
    (case k_l_box => first | k_is | rfl)
    (case a_l_take => first | k_is | rfl)
    (case l_l_take => first | k_is | rfl)
    (case c_l_take => first | k_is | rfl)
    (case k_l_take => first | k_is | rfl)
    (case a_l_same => first | k_is | rfl)
    (case l_l_same => first | k_is | rfl)
    (case c_l_same => first | k_is | rfl)
    (case k_l_same => first | k_is | rfl)
    (case a_l_disc => first | k_is | rfl)
    (case l_l_disc => first | k_is | rfl)
    (case c_l_disc => first | k_is | rfl)
    (case k_l_disc => first | k_is | rfl)
    (case a_l_value => first | k_is | rfl)
    (case l_l_value => first | k_is | rfl)
    (case c_l_value => first | k_is | rfl)
    (case k_l_value => first | k_is | rfl)
    (case a_l_changed => first | k_is | rfl)
    (case l_l_changed => first | k_is | rfl)
    (case c_l_changed => first | k_is | rfl)
    (case k_l_changed => first | k_is | rfl)
    (case a_l_times => first | k_is | rfl)
    (case l_l_times => first | k_is | rfl)
    (case c_l_times => first | k_is | rfl)
    (case k_l_times => first | k_is | rfl)
    (case a_l_shift => first | k_is | rfl)
    (case l_l_shift => first | k_is | rfl)
    (case c_l_shift => first | k_is | rfl)
    (case k_l_shift => first | k_is | rfl)
    (case a_l_is_small => first | k_is | rfl)
    (case l_l_is_small => first | k_is | rfl)
    (case c_l_is_small => first | k_is | rfl)
    (case k_l_is_small => first | k_is | rfl)
    (case a_l_form => first | k_is | rfl)
    (case l_l_form => first | k_is | rfl)
    (case c_l_form => first | k_is | rfl)
    (case k_l_form => first | k_is | rfl)
    (case a_l_odd_form => first | k_is | rfl)
    (case l_l_odd_form => first | k_is | rfl)
    (case c_l_odd_form => first | k_is | rfl)
    (case k_l_odd_form => first | k_is | rfl)
    (case a_l_any_form => first | k_is | rfl)
    (case l_l_any_form => first | k_is | rfl)
    (case c_l_any_form => first | k_is | rfl)
    (case k_l_any_form => first | k_is | rfl)
    (case a_l_any_matrix => first | k_is | rfl)
    (case l_l_any_matrix => first | k_is | rfl)
    (case c_l_any_matrix => first | k_is | rfl)
    (case k_l_any_matrix => first | k_is | rfl)
    (case a_l_said => first | k_is | rfl)
    (case l_l_said => first | k_is | rfl)
    (case c_l_said => first | k_is | rfl)
    (case k_l_said => first | k_is | rfl)
    (case a_l_right => first | k_is | rfl)
    (case l_l_right => first | k_is | rfl)
    (case c_l_right => first | k_is | rfl)
    (case k_l_right => first | k_is | rfl)
    (case a_law => first | k_is | rfl)
    (case l_law => first | k_is | rfl)
    (case c_law => first | k_is | rfl)
    (case k_law => first | k_is | rfl)
    (case aC_InvalidForm => first | k_is | rfl)
    (case xL_InvalidForm => first | k_is | rfl)
    (case rb_InvalidForm => decide +kernel)
    (case sa_InvalidForm => first | k_is | rfl)
    (case ga_InvalidForm => first | k_is | rfl)
    (case gg_InvalidForm => first | k_is | rfl)
    (case no_InvalidForm => first | k_is | rfl)
    (case fi_InvalidForm => first | k_is | rfl)
    (case ft_InvalidForm => first | k_is | rfl)
    (case fl_InvalidForm => first | k_is | rfl)
    (case fc_InvalidForm => first | k_is | rfl)
    (case fk_InvalidForm => first | k_is | rfl)
    (case kC_InvalidForm => first | k_is | rfl)
    (case eC_InvalidForm => first | k_is | rfl)
    (case tC_InvalidForm => first | k_is | rfl)
    (case hC_InvalidForm => first | k_is | rfl)
    (case iC_InvalidForm => first | k_is | rfl)
    (case aC_InvalidMatrix => first | k_is | rfl)
    (case xL_InvalidMatrix => first | k_is | rfl)
    (case rb_InvalidMatrix => decide +kernel)
    (case sa_InvalidMatrix => first | k_is | rfl)
    (case ga_InvalidMatrix => first | k_is | rfl)
    (case gg_InvalidMatrix => first | k_is | rfl)
    (case no_InvalidMatrix => first | k_is | rfl)
    (case fi_InvalidMatrix => first | k_is | rfl)
    (case ft_InvalidMatrix => first | k_is | rfl)
    (case fl_InvalidMatrix => first | k_is | rfl)
    (case fc_InvalidMatrix => first | k_is | rfl)
    (case fk_InvalidMatrix => first | k_is | rfl)
    (case kC_InvalidMatrix => first | k_is | rfl)
    (case eC_InvalidMatrix => first | k_is | rfl)
    (case tC_InvalidMatrix => first | k_is | rfl)
    (case hC_InvalidMatrix => first | k_is | rfl)
    (case iC_InvalidMatrix => first | k_is | rfl)
    (case s_InvalidForm_InvalidForm => first | k_is | rfl)
    (case s_InvalidForm_InvalidMatrix => first | k_is | rfl)
    (case s_InvalidMatrix_InvalidForm => first | k_is | rfl)
    (case s_InvalidMatrix_InvalidMatrix => first | k_is | rfl)
    (case b_abs => first | k_is | rfl)
    (case b_all => first | k_is | rfl)
    (case b_bool => first | k_is | rfl)
    (case b_int => first | k_is | rfl)
    (case b_isinstance => first | k_is | rfl)
    (case b_len => first | k_is | rfl)
    (case b_list => first | k_is | rfl)
    (case b_max => first | k_is | rfl)
    (case b_min => first | k_is | rfl)
    (case b_range => first | k_is | rfl)
    (case b_str => first | k_is | rfl)
    (case b_sum => first | k_is | rfl)
    (case b_tuple => first | k_is | rfl)
    (case k_MOST_ITEM => first | k_is | rfl)

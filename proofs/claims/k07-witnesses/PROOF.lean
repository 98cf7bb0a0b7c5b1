import PyProof.Rows.All
import Wide.All
import OpenK.AllK
import Wide.FinOn
import HandS.ForMost
import HandS.ForExc
import HandS.Wide
import HandS.Defaults
import HandS.CallSlots
import HandS.ExcInit
import HandS.ExcIs
import HandS.ExcField
import HandS.TryMany
import HandS.Small
import HandS.Text
import HandS.TupAny
import HandS.TupMul
import HandS.Flow
import HandS.TupLen
import KE.KExcIs
import HandS.More
import HandS.IsInst
import HandS.Style
import HandS.Star
import HandS.WideBits
import HandS.Gcd
import HandS.Iter
import HandS.Conv
import HandS.Dict
import KE.GoesEnum
import HandS.Zip
import HandS.Comp
import HandS.SortInts
import PyProof.EqKinds
import PyProof.FactsAll.dict_1
import KE.KMathGC
import HandS.ListItems
import PySem.Challenge.RW_numberbench_k07_false_witnesses
set_option linter.all false
/-! MCore: values as trees, a frame's slots and its mutable cells; what an expression, a statement is to reach (no program, no heap). -/
namespace NB
open PySem

inductive R where
  | non | bl (b : Bool) | int (i : Int) | str (s : Str)
  | tup (xs : List R) | lst (xs : List R)
  | cell (k : Nat)
  | scr (xs : List R)
  | exn (a d : Nat) (c : String) (fs : List (String × R))

inductive Ct where
  | lst (xs : List R)
  | box (n : Nat)
  | dct (kvs : List (Sum Int Str × R))
  /-- a dict whose keys are tuples -/
  | dtt (kvs : List (List (Sum Int Str) × R))
  | dead

abbrev Cs := List Ct
abbrev Gm := List (Option R)
abbrev Qe := R → Cs → Prop
abbrev ME := Gm → Cs → Qe → Prop
abbrev MA := Gm → Cs → (List R → Cs → Prop) → Prop
abbrev MT := Gm → Cs → (Bool → Cs → Prop) → Prop
/-- what is wanted of an exception -/
abbrev MX := String → List (String × R) → Cs → Prop
structure MEnds where
  nx : Gm → Cs → Prop
  rt : Qe
  bk : Gm → Cs → Prop := fun _ _ => False
  ct : Gm → Cs → Prop := fun _ _ => False
abbrev MS := MEnds → Gm → Cs → Prop

/-- a branch -/
def ifP (b : Bool) (A B : Prop) : Prop := match b with
  | true => A
  | false => B
theorem ifP_t {b : Bool} {A B : Prop} (h : b = true) : ifP b A B = A := by subst h; rfl
theorem ifP_f {b : Bool} {A B : Prop} (h : b = false) : ifP b A B = B := by subst h; rfl
/-- what is found -/
def optP {α : Type} (o : Option α) (K : α → Prop) : Prop := match o with
  | some x => K x
  | none => False
def lstP (o : Option Ct) (K : List R → Prop) : Prop := match o with
  | some (.lst xs) => K xs
  | _ => False
theorem optP_some {α : Type} {o : Option α} {x : α} {K : α → Prop} (h : o = some x) (k : K x) : optP o K := by subst h; exact k
theorem optP_ex {α : Type} {o : Option α} {K : α → Prop} (h : optP o K) : ∃ x, o = some x ∧ K x := by
  unfold optP at h
  split at h
  · exact ⟨_, rfl, h⟩
  · exact h.elim
theorem lstP_of {o : Option Ct} {xs : List R} {K : List R → Prop} (h : o = some (.lst xs)) (k : K xs) : lstP o K := by subst h; exact k
theorem lstP_ex {o : Option Ct} {K : List R → Prop} (h : lstP o K) : ∃ xs, o = some (.lst xs) ∧ K xs := by
  unfold lstP at h
  split at h
  · exact ⟨_, rfl, h⟩
  · exact h.elim
def dctP (o : Option Ct) (K : List (Sum Int Str × R) → Prop) : Prop := match o with
  | some (.dct xs) => K xs
  | _ => False
theorem dctP_of {o : Option Ct} {xs : List (Sum Int Str × R)} {K : List (Sum Int Str × R) → Prop} (h : o = some (.dct xs)) (k : K xs) : dctP o K := by subst h; exact k
theorem dctP_ex {o : Option Ct} {K : List (Sum Int Str × R) → Prop} (h : dctP o K) : ∃ xs, o = some (.dct xs) ∧ K xs := by
  unfold dctP at h
  split at h
  · exact ⟨_, rfl, h⟩
  · exact h.elim
def putD {κ : Type} [DecidableEq κ] (kvs : List (κ × R)) (k : κ) (v : R) : List (κ × R) :=
  if (kvs.any fun kv => decide (kv.1 = k)) = true then kvs.map (fun kv => if kv.1 = k then (kv.1, v) else kv) else kvs ++ [(k, v)]
/-! ### expressions -/
def mVar (i : Nat) : ME := fun Γ C Q => match Γ[i]? with
  | some (some r) => Q r C
  | _ => False
def mC (r : R) : ME := fun _ C Q => Q r C
def mNil : MA := fun _ C Q => Q [] C
def mCons (m : ME) (a : MA) : MA := fun Γ C Q => m Γ C fun x C1 => a Γ C1 fun xs C2 => Q (x :: xs) C2
def mOp (o : R → R → Cs → Qe → Prop) (a b : ME) : ME := fun Γ C Q => a Γ C fun x C1 => b Γ C1 fun y C2 => o x y C2 Q
def mUn (o : R → Cs → Qe → Prop) (a : ME) : ME := fun Γ C Q => a Γ C fun x C1 => o x C1 Q
/-- by the whole argument list -/
def mFn (o : List R → Cs → Qe → Prop) (a : MA) : ME := fun Γ C Q => a Γ C fun xs C1 => o xs C1 Q
def mVal (a : ME) : MT := fun Γ C Q => a Γ C fun x C1 => match x with
  | .bl b => Q b C1
  | _ => False
def mIfE (c : MT) (a b : ME) : ME := fun Γ C Q => c Γ C fun k C1 => ifP k (a Γ C1 Q) (b Γ C1 Q)
def mAndT (c d : MT) : MT := fun Γ C Q => c Γ C fun k C1 => ifP k (d Γ C1 Q) (Q false C1)
def mOrT (c d : MT) : MT := fun Γ C Q => c Γ C fun k C1 => ifP k (Q true C1) (d Γ C1 Q)
def mNotT (c : MT) : MT := fun Γ C Q => c Γ C fun k C1 => Q (!k) C1
def mAndE (a b : ME) : ME := fun Γ C Q => a Γ C fun x C1 => match x with
  | .bl k => ifP k (b Γ C1 Q) (Q (.bl false) C1)
  | _ => False
def mOrE (a b : ME) : ME := fun Γ C Q => a Γ C fun x C1 => match x with
  | .bl k => ifP k (Q (.bl true) C1) (b Γ C1 Q)
  | .int i => ifP (i != 0) (Q (.int i) C1) (b Γ C1 Q)
  | .non => b Γ C1 Q
  | _ => False
def mNotE (a : ME) : ME := fun Γ C Q => a Γ C fun x C1 => match x with
  | .bl k => Q (.bl (!k)) C1
  | _ => False
def mTup (a : MA) : ME := fun Γ C Q => a Γ C fun xs C1 => xs.length ≤ 16777216 ∧ Q (.tup xs) C1
/-- a new list: frozen, or a cell -/
def newL (cell : Bool) (xs : List R) (C : Cs) (Q : Qe) : Prop := match cell with
  | true => Q (.cell C.length) (C ++ [.lst xs])
  | false => Q (.lst xs) C
def mLst (cell : Bool) (a : MA) : ME := fun Γ C Q => a Γ C fun xs C1 => xs.length ≤ 16777216 ∧ newL cell xs C1 Q

/-- the items of a list that is read -/
def lstOf (C : Cs) : R → Option (List R)
  | .lst xs => some xs
  | .scr xs => some xs
  | .cell k => match C[k]? with
    | some (.lst xs) => some xs
    | _ => none
  | _ => none

/-! ### operators on values -/
@[irreducible] def Sz (i : Int) : Prop := i.natAbs < 2 ^ 400000
@[irreducible] def Sd (i : Int) : Prop := i.natAbs < 2 ^ 9000
theorem Sz_un {i : Int} (h : Sz i) : i.natAbs < 2 ^ 400000 := by unfold Sz at h; exact h
theorem Sd_un {i : Int} (h : Sd i) : i.natAbs < 2 ^ 9000 := by unfold Sd at h; exact h
theorem Sz_mk {i : Int} (h : i.natAbs < 2 ^ 400000) : Sz i := by unfold Sz; exact h
theorem Sd_mk {i : Int} (h : i.natAbs < 2 ^ 9000) : Sd i := by unfold Sd; exact h
def oAdd (x y : R) (C : Cs) (Q : Qe) : Prop := match x, y with
  | .int i, .int j => Q (.int (i + j)) C
  | _, _ => False
def oSub (x y : R) (C : Cs) (Q : Qe) : Prop := match x, y with
  | .int i, .int j => Q (.int (i - j)) C
  | _, _ => False
def oMul (x y : R) (C : Cs) (Q : Qe) : Prop := match x, y with
  | .int i, .int j => (Sz i ∧ Sz j) ∧ Q (.int (i * j)) C
  | _, _ => False
def oDiv (x y : R) (C : Cs) (Q : Qe) : Prop := match x, y with
  | .int i, .int j => (0 < j ∧ Sd j) ∧ Q (.int (i / j)) C
  | _, _ => False
def oMod (x y : R) (C : Cs) (Q : Qe) : Prop := match x, y with
  | .int i, .int j => 0 < j ∧ Q (.int (i % j)) C
  | _, _ => False
def oPow (x y : R) (C : Cs) (Q : Qe) : Prop := match x, y with
  | .int i, .int j => (0 ≤ j ∧ j ≤ 1000000 ∧ i.natAbs < 2 ^ 64) ∧ Q (.int (i ^ j.toNat)) C
  | _, _ => False
def oShl (x y : R) (C : Cs) (Q : Qe) : Prop := match x, y with
  | .int i, .int j => (0 ≤ j ∧ j ≤ 1000000 ∧ i.natAbs < 2 ^ 64) ∧ Q (.int (i * 2 ^ j.toNat)) C
  | _, _ => False
def oShr (x y : R) (C : Cs) (Q : Qe) : Prop := match x, y with
  | .int i, .int j => 0 ≤ j ∧ Q (.int (i / 2 ^ j.toNat)) C
  | _, _ => False
def oNeg (x : R) (C : Cs) (Q : Qe) : Prop := match x with
  | .int i => Q (.int (-i)) C
  | _ => False
def oCmp (p : Int → Int → Bool) (x y : R) (C : Cs) (Q : Qe) : Prop := match x, y with
  | .int i, .int j => Q (.bl (p i j)) C
  | _, _ => False
abbrev oLt := oCmp fun i j => decide (i < j)
abbrev oLe := oCmp fun i j => decide (i ≤ j)
abbrev oGt := oCmp fun i j => decide (j < i)
abbrev oGe := oCmp fun i j => decide (j ≤ i)

/-! ### statements -/
def mNext : MS := fun D Γ C => D.nx Γ C
def mSeq (s t : MS) : MS := fun D Γ C => s { D with nx := t D } Γ C
def mBreak : MS := fun D Γ C => D.bk Γ C
def mCont : MS := fun D Γ C => D.ct Γ C
def mDrop (e : ME) : MS := fun D Γ C => e Γ C fun _ C1 => D.nx Γ C1
def mRet (e : ME) : MS := fun D Γ C => e Γ C D.rt
def mRetN : MS := fun D _ C => D.rt .non C
def mIfS (c : MT) (s t : MS) : MS := fun D Γ C => c Γ C fun k C1 => ifP k (s D Γ C1) (t D Γ C1)
/-- a target -/
abbrev MG := R → Gm → Cs → (Gm → Cs → Prop) → Prop
abbrev MGs := List R → Gm → Cs → (Gm → Cs → Prop) → Prop
def gNm (i : Nat) : MG := fun r Γ C Q => Q (Γ.set i (some r)) C
def gNl : MGs := fun rs Γ C Q => match rs with
  | [] => Q Γ C
  | _ => False
def gCn (g : MG) (h : MGs) : MGs := fun rs Γ C Q => match rs with
  | r :: t => g r Γ C fun Γ1 C1 => h t Γ1 C1 Q
  | _ => False
/-- a tuple's places -/
def gTp (g : MGs) : MG := fun r Γ C Q => match r with
  | .tup xs => g xs Γ C Q
  | _ => False
/-- a list's places -/
def gLs (g : MGs) : MG := fun r Γ C Q => optP (lstOf C r) fun xs => g xs Γ C Q
/-- (a, b) = a tuple or a list with n items -/
def gTq (n : Nat) (g : MGs) : MG := gTp fun xs Γ C Q => xs.length = n ∧ g xs Γ C Q
def gSq (n : Nat) (g : MGs) : MG := fun r Γ C Q => match r with
  | .tup xs => xs.length = n ∧ g xs Γ C Q
  | r => optP (lstOf C r) fun xs => xs.length = n ∧ g xs Γ C Q
/-- what is never reached -/
def mNever : ME := fun _ _ _ => False
def mNeverS : MS := fun _ _ _ => False
def mNeverT : MT := fun _ _ _ => False
/-- a new dict: {}, {k: e} -/
def mDctT0 : ME := fun _ C Q => Q (.cell C.length) (C ++ [.dtt []])
def mDct0 : ME := fun _ C Q => Q (.cell C.length) (C ++ [.dct []])
def mDct1 (k : String) (e : ME) : ME := fun Γ C Q => e Γ C fun r C1 => Q (.cell C1.length) (C1 ++ [.dct [(.inr (Str.ofString k), r)]])
def mAsg (e : ME) (g : MG) : MS := fun D Γ C => e Γ C fun r C1 => g r Γ C1 D.nx
def mPar (i j : Nat) (a : MA) : MS := fun D Γ C => a Γ C fun rs C1 => match rs with
  | [v, w] => D.nx ((Γ.set i (some v)).set j (some w)) C1
  | _ => False
def mAug (i : Nat) (o : R → R → Cs → Qe → Prop) (e : ME) : MS := fun D Γ C => match Γ[i]? with
  | some (some x) => e Γ C fun y C1 => o x y C1 fun z C2 => D.nx (Γ.set i (some z)) C2
  | _ => False

/-! ### what is forgotten -/
mutual
def okR (n : Nat) : R → Prop
  | .cell k => k < n
  | .tup xs => okL n xs
  | .lst xs => okL n xs
  | .scr xs => okL n xs
  | .exn _ _ _ fs => okF n fs
  | _ => True
def okL (n : Nat) : List R → Prop
  | [] => True
  | x :: xs => okR n x ∧ okL n xs
def okF (n : Nat) : List (String × R) → Prop
  | [] => True
  | x :: xs => okR n x.2 ∧ okF n xs
end
def okG (n : Nat) : Gm → Prop
  | [] => True
  | none :: g => okG n g
  | some r :: g => okR n r ∧ okG n g
def okC (n : Nat) : Cs → Prop
  | [] => True
  | .lst xs :: C => okL n xs ∧ okC n C
  | .dct kvs :: C => okL n (kvs.map (·.2)) ∧ okC n C
  | .dtt kvs :: C => okL n (kvs.map (·.2)) ∧ okC n C
  | _ :: C => okC n C
/-- Γ' knows no more than Γ -/
def subG : Gm → Gm → Prop
  | [], [] => True
  | none :: a, _ :: b => subG a b
  | some r :: a, s :: b => s = some r ∧ subG a b
  | _, _ => False
/-! ### loops -/
def whileN (c : MT) (b : MS) (D : MEnds) : Nat → Gm → Cs → Prop
  | 0, _, _ => False
  | n + 1, Γ, C => c Γ C fun k C1 => ifP k (b { D with nx := whileN c b D n, ct := whileN c b D n, bk := D.nx } Γ C1) (D.nx Γ C1)
def mWhile (c : MT) (b : MS) : MS := fun D Γ C => ∃ n, whileN c b D n Γ C
/-- for over items that stand -/
def forL (g : MG) (b : MS) (D : MEnds) : List R → Gm → Cs → Prop
  | [], Γ, C => D.nx Γ C
  | x :: xs, Γ, C => g x Γ C fun Γ1 C1 => b { D with nx := forL g b D xs, ct := forL g b D xs, bk := D.nx } Γ1 C1
/-- the same, not run by itself -/
@[irreducible] def forW (g : MG) (b : MS) (D : MEnds) (xs : List R) (Γ : Gm) (C : Cs) : Prop := forL g b D xs Γ C
theorem forW_mk {g : MG} {b : MS} {D : MEnds} {xs : List R} {Γ : Gm} {C : Cs} (h : forL g b D xs Γ C) : forW g b D xs Γ C := by unfold forW; exact h
theorem forW_un {g : MG} {b : MS} {D : MEnds} {xs : List R} {Γ : Gm} {C : Cs} (h : forW g b D xs Γ C) : forL g b D xs Γ C := by unfold forW at h; exact h
/-- what is walked: the items -/
abbrev MI := Gm → Cs → (List R → Cs → Prop) → Prop
def mFor (it : MI) (g : MG) (b : MS) : MS := fun D Γ C => it Γ C fun xs C1 => forW g b D xs Γ C1
def upto (lo : Int) : Nat → List R
  | 0 => []
  | n + 1 => .int lo :: upto (lo + 1) n
/-- between two turns: cells beyond n and slots are let go -/
def cutK (n0 : Nat) (K : Gm → Cs → Prop) (Γ : Gm) (C : Cs) : Prop := ∃ n Γ', n0 ≤ n ∧ subG Γ' Γ ∧ okG n Γ' ∧ okC n (C.take n) ∧ K Γ' (C.take n)
def forK (n0 : Nat) (g : MG) (b : MS) (D : MEnds) : List R → Gm → Cs → Prop
  | [], Γ, C => D.nx Γ C
  | x :: xs, Γ, C => g x Γ C fun Γ1 C1 => b { D with nx := cutK n0 (forK n0 g b D xs), ct := cutK n0 (forK n0 g b D xs), bk := D.nx } Γ1 C1
def mForK (it : MI) (g : MG) (b : MS) : MS := fun D Γ C => it Γ C fun xs C1 => forK C1.length g b D xs Γ C1
def iSeqL (e : ME) : MI := fun Γ C Q => e Γ C fun r C1 => match r with
  | .lst xs => Q xs C1
  | .scr xs => Q xs C1
  | _ => False
def iSeqT (e : ME) : MI := fun Γ C Q => e Γ C fun r C1 => match r with
  | .tup xs => Q xs C1
  | _ => False
/-- the one or the other -/
def iOr (a b : MI) : MI := fun Γ C Q => a Γ C Q ∨ b Γ C Q
def iRg1 (a : MA) : MI := fun Γ C Q => a Γ C fun rs C1 => match rs with
  | [.int j] => (-(2 ^ 62) ≤ j ∧ j < 2 ^ 62) ∧ Q (upto 0 j.toNat) C1
  | _ => False
def iRg2 (a : MA) : MI := fun Γ C Q => a Γ C fun rs C1 => match rs with
  | [.int i, .int j] => (-(2 ^ 62) ≤ i ∧ i < 2 ^ 62 ∧ -(2 ^ 62) ≤ j ∧ j < 2 ^ 62) ∧ Q (upto i (j - i).toNat) C1
  | _ => False
/-- a comprehension: the items, the tests, the element -/
def compL (g : MG) (t : MT) (e : ME) (Q : List R → Cs → Prop) (Γ : Gm) : List R → List R → Cs → Prop
  | [], acc, C => Q acc C
  | x :: xs, acc, C => acc.length < 16777216 ∧ g x Γ C fun Γ1 C1 => t Γ1 C1 fun k C2 => ifP k (e Γ1 C2 fun y C3 => compL g t e Q Γ xs (acc ++ [y]) C3) (compL g t e Q Γ xs acc C2)
def mYes : MT := fun _ C Q => Q true C
def wipeM (Γ : Gm) : List Nat → Gm
  | [] => Γ
  | i :: t => (wipeM Γ t).set i none
def mComp (cell : Bool) (it : MI) (g : MG) (t : MT) (e : ME) (own : List Nat) : ME := fun Γ C Q => it Γ C fun xs C1 =>
  compL g t e (fun ys C2 => newL cell ys C2 Q) (wipeM Γ own) xs [] C1

/-- two clauses: the second one's iterable is met in each turn of the first -/
def compL2 (g : MG) (t : MT) (it1 : MI) (g1 : MG) (t1 : MT) (e : ME) (own1 : List Nat) (Q : List R → Cs → Prop) (Γ : Gm) : List R → List R → Cs → Prop
  | [], acc, C => Q acc C
  | x :: xs, acc, C => g x Γ C fun Γ1 C1 => t Γ1 C1 fun k C2 => ifP k (it1 Γ1 C2 fun ys C3 => compL g1 t1 e (fun acc1 C4 => compL2 g t it1 g1 t1 e own1 Q Γ xs acc1 C4) (wipeM Γ1 own1) ys acc C3) (compL2 g t it1 g1 t1 e own1 Q Γ xs acc C2)
def mComp2 (cell : Bool) (it : MI) (g : MG) (t : MT) (it1 : MI) (g1 : MG) (t1 : MT) (e : ME) (own own1 : List Nat) : ME := fun Γ C Q => it Γ C fun xs C1 =>
  compL2 g t it1 g1 t1 e own1 (fun ys C2 => newL cell ys C2 Q) (wipeM Γ own) xs [] C1

/-! ### calls of defs -/
/-- what a def does: the arguments, the cells, the answer, the exception -/
abbrev Wt := List R → Cs → Qe → MX → Prop
def mCall (w : Wt) (ex : Gm → MX) (a : MA) : ME := fun Γ C Q => a Γ C fun rs C1 => w rs C1 Q (ex Γ)
/-- raise c(e), c's one field f -/
def mRaise (c f : String) (ex : Gm → MX) (e : ME) : MS := fun _ Γ C => e Γ C fun r C1 => ex Γ c [(f, r)] C1
def start (n : Nat) (rs : List R) : Gm := rs.map some ++ List.replicate (n - rs.length) none
abbrev noX : MX := fun _ _ _ => False

/-! ### sequences -/
def seqOf (C : Cs) : R → Option (List R)
  | .tup xs => some xs
  | r => lstOf C r
def ixM (n : Nat) (i : Int) : Option Nat := if 0 ≤ i then (if i < n then some i.toNat else none) else if -(n : Int) ≤ i then some (i + n).toNat else none
def atM {α : Type} (xs : List α) (i : Int) : Option α := (ixM xs.length i).bind fun j => xs[j]?
def oIx (x y : R) (C : Cs) (Q : Qe) : Prop := match x, y with
  | .str z, .int i => optP (atM z.cps.toList i) fun c => z.length ≤ 16777216 ∧ Q (.str ⟨#[c]⟩) C
  | x, .int i => optP (seqOf C x) fun xs => optP (atM xs i) fun r => Q r C
  | _, _ => False
/-- keys -/
def kyR : R → Option (Sum Int Str)
  | .int i => some (.inl i)
  | .str z => some (.inr z)
  | _ => none
def kysR : List R → Option (List (Sum Int Str))
  | [] => some []
  | x :: xs => match kyR x, kysR xs with
    | some k, some ks => some (k :: ks)
    | _, _ => none
def valD {κ : Type} [DecidableEq κ] (kvs : List (κ × R)) (k : κ) : Option R := (kvs.find? fun kv => decide (kv.1 = k)).map (·.2)
/-- what a dict's cell holds at a key -/
def dGet (C : Cs) (d y : R) : Option (Option R) := match d with
  | .cell k => match C[k]? with
    | some (.dct kvs) => (kyR y).map (valD kvs)
    | some (.dtt kvs) => match y with
      | .tup xs => (kysR xs).map (valD kvs)
      | _ => none
    | _ => none
  | _ => none
def dPut (C : Cs) (d y r : R) : Option Cs := match d with
  | .cell k => match C[k]? with
    | some (.dct kvs) => if kvs.length < 1000000 then (kyR y).map fun z => C.set k (.dct (putD kvs z r)) else none
    | some (.dtt kvs) => match y with
      | .tup xs => if kvs.length < 1000000 then (kysR xs).map fun z => C.set k (.dtt (putD kvs z r)) else none
      | _ => none
    | _ => none
  | _ => none
def oIxD (x y : R) (C : Cs) (Q : Qe) : Prop := optP (dGet C x y) fun o => optP o fun r => Q r C
def oInD (neg : Bool) (x y : R) (C : Cs) (Q : Qe) : Prop := optP (dGet C y x) fun o => Q (.bl (if neg then !o.isSome else o.isSome)) C
def sIxM (n d : Nat) : Option Int → Nat
  | none => d
  | some i => if i < 0 then (i + (n : Int)).toNat else min i.toNat n
def cutM {α : Type} (xs : List α) (lo hi : Option Int) : List α := (xs.drop (sIxM xs.length 0 lo)).take (sIxM xs.length xs.length hi - sIxM xs.length 0 lo)
/-- an optional part of a slice -/
abbrev MO := Gm → Cs → (Option Int → Cs → Prop) → Prop
def mO0 : MO := fun _ C Q => Q none C
def mO1 (e : ME) : MO := fun Γ C Q => e Γ C fun r C1 => match r with
  | .int i => Q (some i) C1
  | _ => False
def mSl (cell : Bool) (a : ME) (l u : MO) : ME := fun Γ C Q => a Γ C fun x C1 => l Γ C1 fun i C2 => u Γ C2 fun j C3 => match x with
  | .tup xs => Q (.tup (cutM xs i j)) C3
  | .str z => z.length ≤ 16777216 ∧ Q (.str ⟨(cutM z.cps.toList i j).toArray⟩) C3
  | x => optP (lstOf C3 x) fun xs => newL cell (cutM xs i j) C3 Q
def mRevL (cell : Bool) (e : ME) : ME := fun Γ C Q => e Γ C fun x C1 => optP (lstOf C1 x) fun xs => newL cell xs.reverse C1 Q
def mRevT (e : ME) : ME := fun Γ C Q => e Γ C fun x C1 => match x with
  | .tup xs => Q (.tup xs.reverse) C1
  | _ => False
def mPar3 (i j l : Nat) (a : MA) : MS := fun D Γ C => a Γ C fun rs C1 => match rs with
  | [u, v, w] => D.nx (((Γ.set i (some u)).set j (some v)).set l (some w)) C1
  | _ => False
def fLen (xs : List R) (C : Cs) (Q : Qe) : Prop := match xs with
  | [.str z] => z.length ≤ 16777216 ∧ Q (.int z.length) C
  | [.cell k] => match C[k]? with
    | some (.lst ys) => Q (.int ys.length) C
    | some (.dct ys) => Q (.int ys.length) C
    | some (.dtt ys) => Q (.int ys.length) C
    | _ => False
  | [x] => optP (seqOf C x) fun ys => Q (.int ys.length) C
  | _ => False
def fAbs (xs : List R) (C : Cs) (Q : Qe) : Prop := match xs with
  | [.int i] => Q (.int (if i < 0 then -i else i)) C
  | _ => False
def fMax2 (xs : List R) (C : Cs) (Q : Qe) : Prop := match xs with
  | [.int i, .int j] => Q (.int (if j > i then j else i)) C
  | _ => False
def fMin2 (xs : List R) (C : Cs) (Q : Qe) : Prop := match xs with
  | [.int i, .int j] => Q (.int (if j < i then j else i)) C
  | _ => False
def fInt (xs : List R) (C : Cs) (Q : Qe) : Prop := match xs with
  | [.int i] => Q (.int i) C
  | [.bl b] => Q (.int (if b then 1 else 0)) C
  | _ => False
def fList (cell : Bool) (xs : List R) (C : Cs) (Q : Qe) : Prop := match xs with
  | [x] => optP (seqOf C x) fun ys => newL cell ys C Q
  | _ => False
def fTuple (xs : List R) (C : Cs) (Q : Qe) : Prop := match xs with
  | [.tup ys] => Q (.tup ys) C
  | [x] => optP (lstOf C x) fun ys => Q (.tup ys) C
  | _ => False
def intsOf : List R → Option (List Int)
  | [] => some []
  | .int i :: t => (intsOf t).map (i :: ·)
  | _ => none
def blsOf : List R → Option (List Bool)
  | [] => some []
  | .bl i :: t => (blsOf t).map (i :: ·)
  | _ => none
def fSum (xs : List R) (C : Cs) (Q : Qe) : Prop := match xs with
  | [x] => optP ((lstOf C x).bind intsOf) fun ns => Q (.int ns.sum) C
  | _ => False
def fMaxL (xs : List R) (C : Cs) (Q : Qe) : Prop := match xs with
  | [x] => optP ((lstOf C x).bind intsOf) fun ns => 0 < ns.length ∧ ∀ m, m ∈ ns → (∀ y, y ∈ ns → y ≤ m) → Q (.int m) C
  | _ => False
def fMinL (xs : List R) (C : Cs) (Q : Qe) : Prop := match xs with
  | [x] => optP ((lstOf C x).bind intsOf) fun ns => 0 < ns.length ∧ ∀ m, m ∈ ns → (∀ y, y ∈ ns → m ≤ y) → Q (.int m) C
  | _ => False
def fAll (xs : List R) (C : Cs) (Q : Qe) : Prop := match xs with
  | [x] => optP ((lstOf C x).bind blsOf) fun ns => Q (.bl (ns.all id)) C
  | _ => False
def fAny (xs : List R) (C : Cs) (Q : Qe) : Prop := match xs with
  | [x] => optP ((lstOf C x).bind blsOf) fun ns => Q (.bl (ns.any id)) C
  | _ => False
def fSorted (cell : Bool) (xs : List R) (C : Cs) (Q : Qe) : Prop := match xs with
  | [x] => optP ((lstOf C x).bind intsOf) fun ns => ∀ ns' : List Int, ns'.Perm ns → ns'.Pairwise (· ≤ ·) → newL cell (ns'.map .int) C Q
  | _ => False
/-- xs + ys of lists -/
def oCat (cell : Bool) (x y : R) (C : Cs) (Q : Qe) : Prop := match x, y with
  | .scr _, _ => False
  | _, .scr _ => False
  | x, y => optP (lstOf C x) fun xs => optP (lstOf C y) fun ys => xs.length + ys.length ≤ 16777216 ∧ newL cell (xs ++ ys) C Q
/-- a + b, a * b of any -/
def oPlus (cell : Bool) (x y : R) (C : Cs) (Q : Qe) : Prop := match x, y with
  | .int i, .int j => Q (.int (i + j)) C
  | .str i, .str j => i.length + j.length ≤ 16777216 ∧ Q (.str (i ++ j)) C
  | .tup xs, .tup ys => xs.length + ys.length ≤ 16777216 ∧ Q (.tup (xs ++ ys)) C
  | x, y => oCat cell x y C Q
def oRep (cell : Bool) (x y : R) (C : Cs) (Q : Qe) : Prop := match x, y with
  | .scr _, _ => False
  | x, .int k => optP (lstOf C x) fun xs => (-(2 ^ 63) ≤ k ∧ k < 2 ^ 63 ∧ xs.length * k.toNat ≤ 16777216) ∧ newL cell (List.replicate k.toNat xs).flatten C Q
  | _, _ => False
/-- a factor that fits a word, of an int of any size -/
def oTimesS (x y : R) (C : Cs) (Q : Qe) : Prop := match x, y with
  | .int i, .int j => (-(2 ^ 64) < i ∧ i < 2 ^ 64) ∧ Q (.int (i * j)) C
  | _, _ => False
def oTimes (cell : Bool) (x y : R) (C : Cs) (Q : Qe) : Prop := match x, y with
  | .int i, .int j => (Sz i ∧ Sz j) ∧ Q (.int (i * j)) C
  | .tup xs, .int k => (xs ≠ [] ∧ 0 ≤ k ∧ k ≤ 1000 ∧ xs.length ≤ 1000) ∧ Q (.tup (List.replicate k.toNat xs).flatten) C
  | x, y => oRep cell x y C Q
/-- the type's name, where isinstance asks a built-in class -/
def tyOf (C : Cs) : R → Option String
  | .non => some "NoneType"
  | .bl _ => some "bool"
  | .int _ => some "int"
  | .str _ => some "str"
  | .tup _ => some "tuple"
  | .lst _ => some "list"
  | .cell k => match C[k]? with
    | some (.lst _) => some "list"
    | some (.dct _) => some "dict"
    | _ => none
  | _ => none
def isiM (t c : String) : Option Bool := if t = c then some true else if t = "bool" ∧ c = "int" then some true else some false
/-- isinstance(x, c), c a built-in class -/
def fIsi (c : String) (xs : List R) (C : Cs) (Q : Qe) : Prop := match xs with
  | [x] => optP (tyOf C x) fun t => optP (isiM t c) fun b => Q (.bl b) C
  | _ => False
/-- isinstance(x, (c1, c2)) -/
def fIsi2 (c1 c2 : String) (xs : List R) (C : Cs) (Q : Qe) : Prop := match xs with
  | [x] => optP (tyOf C x) fun t => optP (isiM t c1) fun b1 => optP (isiM t c2) fun b2 => Q (.bl (b1 || b2)) C
  | _ => False
/-- x is None -/
def oIsN (x y : R) (C : Cs) (Q : Qe) : Prop := match y with
  | .non => Q (.bl (match x with
    | .non => true
    | _ => false)) C
  | _ => False
def oIsNotN (x y : R) (C : Cs) (Q : Qe) : Prop := match y with
  | .non => Q (.bl (match x with
    | .non => false
    | _ => true)) C
  | _ => False
/-- x is True, both bools -/
def oIsB (x y : R) (C : Cs) (Q : Qe) : Prop := match x, y with
  | .bl a, .bl b => Q (.bl (decide (a = b))) C
  | _, _ => False
def oIsNotB (x y : R) (C : Cs) (Q : Qe) : Prop := match x, y with
  | .bl a, .bl b => Q (.bl (!decide (a = b))) C
  | _, _ => False
/-! ### == of data -/
mutual
def eqR : R → R → Bool
  | .non, .non => true
  | .bl a, .bl b => a == b
  | .bl a, .int j => (if a then 1 else 0) == j
  | .int i, .bl b => i == (if b then 1 else 0)
  | .int i, .int j => i == j
  | .str x, .str y => decide (x.cps = y.cps)
  | .lst xs, .lst ys => eqRs xs ys
  | .tup xs, .tup ys => eqRs xs ys
  | _, _ => false
def eqRs : List R → List R → Bool
  | [], [] => true
  | x :: xs, y :: ys => eqR x y && eqRs xs ys
  | _, _ => false
end
/-- the tree of data behind a value, its lists looked up n deep -/
def resN : Nat → Cs → R → Option R
  | 0, _, _ => none
  | n + 1, C, r => match r with
    | .non => some .non
    | .bl b => some (.bl b)
    | .int i => some (.int i)
    | .str z => if (z.cps.all fun c => decide (c < 0x110000)) = true then some (.str z) else none
    | .tup xs => (xs.mapM (resN n C)).map .tup
    | .lst xs => (xs.mapM (resN n C)).map .lst
    | .cell k => match C[k]? with
      | some (.lst xs) => (xs.mapM (resN n C)).map .lst
      | _ => none
    | _ => none
def oEq (x y : R) (C : Cs) (Q : Qe) : Prop := match x, y with
  | .str a, .str b => Q (.bl (decide (a.cps = b.cps))) C
  | x, y => optP (resN 9 C x) fun a => optP (resN 9 C y) fun b => Q (.bl (eqR a b)) C
/-- a dict against a text -/
def isDctC (C : Cs) : R → R → Bool
  | .cell k, .str _ => match C[k]? with
    | some (.dct _) => true
    | _ => false
  | _, _ => false
/-- == of any value, a dict too, and a text -/
@[irreducible] def oEqV (x y : R) (C : Cs) (Q : Qe) : Prop := ifP (isDctC C x y) (Q (.bl false) C) (oEq x y C Q)
def oNe (x y : R) (C : Cs) (Q : Qe) : Prop := match x, y with
  | .str a, .str b => Q (.bl (!decide (a.cps = b.cps))) C
  | x, y => optP (resN 9 C x) fun a => optP (resN 9 C y) fun b => Q (.bl (!eqR a b)) C
/-! ### repr -/
mutual
/-- no more signs than that -/
def wR : R → Nat
  | .int i => i.natAbs.log2 + 4
  | .str z => 10 * z.length + 2
  | .tup xs => wRs xs + 3
  | .lst xs => wRs xs + 3
  | .scr xs => wRs xs + 3
  | _ => 5
def wRs : List R → Nat
  | [] => 0
  | x :: xs => wR x + 2 + wRs xs
end
mutual
def shwOk : R → Bool
  | .int i => decide (i.natAbs.log2 < 1900)
  | .tup xs => shwOks xs
  | .lst xs => shwOks xs
  | .scr xs => shwOks xs
  | _ => true
def shwOks : List R → Bool
  | [] => true
  | x :: xs => shwOk x && shwOks xs
end
def keyR : Sum Int Str → R
  | .inl i => .int i
  | .inr z => .str z
def strOk : R → Bool
  | .str z => z.cps.all fun c => decide (c < 0x110000)
  | _ => true
/-- a dict's keys and values in turn -/
def flatD : List (Sum Int Str × R) → List R
  | [] => []
  | (k, v) :: l => keyR k :: v :: flatD l
/-- the tree behind a value; a dict of flat values as .scr -/
def reprN (C : Cs) (r : R) : Option R := match r with
  | .cell k => match C[k]? with
    | some (.dct kvs) => if ((flatD kvs).all fun x => flatR0 x && strOk x) = true then some (.scr (flatD kvs)) else none
    | _ => resN 9 C (.cell k)
  | r => resN 9 C r
where flatR0 : R → Bool
  | .non => true
  | .bl _ => true
  | .int _ => true
  | .str _ => true
  | _ => false
def fRepr (shw : R → Str) (xs : List R) (C : Cs) (Q : Qe) : Prop := match xs with
  | [r] => optP (reprN C r) fun t => (wR t ≤ 1000000 ∧ shwOk t = true) ∧ Q (.str (shw t)) C
  | _ => False
/-- enumerate, zip of lists -/
def enumR : Nat → List R → List R
  | _, [] => []
  | n, x :: xs => .tup [.int n, x] :: enumR (n + 1) xs
def zipR : List R → List R → List R
  | x :: xs, y :: ys => .tup [x, y] :: zipR xs ys
  | _, _ => []
def iEn (a : MA) : MI := fun Γ C Q => a Γ C fun rs C1 => match rs with
  | [.lst xs] => Q (enumR 0 xs) C1
  | _ => False
def iZp (a : MA) : MI := fun Γ C Q => a Γ C fun rs C1 => match rs with
  | [.lst xs, .lst ys] => Q (zipR xs ys) C1
  | _ => False
def iEnT (a : MA) : MI := fun Γ C Q => a Γ C fun rs C1 => match rs with
  | [.tup xs] => Q (enumR 0 xs) C1
  | _ => False
def iZpT (a : MA) : MI := fun Γ C Q => a Γ C fun rs C1 => match rs with
  | [.tup xs, .tup ys] => Q (zipR xs ys) C1
  | _ => False
/-- truth -/
def mTru (a : ME) : MT := fun Γ C Q => a Γ C fun x C1 => match x with
  | .non => Q false C1
  | .bl b => Q b C1
  | .int i => Q (i != 0) C1
  | .str z => z.length ≤ 16777216 ∧ Q ((z.length : Int) != 0) C1
  | x => optP (seqOf C1 x) fun xs => Q (!xs.isEmpty) C1
/-- one of the arguments, the keywords' values, the defaults, by places -/
def perm {α : Type} (π : List Nat) (l : List α) : List α := π.filterMap (l[·]?)
def mCall0 (w : Wt) (ex : Gm → MX) : ME := fun Γ C Q => w [] C Q (ex Γ)
def mCallD (w : Wt) (ex : Gm → MX) (ds : List R) (a : MA) : ME := fun Γ C Q => a Γ C fun rs C1 => w (rs ++ ds) C1 Q (ex Γ)
def mCallK (w : Wt) (ex : Gm → MX) (j k : Nat) (π : List Nat) (a ak : MA) : ME := fun Γ C Q => a Γ C fun rs C1 => ak Γ C1 fun qs C2 => rs.length = j ∧ qs.length = k ∧ w (perm π (rs ++ qs)) C2 Q (ex Γ)

/-! ### methods of cells -/
def isCl (C : Cs) : R → Prop
  | .cell k => match C[k]? with
    | some (.lst _) => True
    | _ => False
  | _ => False
def mApp (o e : ME) : ME := fun Γ C Q => o Γ C fun x C1 => isCl C1 x ∧ e Γ C1 fun r C2 => match x with
  | .cell k => lstP C2[k]? fun xs => xs.length < 16777216 ∧ Q .non (C2.set k (.lst (xs ++ [r])))
  | _ => False
def mExt (o e : ME) : ME := fun Γ C Q => o Γ C fun x C1 => isCl C1 x ∧ e Γ C1 fun r C2 => match x with
  | .cell k => lstP C2[k]? fun xs => match r with
    | .scr _ => False
    | r => optP (lstOf C2 r) fun ys => xs.length + ys.length ≤ 16777216 ∧ Q .non (C2.set k (.lst (xs ++ ys)))
  | _ => False
/-- list(d.items()), d empty -/
def mItems0 (m : ME) : ME := fun Γ C Q => m Γ C fun r C1 => match r with
  | .cell k => match C1[k]? with
    | some (.dct []) => Q (.lst []) C1
    | _ => False
  | _ => False
def mPopAt (o e : ME) : ME := fun Γ C Q => o Γ C fun x C1 => isCl C1 x ∧ e Γ C1 fun r C2 => match x, r with
  | .cell k, .int i => lstP C2[k]? fun xs => (-(2 ^ 63) ≤ i ∧ i < 2 ^ 63) ∧ optP (ixM xs.length i) fun j => optP xs[j]? fun y => Q y (C2.set k (.lst (xs.eraseIdx j)))
  | _, _ => False
def mPop (o : ME) : ME := fun Γ C Q => o Γ C fun x C1 => match x with
  | .cell k => lstP C1[k]? fun xs => optP xs[xs.length - 1]? fun y => Q y (C1.set k (.lst xs.dropLast))
  | _ => False
def mRev (o : ME) : ME := fun Γ C Q => o Γ C fun x C1 => match x with
  | .cell k => lstP C1[k]? fun xs => Q .non (C1.set k (.lst xs.reverse))
  | _ => False
def mIns (o i e : ME) : ME := fun Γ C Q => o Γ C fun x C1 => isCl C1 x ∧ i Γ C1 fun n C2 => e Γ C2 fun r C3 => match x, n with
  | .cell k, .int n => lstP C3[k]? fun xs => (xs.length < 16777216 ∧ 0 ≤ n ∧ n < 2 ^ 63) ∧ Q .non (C3.set k (.lst (xs.take n.toNat ++ [r] ++ xs.drop n.toNat)))
  | _, _ => False
/-- o[i] = .. of a cell -/
def gIx (o i : ME) : MG := fun r Γ C Q => o Γ C fun x C1 => i Γ C1 fun y C2 => match x, y with
  | .cell k, .int n => lstP C2[k]? fun xs => optP (ixM xs.length n) fun j => Q Γ (C2.set k (.lst (xs.set j r)))
  | .cell k, .str z => dctP C2[k]? fun kvs => kvs.length < 1000000 ∧ Q Γ (C2.set k (.dct (putD kvs (.inr z) r)))
  | _, _ => False
/-- o[i] = .. of a dict -/
def gIxD (o i : ME) : MG := fun r Γ C Q => o Γ C fun x C1 => i Γ C1 fun y C2 => optP (dPut C2 x y r) fun C3 => Q Γ C3
/-- the list in slot i, a cell, is frozen ahead of a statement -/
def mIce (i : Nat) (s : MS) : MS := fun D Γ C => match Γ[i]? with
  | some (some (.cell k)) => lstP C[k]? fun xs => s D (Γ.set i (some (.lst xs))) (C.set k .dead)
  | _ => False
/-! ### exceptions that are caught -/
/-- the handlers of a try: the class, the slot of the name, the suite -/
structure Hdr where
  c : String
  i : Nat
  s : Nat → Nat → String → MS
def dispM (sub : String → String → Bool) (ex : Gm → MX) (De : MEnds) : List Hdr → Gm → MX
  | [], Γ, c1, fs, C1 => ex Γ c1 fs C1
  | h :: t, Γ, c1, fs, C1 => ifP (sub c1 h.c) (∀ a d, h.s a d c1 { nx := fun Γ2 C2 => De.nx (Γ2.set h.i none) C2, rt := De.rt, bk := fun Γ2 C2 => De.bk (Γ2.set h.i none) C2, ct := fun Γ2 C2 => De.ct (Γ2.set h.i none) C2 } (Γ.set h.i (some (.exn a d c1 fs))) C1) (dispM sub ex De t Γ c1 fs C1)
/-- kn: the classes that are known, sub: the one is the other or under it -/
def mTry (kn : List String) (sub : String → String → Bool) (b : (Gm → MX) → MS) (hs : List Hdr) (ex : Gm → MX) : MS := fun De Γ C => b (fun Γ1 c1 fs C1 => c1 ∈ kn ∧ dispM sub ex De hs Γ1 c1 fs C1) De Γ C
def mExF (a d : Nat) (c f : String) (e : ME) : ME := fun Γ C Q => e Γ C fun r C1 => match r with
  | .exn a1 d1 c1 fs => (a1 = a ∧ d1 = d ∧ c1 = c) ∧ optP (fs.lookup f) fun x => Q x C1
  | _ => False
/-- isinstance(e, c2), e the caught exception -/
def mExI (sub : String → String → Bool) (a d : Nat) (c c2 : String) (e : ME) : ME := fun Γ C Q => e Γ C fun r C1 => match r with
  | .exn a1 d1 c1 _ => (a1 = a ∧ d1 = d ∧ c1 = c) ∧ Q (.bl (sub c c2)) C1
  | _ => False
/-- a def's end: cells beyond n are let go -/
@[irreducible] def endD (n0 : Nat) (Q : Qe) : Qe := fun r C => Q r C ∨ ∃ n, n0 ≤ n ∧ okR n r ∧ okC n (C.take n) ∧ Q r (C.take n)
@[irreducible] def endX (n0 : Nat) (E : MX) : MX := fun c fs C => E c fs C ∨ ∃ n, n0 ≤ n ∧ okF n fs ∧ okC n (C.take n) ∧ E c fs (C.take n)
theorem end_l {n0 : Nat} {Q : Qe} {r : R} {C : Cs} (h : Q r C) : endD n0 Q r C := by unfold endD; exact .inl h
theorem end_r {n0 : Nat} {Q : Qe} {r : R} {C : Cs} (n : Nat) (h0 : n0 ≤ n) (h1 : okR n r) (h2 : okC n (C.take n)) (h : Q r (C.take n)) : endD n0 Q r C := by unfold endD; exact .inr ⟨n, h0, h1, h2, h⟩
theorem ex_l {n0 : Nat} {E : MX} {c : String} {fs : List (String × R)} {C : Cs} (h : E c fs C) : endX n0 E c fs C := by unfold endX; exact .inl h
theorem ex_r {n0 : Nat} {E : MX} {c : String} {fs : List (String × R)} {C : Cs} (n : Nat) (h0 : n0 ≤ n) (h1 : okF n fs) (h2 : okC n (C.take n)) (h : E c fs (C.take n)) : endX n0 E c fs C := by unfold endX; exact .inr ⟨n, h0, h1, h2, h⟩
/-- a def's body m keeps w: N names -/
def Keeps (N : Nat) (m : (Gm → MX) → MS) (n : Nat) (w : Wt) : Prop := ∀ (rs : List R) (C : Cs) (Q : Qe) (E : MX), rs.length = n → w rs C Q E →
  m (fun _ => endX C.length E) { nx := fun _ C' => endD C.length Q .non C', rt := endD C.length Q } (start N rs) C
/-- what a box holds -/
def BoxAt (a c d : Int) (n : Nat) : Prop := 0 ≤ a ∧ 0 ≤ c ∧ c < 2147483648 ∧ 0 ≤ d ∧ d ≤ n
/-- C2 is C with some of its lists taken as boxes -/
def boxed (k : Nat) (n : Nat) (C : Cs) : Prop := ∃ a b c d, C[k]? = some (.lst [.int a, .bl b, .int c, .int d]) ∧ BoxAt a c d n
/-- the box in slot i is opened for s, and shut where s returns -/
def mUnb (i : Nat) (s : MS) : MS := fun D Γ C => match Γ[i]? with
  | some (some (.cell k)) => match C[k]? with
    | some (.box n) => ∀ a b c d, BoxAt a c d n → s { nx := fun _ _ => False, rt := fun r C' => ∃ n', boxed k n' C' ∧ D.rt r (C'.set k (.box n')) } Γ (C.set k (.lst [.int a, .bl b, .int c, .int d]))
    | _ => False
  | _ => False
/-- a returned list is taken as a box -/
def mBox (n : Nat) (s : MS) : MS := fun D Γ C => s { nx := fun _ _ => False, rt := fun r C' => match r with
  | .cell k => boxed k n C' ∧ D.rt r (C'.set k (.box n))
  | _ => False } Γ C
/-- cells beyond n and slots are forgotten ahead of a statement -/
def mCut (n : Nat) (f : Gm → Gm) (s : MS) : MS := fun D Γ C => subG (f Γ) Γ ∧ okG n (f Γ) ∧ okC n (C.take n) ∧ s D (f Γ) (C.take n)
def prevW (WS : Nat → Wt) : Nat → Wt
  | 0 => fun _ _ _ _ => False
  | n + 1 => WS n
def mChain (o o' : R → R → Cs → Qe → Prop) (a b c : ME) : ME := fun Γ C Q => a Γ C fun x C1 => b Γ C1 fun y C2 => o x y C2 fun z C3 => match z with
  | .bl k => ifP k (c Γ C3 fun w C4 => o' y w C4 Q) (Q (.bl false) C3)
  | _ => False
def mStar (e : ME) (a : MA) : MA := fun Γ C Q => e Γ C fun x C1 => optP (seqOf C1 x) fun xs => a Γ C1 fun ys C2 => Q (xs ++ ys) C2
def flatR : R → Bool
  | .non => true
  | .bl _ => true
  | .int _ => true
  | .str _ => true
  | _ => false
/-- xs.index(r), flat items, r among them -/
def mIndex (o e : ME) : ME := fun Γ C Q => o Γ C fun x C1 => (match x with
  | .lst _ => True
  | _ => False) ∧ e Γ C1 fun r C2 => match x with
  | .lst xs => (flatR r = true ∧ xs.all flatR = true) ∧ ∃ (j : Nat) (z : R), (xs[j]? = some z ∧ eqR z r = true) ∧ (∀ (m : Nat) (z' : R), m < j → xs[m]? = some z' → eqR z' r = false) ∧ Q (.int j) C2
  | _ => False
def oIn (neg : Bool) (x y : R) (C : Cs) (Q : Qe) : Prop := optP (seqOf C y) fun xs => (flatR x = true ∧ xs.all flatR = true) ∧ Q (.bl (if neg then !xs.any fun z => eqR z x else xs.any fun z => eqR z x)) C
/-- i & (2 ** k - 1) -/
def oAnd (x y : R) (C : Cs) (Q : Qe) : Prop := match x, y with
  | .int i, .int j => ∃ k : Nat, j = 2 ^ k - 1 ∧ Q (.int (i % 2 ^ k)) C
  | _, _ => False
/-- lo, lo + c, .. : n of them -/
def stepsR (lo c : Int) : Nat → List R
  | 0 => []
  | n + 1 => .int lo :: stepsR (lo + c) c n
/-- range(i, j, -1) -/
def iRgD (a : MA) : MI := fun Γ C Q => a Γ C fun rs C1 => match rs with
  | [.int i, .int j, .int c] => (c = -1 ∧ -(2 ^ 62) ≤ i ∧ i < 2 ^ 62 ∧ -(2 ^ 62) ≤ j ∧ j < 2 ^ 62) ∧ Q (stepsR i (-1) (i - j).toNat) C1
  | _ => False
/-- list(range(..)) -/
def mLRg (cell : Bool) (a : MA) : ME := fun Γ C Q => a Γ C fun rs C1 => match rs with
  | [.int j] => (-(2 ^ 62) ≤ j ∧ j ≤ 16777216) ∧ newL cell (upto 0 j.toNat) C1 Q
  | [.int i, .int j] => (-(2 ^ 62) ≤ i ∧ i < 2 ^ 62 ∧ -(2 ^ 62) ≤ j ∧ j < 2 ^ 62 ∧ j - i ≤ 16777216) ∧ newL cell (upto i (j - i).toNat) C1 Q
  | _ => False
def fGcd (xs : List R) (C : Cs) (Q : Qe) : Prop := match xs with
  | [.int i, .int j] => Q (.int ((Nat.gcd i.natAbs j.natAbs : Nat) : Int)) C
  | _ => False
def mChain3 (o o' o'' : R → R → Cs → Qe → Prop) (a b c d : ME) : ME := fun Γ C Q => a Γ C fun x C1 => b Γ C1 fun y C2 => o x y C2 fun z C3 => match z with
  | .bl k => ifP k (c Γ C3 fun w C4 => o' y w C4 fun z5 C5 => match z5 with
    | .bl k5 => ifP k5 (d Γ C5 fun v C6 => o'' w v C6 Q) (Q (.bl false) C5)
    | _ => False) (Q (.bl false) C3)
  | _ => False
def fLcm (xs : List R) (C : Cs) (Q : Qe) : Prop := match xs with
  | [.int a, .int b] => (a.natAbs < 18446744073709551616 ∧ b.natAbs < 18446744073709551616) ∧ Q (.int ((Int.lcm a b : Nat) : Int)) C
  | _ => False
def fDict (xs : List R) (C : Cs) (Q : Qe) : Prop := match xs with
  | [.cell k] => match C[k]? with
    | some (.dct kvs) => Q (.cell C.length) (C ++ [.dct kvs])
    | _ => False
  | _ => False
@[irreducible] def strI (i : Int) : Str := toString i
def fStrB (xs : List R) (C : Cs) (Q : Qe) : Prop := match xs with
  | [.int i] => i.natAbs < 2 ^ 1900 ∧ Q (.str (strI i)) C
  | _ => False
def fStr (xs : List R) (C : Cs) (Q : Qe) : Prop := match xs with
  | [.int i] => i.natAbs < 18446744073709551616 ∧ Q (.str (strI i)) C
  | _ => False
def mRaise2 (c f g : String) (ex : Gm → MX) (am : MA) : MS := fun _ Γ C => am Γ C fun rs C1 => match rs with
  | [r, r2] => ex Γ c [(g, r2), (f, r)] C1
  | _ => False
def mRaise3 (c f g h : String) (ex : Gm → MX) (am : MA) : MS := fun _ Γ C => am Γ C fun rs C1 => match rs with
  | [r, r2, r3] => ex Γ c [(h, r3), (g, r2), (f, r)] C1
  | _ => False
end NB

set_option Elab.async false
set_option linter.all false
set_option maxRecDepth 100000
set_option maxHeartbeats 1000000
namespace NB
open PySem PySem.Spec L2

/-! ### the ghost: what is frozen, where the cells are, the exception of a suite -/
structure Wd where
  G : Hp
  ps : List Addr

section
variable (K : PySem.W.Frag) (S : Wd)
mutual
inductive D : V → R → Prop
  | non : D .non .non
  | bl (b : Bool) : D (.bl b) (.bl b)
  | int (i : Int) : D (.int i) (.int i)
  | str (z : Str) : D (.str z) (.str z)
  | tup {a : Addr} {vs : List V} {rs : List R} (h : S.G a = some (.tup vs)) (t : DL vs rs) : D (.ref a) (.tup rs)
  | lst {a : Addr} {vs : List V} {rs : List R} (h : S.G a = some (.lst vs)) (t : DL vs rs) : D (.ref a) (.lst rs)
  | scr {a : Addr} {vs : List V} {rs : List R} (h : SqL K S.G a vs) (t : DL vs rs) : D (.ref a) (.scr rs)
  | cell {a : Addr} {k : Nat} (h : S.ps[k]? = some a) : D (.ref a) (.cell k)
  | exn {a d : Addr} {c : String} {fv : List (Str × V)} {fs : List (String × R)} (hd : S.G d = some (.xd fv)) (t : DF fv fs) : D (.ref a) (.exn a d c fs)
inductive DL : List V → List R → Prop
  | nil : DL [] []
  | cons {v : V} {vs : List V} {r : R} {rs : List R} (h : D v r) (t : DL vs rs) : DL (v :: vs) (r :: rs)
inductive DF : List (Str × V) → List (String × R) → Prop
  | nil : DF [] []
  | cons {x : String} {v : V} {vs : List (Str × V)} {r : R} {rs : List (String × R)} (h : D v r) (t : DF vs rs) : DF ((Str.ofString x, v) :: vs) ((x, r) :: rs)
end
end

/-- the world goes on -/
structure Le (S : Wd) (H : Hp) (S' : Wd) (H' : Hp) : Prop where
  g : ∀ b o, S.G b = some o → S'.G b = some o
  ps : ∀ (k : Nat) p, S.ps[k]? = some p → S'.ps[k]? = some p
  fr : ∀ b o, H b = some o → b ∉ S.ps → H' b = some o
  nw : ∀ p ∈ S'.ps, p ∈ S.ps ∨ H p = none
  gn : ∀ b o, S'.G b = some o → S.G b = some o ∨ b ∈ S.ps ∨ H b = none

section
variable {K : PySem.W.Frag} {S S' S1 S2 : Wd} {H H' H1 H2 : Hp}
theorem Le.refl (S : Wd) (H : Hp) : Le S H S H := ⟨fun _ _ h => h, fun _ _ h => h, fun _ _ h _ => h, fun _ h => .inl h, fun _ _ h => .inl h⟩
theorem Le.trans (a : Le S H S1 H1) (b : Le S1 H1 S2 H2) : Le S H S2 H2 where
  g := fun c o h => b.g c o (a.g c o h)
  ps := fun k p h => b.ps k p (a.ps k p h)
  fr := fun c o h n => b.fr c o (a.fr c o h n) fun m => (a.nw c m).elim n fun z => by rw [h] at z; cases z
  nw := fun p m => by
    rcases b.nw p m with h | h
    · exact a.nw p h
    · by_cases hp : p ∈ S.ps
      · exact .inl hp
      · refine .inr ?_
        cases e : H p with
        | none => rfl
        | some o =>
          have := a.fr p o e hp
          rw [h] at this
          cases this
  gn := fun c o h => by
    rcases b.gn c o h with h | h | h
    · exact a.gn c o h
    · exact .inr (a.nw c h)
    · by_cases hp : c ∈ S.ps
      · exact .inr (.inl hp)
      · refine .inr (.inr ?_)
        cases e : H c with
        | none => rfl
        | some o =>
          have := a.fr c o e hp
          rw [h] at this
          cases this
theorem rd_mono {G G' : Hp} {a : Addr} {u : HO} (h : ∀ b o, G b = some o → G' b = some o) : Rd G a u → Rd G' a u := fun r => r.elim (fun z => .inl (h _ _ z)) fun ⟨o, z⟩ => .inr ⟨o, h _ _ z⟩
theorem sqL_mono {G G' : Hp} {a : Addr} {xs : List V} (h : ∀ b o, G b = some o → G' b = some o) : SqL K G a xs → SqL K G' a xs := fun r => r.elim (fun z => .inl (rd_mono h z)) .inr
theorem sqT_mono {G G' : Hp} {a : Addr} {xs : List V} (h : ∀ b o, G b = some o → G' b = some o) : SqT K G a xs → SqT K G' a xs := fun r => r.elim (fun z => .inl (rd_mono h z)) .inr
section
variable (h : ∀ b o, S.G b = some o → S'.G b = some o) (hp : ∀ (k : Nat) p, S.ps[k]? = some p → S'.ps[k]? = some p)
include h hp
mutual
theorem D.mono' : ∀ {v : V} {r : R}, D K S v r → D K S' v r
  | _, _, .non => .non
  | _, _, .bl b => .bl b
  | _, _, .int i => .int i
  | _, _, .str z => .str z
  | _, _, .tup q t => .tup (h _ _ q) (DL.mono' t)
  | _, _, .lst q t => .lst (h _ _ q) (DL.mono' t)
  | _, _, .scr q t => .scr (sqL_mono h q) (DL.mono' t)
  | _, _, .cell q => .cell (hp _ _ q)
  | _, _, .exn d t => .exn (h _ _ d) (DF.mono' t)
theorem DL.mono' : ∀ {v : List V} {r : List R}, DL K S v r → DL K S' v r
  | _, _, .nil => .nil
  | _, _, .cons a t => .cons (D.mono' a) (DL.mono' t)
theorem DF.mono' : ∀ {v : List (Str × V)} {r : List (String × R)}, DF K S v r → DF K S' v r
  | _, _, .nil => .nil
  | _, _, .cons a t => .cons (D.mono' a) (DF.mono' t)
end
end
theorem D.mono (l : Le S H S' H') {v : V} {r : R} (d : D K S v r) : D K S' v r := D.mono' l.g l.ps d
theorem DL.mono (l : Le S H S' H') {v : List V} {r : List R} (d : DL K S v r) : DL K S' v r := DL.mono' l.g l.ps d
theorem DF.mono (l : Le S H S' H') {v : List (Str × V)} {r : List (String × R)} (d : DF K S v r) : DF K S' v r := DF.mono' l.g l.ps d
theorem DL.length : ∀ {v : List V} {r : List R}, DL K S v r → v.length = r.length
  | _, _, .nil => rfl
  | _, _, .cons _ t => congrArg (· + 1) (DL.length t)
theorem DL.append : ∀ {v v' : List V} {r r' : List R}, DL K S v r → DL K S v' r' → DL K S (v ++ v') (r ++ r')
  | _, _, _, _, .nil, q => q
  | _, _, _, _, .cons h t, q => .cons h (DL.append t q)
theorem DL.get : ∀ {v : List V} {r : List R} {i : Nat} {x : R}, DL K S v r → r[i]? = some x → ∃ y, v[i]? = some y ∧ D K S y x
  | _, _, 0, _, .cons h _, e => by simp at e; subst e; exact ⟨_, rfl, h⟩
  | _, _, i + 1, _, .cons _ t, e => by
    obtain ⟨y, h1, h2⟩ := DL.get (i := i) t (by simpa using e)
    exact ⟨y, by simpa using h1, h2⟩
theorem DL.get' : ∀ {v : List V} {r : List R} {i : Nat} {x : V}, DL K S v r → v[i]? = some x → ∃ y, r[i]? = some y ∧ D K S x y
  | _, _, 0, _, .cons h _, e => by simp at e; subst e; exact ⟨_, rfl, h⟩
  | _, _, i + 1, _, .cons _ t, e => by
    obtain ⟨y, h1, h2⟩ := DL.get' (i := i) t (by simpa using e)
    exact ⟨y, by simpa using h1, h2⟩
theorem DL.set : ∀ {v : List V} {r : List R} (i : Nat) {x : V} {y : R}, DL K S v r → D K S x y → DL K S (v.set i x) (r.set i y)
  | _, _, _, _, _, .nil, _ => .nil
  | _, _, 0, _, _, .cons _ t, d => .cons d t
  | _, _, i + 1, _, _, .cons h t, d => .cons h (DL.set i t d)
theorem DL.take : ∀ {v : List V} {r : List R} (i : Nat), DL K S v r → DL K S (v.take i) (r.take i)
  | _, _, 0, _ => .nil
  | _, _, _ + 1, .nil => .nil
  | _, _, i + 1, .cons h t => .cons h (DL.take i t)
theorem DL.drop : ∀ {v : List V} {r : List R} (i : Nat), DL K S v r → DL K S (v.drop i) (r.drop i)
  | _, _, 0, h => h
  | _, _, _ + 1, .nil => .nil
  | _, _, i + 1, .cons _ t => DL.drop i t
theorem DL.reverse : ∀ {v : List V} {r : List R}, DL K S v r → DL K S v.reverse r.reverse
  | _, _, .nil => .nil
  | _, _, .cons h t => by
    rw [List.reverse_cons, List.reverse_cons]
    exact (DL.reverse t).append (.cons h .nil)
theorem DL.erase : ∀ {v : List V} {r : List R} (i : Nat), DL K S v r → DL K S (v.eraseIdx i) (r.eraseIdx i)
  | _, _, _, .nil => .nil
  | _, _, 0, .cons _ t => t
  | _, _, i + 1, .cons h t => .cons h (DL.erase i t)
end

/-- what stands at a cell -/
def CtOk (K : PySem.W.Frag) (S : Wd) (H : Hp) (p : Addr) : Ct → Prop
  | .lst xs => ∃ vs, H p = some (.lst vs) ∧ DL K S vs xs
  | .box n => ∃ (a : Int) (b : Bool) (c d : Int), H p = some (.lst [.int a, .bl b, .int c, .int d]) ∧ 0 ≤ a ∧ 0 ≤ c ∧ c < 2147483648 ∧ 0 ≤ d ∧ d ≤ n
  | .dct kvs => ∃ kv : List (Key × V), H p = some (.dK kv) ∧ kv.map (·.1) = kvs.map (·.1) ∧ DL K S (kv.map (·.2)) (kvs.map (·.2))
  | .dtt kvs => ∃ kv : List (List Key × V), H p = some (.dT kv) ∧ kv.map (·.1) = kvs.map (·.1) ∧ DL K S (kv.map (·.2)) (kvs.map (·.2))
  | .dead => ∃ o, H p = some o

structure Rep (K : PySem.W.Frag) (S : Wd) (H : Hp) (C : Cs) : Prop where
  sub : ∀ b o, S.G b = some o → H b = some o
  len : S.ps.length = C.length
  nd : S.ps.Nodup
  off : ∀ (k : Nat) p c, S.ps[k]? = some p → C[k]? = some c → c ≠ .dead → S.G p = none
  at_ : ∀ (k : Nat) p c, S.ps[k]? = some p → C[k]? = some c → CtOk K S H p c

/-- the slots -/
structure SG (K : PySem.W.Frag) (S : Wd) (σ : St) (Γ : Gm) : Prop where
  len : Γ.length = σ.length
  at_ : ∀ (i : Nat) r, Γ[i]? = some (some r) → ∃ v, σ[i]? = some (some v) ∧ D K S v r

section
variable {K : PySem.W.Frag} {S S' S1 S2 : Wd} {H H' H1 H2 : Hp} {σ : St} {Γ : Gm} {C : Cs}
theorem SG.mono (l : Le S H S' H') (g : SG K S σ Γ) : SG K S' σ Γ := ⟨g.len, fun i r h => let ⟨v, e, d⟩ := g.at_ i r h; ⟨v, e, d.mono l⟩⟩
theorem SG.set (g : SG K S σ Γ) (i : Nat) {v : V} {r : R} (d : D K S v r) : SG K S (σ.set i (some v)) (Γ.set i (some r)) := by
  refine ⟨by simp [g.len], fun j x h => ?_⟩
  rw [List.getElem?_set] at h
  rw [List.getElem?_set]
  split at h
  · rename_i e
    subst e
    split at h
    · cases h
      rw [if_pos rfl, if_pos (by rw [← g.len]; assumption)]
      exact ⟨v, rfl, d⟩
    · cases h
  · rename_i e
    rw [if_neg e]
    exact g.at_ j x h
theorem SG.wipe (g : SG K S σ Γ) (i : Nat) (z : Option V) : SG K S (σ.set i z) (Γ.set i none) := by
  refine ⟨by simp [g.len], fun j x h => ?_⟩
  rw [List.getElem?_set] at h
  rw [List.getElem?_set]
  split at h
  · split at h <;> cases h
  · rename_i e
    rw [if_neg e]
    exact g.at_ j x h
theorem SG.wipeΓ (g : SG K S σ Γ) (i : Nat) : SG K S σ (Γ.set i none) := by
  refine ⟨by simp [g.len], fun j x h => ?_⟩
  rw [List.getElem?_set] at h
  split at h
  · split at h <;> cases h
  · exact g.at_ j x h
/-- a new frozen object -/
theorem Rep.freeze (rp : Rep K S H C) {p : Addr} {o : HO} (n : H p = none) : Rep K { S with G := upd S.G p o } (upd H p o) C ∧ Le S H { S with G := upd S.G p o } (upd H p o) := by
  have np : ∀ q ∈ S.ps, ∀ (k : Nat) c, S.ps[k]? = some q → C[k]? = some c → c ≠ .dead → q ≠ p := fun q _ k c hk hc hd e => by
    subst e
    have := rp.at_ k q c hk hc
    cases c with
    | lst xs => obtain ⟨vs, e, _⟩ := this; rw [n] at e; cases e
    | box m => obtain ⟨_, _, _, _, e, _⟩ := this; rw [n] at e; cases e
    | dct kvs => obtain ⟨_, e, _⟩ := this; rw [n] at e; cases e
    | dtt kvs => obtain ⟨_, e, _⟩ := this; rw [n] at e; cases e
    | dead => exact absurd rfl hd
  have gn : S.G p = none := by
    cases e : S.G p with
    | none => rfl
    | some o => have := rp.sub p o e; rw [n] at this; cases this
  have gm : ∀ b u, S.G b = some u → upd S.G p o b = some u := fun b u h => by
    have : b ≠ p := fun e => by rw [e, gn] at h; cases h
    rw [upd_ne this]; exact h
  have le : Le S H { S with G := upd S.G p o } (upd H p o) := ⟨gm, fun _ _ h => h, fun b u h _ => by rw [upd_ne (ne_of_none h n)]; exact h, fun _ h => .inl h, fun b u h => by
      by_cases e : b = p
      · rw [e]; exact .inr (.inr n)
      · have h' : upd S.G p o b = some u := h
        rw [upd_ne e] at h'
        exact .inl h'⟩
  refine ⟨⟨fun b u h => ?_, rp.len, rp.nd, fun k q c hk hc hd => ?_, fun k q c hk hc => ?_⟩, le⟩
  · by_cases e : b = p
    · subst e
      have h' : upd S.G b o b = some u := h
      rw [upd_same] at h' ⊢
      exact h'
    · have h' : upd S.G p o b = some u := h
      rw [upd_ne e] at h' ⊢
      exact rp.sub b u h'
  · show upd S.G p o q = none
    rw [upd_ne (np q (List.mem_of_getElem? hk) k c hk hc hd)]
    exact rp.off k q c hk hc hd
  · have q0 := rp.at_ k q c hk hc
    cases c with
    | lst xs => obtain ⟨vs, e, d⟩ := q0; exact ⟨vs, by rw [upd_ne (ne_of_none e n)]; exact e, d.mono le⟩
    | box m => obtain ⟨a, b, c, d, e, z⟩ := q0; exact ⟨a, b, c, d, by rw [upd_ne (ne_of_none e n)]; exact e, z⟩
    | dct kvs => obtain ⟨kv, e, z, d⟩ := q0; exact ⟨kv, by rw [upd_ne (ne_of_none e n)]; exact e, z, d.mono le⟩
    | dtt kvs => obtain ⟨kv, e, z, d⟩ := q0; exact ⟨kv, by rw [upd_ne (ne_of_none e n)]; exact e, z, d.mono le⟩
    | dead => obtain ⟨u, e⟩ := q0; exact ⟨u, by rw [upd_ne (ne_of_none e n)]; exact e⟩
theorem CtOk.some {p : Addr} {c : Ct} (h : CtOk K S H p c) : ∃ o, H p = some o := by
  cases c with
  | lst xs => obtain ⟨vs, e, _⟩ := h; exact ⟨_, e⟩
  | box m => obtain ⟨_, _, _, _, e, _⟩ := h; exact ⟨_, e⟩
  | dct kvs => obtain ⟨_, e, _⟩ := h; exact ⟨_, e⟩
  | dtt kvs => obtain ⟨_, e, _⟩ := h; exact ⟨_, e⟩
  | dead => exact h
theorem Rep.nps (rp : Rep K S H C) {p : Addr} (n : H p = none) : p ∉ S.ps := fun m => by
  obtain ⟨k, hk, e⟩ := List.getElem_of_mem m
  have h1 : S.ps[k]? = Option.some p := by rw [List.getElem?_eq_getElem hk, e]
  have hk2 : k < C.length := by rw [← rp.len]; exact hk
  obtain ⟨o, h⟩ := (rp.at_ k p _ h1 (List.getElem?_eq_getElem hk2)).some
  rw [n] at h
  cases h
theorem CtOk.mono {p : Addr} {c : Ct} (h : CtOk K S H p c) (l : Le S H S' H') (e : ∀ o, H p = Option.some o → H' p = Option.some o) : CtOk K S' H' p c := by
  cases c with
  | lst xs => obtain ⟨vs, z, d⟩ := h; exact ⟨vs, e _ z, d.mono l⟩
  | box m => obtain ⟨a, b, c, d, z, y⟩ := h; exact ⟨a, b, c, d, e _ z, y⟩
  | dct kvs => obtain ⟨kv, z, y, d⟩ := h; exact ⟨kv, e _ z, y, d.mono l⟩
  | dtt kvs => obtain ⟨kv, z, y, d⟩ := h; exact ⟨kv, e _ z, y, d.mono l⟩
  | dead => obtain ⟨u, z⟩ := h; exact ⟨u, e _ z⟩
/-- a new cell: c stands at p in H' = upd H p o -/
theorem Rep.grow (rp : Rep K S H C) {p : Addr} {o : HO} {c : Ct} (n : H p = none) (hc : ∀ S', Le S H S' (upd H p o) → CtOk K S' (upd H p o) p c) :
    Rep K { S with ps := S.ps ++ [p] } (upd H p o) (C ++ [c]) ∧ Le S H { S with ps := S.ps ++ [p] } (upd H p o) := by
  have hq := rp.nps n
  have gn : S.G p = none := by
    cases e : S.G p with
    | none => rfl
    | some o => have := rp.sub p o e; rw [n] at this; cases this
  have le : Le S H { S with ps := S.ps ++ [p] } (upd H p o) := ⟨fun _ _ h => h, fun k q h => by
      have : k < S.ps.length := (List.getElem?_eq_some_iff.mp h).1
      show (S.ps ++ [p])[k]? = _
      rw [List.getElem?_append_left this]; exact h, fun b u h _ => by rw [upd_ne (ne_of_none h n)]; exact h,
    fun q h => by
      rcases List.mem_append.mp h with h | h
      · exact .inl h
      · rw [List.mem_singleton.mp h]; exact .inr n, fun _ _ h => .inl h⟩
  have key : ∀ (k : Nat) q c', (S.ps ++ [p])[k]? = some q → (C ++ [c])[k]? = some c' → (k < S.ps.length ∧ S.ps[k]? = some q ∧ C[k]? = some c') ∨ (q = p ∧ c' = c) := fun k q c' h1 h2 => by
    by_cases hk : k < S.ps.length
    · rw [List.getElem?_append_left hk] at h1
      rw [List.getElem?_append_left (by rw [← rp.len]; exact hk)] at h2
      exact .inl ⟨hk, h1, h2⟩
    · have hk' : k = S.ps.length := by
        have := (List.getElem?_eq_some_iff.mp h1).1
        simp at this
        omega
      subst hk'
      rw [List.getElem?_append_right (Nat.le_refl _)] at h1
      rw [List.getElem?_append_right (by rw [rp.len]; exact Nat.le_refl _)] at h2
      simp at h1
      rw [rp.len] at h2
      simp at h2
      exact .inr ⟨h1.symm, h2.symm⟩
  refine ⟨⟨fun b u h => ?_, by simp [rp.len], ?_, fun k q c' h1 h2 hd => ?_, fun k q c' h1 h2 => ?_⟩, le⟩
  · have hb : b ≠ p := fun e => by
      have h' : S.G b = some u := h
      rw [e, gn] at h'; cases h'
    rw [upd_ne hb]
    exact rp.sub b u h
  · show (S.ps ++ [p]).Nodup
    rw [List.nodup_append]
    refine ⟨rp.nd, by simp, fun a ha b hb => ?_⟩
    rw [List.mem_singleton.mp hb]
    exact fun e => hq (e ▸ ha)
  · rcases key k q c' h1 h2 with ⟨_, h1, h2⟩ | ⟨e, _⟩
    · exact rp.off k q c' h1 h2 hd
    · rw [e]; exact gn
  · rcases key k q c' h1 h2 with ⟨_, h1, h2⟩ | ⟨e, e2⟩
    · refine (rp.at_ k q c' h1 h2).mono le fun o' e => ?_
      rw [upd_ne (ne_of_none e n)]; exact e
    · rw [e, e2]
      exact hc _ le
/-- a cell is written -/
theorem Rep.write (rp : Rep K S H C) {k : Nat} {p : Addr} {o : HO} {c c0 : Ct} (hp : S.ps[k]? = some p) (h0 : C[k]? = some c0) (hd0 : c0 ≠ .dead) (hc : CtOk K S (upd H p o) p c) :
    Rep K S (upd H p o) (C.set k c) ∧ Le S H S (upd H p o) := by
  have le : Le S H S (upd H p o) := ⟨fun _ _ h => h, fun _ _ h => h, fun b u h hb => by
      rw [upd_ne (fun e => hb (by rw [e]; exact List.mem_of_getElem? hp))]; exact h, fun _ h => .inl h, fun _ _ h => .inl h⟩
  have gn : S.G p = none := rp.off k p c0 hp h0 hd0
  have hk : k < C.length := (List.getElem?_eq_some_iff.mp h0).1
  have one : ∀ (j : Nat) q, S.ps[j]? = some q → q = p → j = k := fun j q h e => by
    subst e
    have hj := (List.getElem?_eq_some_iff.mp h).1
    have hk2 := (List.getElem?_eq_some_iff.mp hp).1
    exact ((List.getElem?_inj hj rp.nd).mp (h.trans hp.symm))
  refine ⟨⟨fun b u h => ?_, by simp [rp.len], rp.nd, fun j q c' h1 h2 hd => ?_, fun j q c' h1 h2 => ?_⟩, le⟩
  · have hb : b ≠ p := fun e => by rw [e, gn] at h; cases h
    rw [upd_ne hb]
    exact rp.sub b u h
  · by_cases e : q = p
    · rw [e]; exact gn
    · have hj : j ≠ k := fun z => by subst z; rw [hp] at h1; cases h1; exact e rfl
      rw [List.getElem?_set_ne (Ne.symm hj)] at h2
      exact rp.off j q c' h1 h2 hd
  · by_cases e : q = p
    · have hj := one j q h1 e
      subst hj
      rw [List.getElem?_set_self hk] at h2
      cases h2
      rw [e]; exact hc
    · have hj : j ≠ k := fun z => by subst z; rw [hp] at h1; cases h1; exact e rfl
      rw [List.getElem?_set_ne (Ne.symm hj)] at h2
      refine (rp.at_ j q c' h1 h2).mono le fun o' z => ?_
      rw [upd_ne e]; exact z
/-- a list's cell is frozen -/
theorem Rep.ice (rp : Rep K S H C) {k : Nat} {p : Addr} {vs : List V} {xs : List R} (hp : S.ps[k]? = some p) (h0 : C[k]? = some (.lst xs)) (hv : H p = some (.lst vs)) :
    Rep K { S with G := upd S.G p (.lst vs) } H (C.set k .dead) ∧ Le S H { S with G := upd S.G p (.lst vs) } H := by
  have gn : S.G p = none := rp.off k p _ hp h0 (fun z => by cases z)
  have hk : k < C.length := (List.getElem?_eq_some_iff.mp h0).1
  have gm : ∀ b u, S.G b = some u → upd S.G p (.lst vs) b = some u := fun b u h => by
    have : b ≠ p := fun e => by rw [e, gn] at h; cases h
    rw [upd_ne this]; exact h
  have le : Le S H { S with G := upd S.G p (.lst vs) } H := ⟨gm, fun _ _ h => h, fun b u h _ => h, fun _ h => .inl h, fun b u h => by
      by_cases e : b = p
      · rw [e]; exact .inr (.inl (List.mem_of_getElem? hp))
      · have h' : upd S.G p (.lst vs) b = some u := h
        rw [upd_ne e] at h'
        exact .inl h'⟩
  have one : ∀ (j : Nat) q, S.ps[j]? = some q → q = p → j = k := fun j q h e => by
    subst e
    have hj := (List.getElem?_eq_some_iff.mp h).1
    exact ((List.getElem?_inj hj rp.nd).mp (h.trans hp.symm))
  refine ⟨⟨fun b u h => ?_, by simp [rp.len], rp.nd, fun j q c' h1 h2 hd => ?_, fun j q c' h1 h2 => ?_⟩, le⟩
  · by_cases e : b = p
    · subst e
      have h' : upd S.G b (.lst vs) b = some u := h
      rw [upd_same] at h'
      rw [hv]; exact h'
    · have h' : upd S.G p (.lst vs) b = some u := h
      rw [upd_ne e] at h'
      exact rp.sub b u h'
  · by_cases hj : j = k
    · subst hj
      rw [List.getElem?_set_self hk] at h2
      cases h2
      exact absurd rfl hd
    · rw [List.getElem?_set_ne (Ne.symm hj)] at h2
      show upd S.G p _ q = none
      rw [upd_ne (fun e => hj (one j q h1 e))]
      exact rp.off j q c' h1 h2 hd
  · by_cases hj : j = k
    · subst hj
      rw [List.getElem?_set_self hk] at h2
      cases h2
      rw [hp] at h1
      cases h1
      exact ⟨_, hv⟩
    · rw [List.getElem?_set_ne (Ne.symm hj)] at h2
      exact (rp.at_ j q c' h1 h2).mono le fun o' z => z
/-- an address beside: neither frozen nor a cell -/
theorem Rep.side (rp : Rep K S H C) {p : Addr} {o : HO} (h1 : p ∉ S.ps) (h2 : S.G p = none) : Rep K S (upd H p o) C := by
  refine ⟨fun b u h => ?_, rp.len, rp.nd, rp.off, fun k q c hk hc => ?_⟩
  · rw [upd_ne (fun e => by rw [e, h2] at h; cases h)]
    exact rp.sub b u h
  · have hq : q ≠ p := fun e => h1 (e ▸ List.mem_of_getElem? hk)
    have q0 := rp.at_ k q c hk hc
    cases c with
    | lst xs => obtain ⟨vs, e, d⟩ := q0; exact ⟨vs, by rw [upd_ne hq]; exact e, d⟩
    | box m => obtain ⟨a, b, c, d, e, z⟩ := q0; exact ⟨a, b, c, d, by rw [upd_ne hq]; exact e, z⟩
    | dct kvs => obtain ⟨kv, e, z, d⟩ := q0; exact ⟨kv, by rw [upd_ne hq]; exact e, z, d⟩
    | dtt kvs => obtain ⟨kv, e, z, d⟩ := q0; exact ⟨kv, by rw [upd_ne hq]; exact e, z, d⟩
    | dead => obtain ⟨u, e⟩ := q0; exact ⟨u, by rw [upd_ne hq]; exact e⟩
theorem Le.side (l : Le S H S' H') {p : Addr} {o : HO} (n : H p = none) : Le S H S' (upd H' p o) :=
  ⟨l.g, l.ps, fun b u h hb => by rw [upd_ne (ne_of_none h n)]; exact l.fr b u h hb, l.nw, l.gn⟩
/-- it is frozen -/
theorem Rep.adoptG (rp : Rep K S H C) {p : Addr} {o : HO} (h1 : p ∉ S.ps) (h2 : S.G p = none) (h3 : H p = some o) : Rep K { S with G := upd S.G p o } H C ∧ ∀ {v : V} {r : R}, D K S v r → D K { S with G := upd S.G p o } v r := by
  have gm : ∀ b u, S.G b = some u → upd S.G p o b = some u := fun b u h => by
    have : b ≠ p := fun e => by rw [e, h2] at h; cases h
    rw [upd_ne this]; exact h
  refine ⟨⟨fun b u h => ?_, rp.len, rp.nd, fun k q c hk hc hd => ?_, fun k q c hk hc => ?_⟩, fun d => D.mono' (S := S) (S' := { S with G := upd S.G p o }) gm (fun _ _ h => h) d⟩
  · have h' : upd S.G p o b = some u := h
    by_cases e : b = p
    · subst e
      rw [upd_same] at h'
      rw [h3]; exact h'
    · rw [upd_ne e] at h'
      exact rp.sub b u h'
  · show upd S.G p o q = none
    rw [upd_ne (fun (e : q = p) => h1 (by rw [← e]; exact List.mem_of_getElem? hk))]
    exact rp.off k q c hk hc hd
  · have q0 := rp.at_ k q c hk hc
    cases c with
    | lst xs => obtain ⟨vs, e, d⟩ := q0; exact ⟨vs, e, DL.mono' (S := S) (S' := { S with G := upd S.G p o }) gm (fun _ _ h => h) d⟩
    | box m => exact q0
    | dct kvs => obtain ⟨kv, e, z, d⟩ := q0; exact ⟨kv, e, z, DL.mono' (S := S) (S' := { S with G := upd S.G p o }) gm (fun _ _ h => h) d⟩
    | dtt kvs => obtain ⟨kv, e, z, d⟩ := q0; exact ⟨kv, e, z, DL.mono' (S := S) (S' := { S with G := upd S.G p o }) gm (fun _ _ h => h) d⟩
    | dead => exact q0
theorem Le.adoptG (l : Le S H S' H') {p : Addr} {o : HO} (n : H p = none) (h2 : S'.G p = none) : Le S H { S' with G := upd S'.G p o } H' :=
  ⟨fun b u h => by
    have h' := l.g b u h
    show upd S'.G p o b = some u
    rw [upd_ne (fun e => by rw [e, h2] at h'; cases h')]; exact h', l.ps, l.fr, l.nw, fun b u h => by
      have h' : upd S'.G p o b = some u := h
      by_cases e : b = p
      · rw [e]; exact .inr (.inr n)
      · rw [upd_ne e] at h'
        exact l.gn b u h'⟩
/-- it becomes a cell -/
theorem Rep.adoptC (rp : Rep K S H C) {p : Addr} {c : Ct} (h1 : p ∉ S.ps) (h2 : S.G p = none) (hc : CtOk K S H p c) : Rep K { S with ps := S.ps ++ [p] } H (C ++ [c]) := by
  have pm : ∀ (k : Nat) q, S.ps[k]? = some q → (S.ps ++ [p])[k]? = some q := fun k q h => by
    rw [List.getElem?_append_left (List.getElem?_eq_some_iff.mp h).1]; exact h
  have cm : ∀ {q : Addr} {c : Ct}, CtOk K S H q c → CtOk K { S with ps := S.ps ++ [p] } H q c := fun {q c} h => by
    cases c with
    | lst xs => obtain ⟨vs, e, d⟩ := h; exact ⟨vs, e, DL.mono' (S := S) (S' := { S with ps := S.ps ++ [p] }) (fun _ _ h => h) pm d⟩
    | box m => exact h
    | dct kvs => obtain ⟨kv, e, z, d⟩ := h; exact ⟨kv, e, z, DL.mono' (S := S) (S' := { S with ps := S.ps ++ [p] }) (fun _ _ h => h) pm d⟩
    | dtt kvs => obtain ⟨kv, e, z, d⟩ := h; exact ⟨kv, e, z, DL.mono' (S := S) (S' := { S with ps := S.ps ++ [p] }) (fun _ _ h => h) pm d⟩
    | dead => exact h
  have key : ∀ (k : Nat) q c', (S.ps ++ [p])[k]? = some q → (C ++ [c])[k]? = some c' → (S.ps[k]? = some q ∧ C[k]? = some c') ∨ (q = p ∧ c' = c) := fun k q c' e1 e2 => by
    by_cases hk : k < S.ps.length
    · rw [List.getElem?_append_left hk] at e1
      rw [List.getElem?_append_left (by rw [← rp.len]; exact hk)] at e2
      exact .inl ⟨e1, e2⟩
    · have hk' : k = S.ps.length := by
        have := (List.getElem?_eq_some_iff.mp e1).1
        simp at this
        omega
      subst hk'
      rw [List.getElem?_append_right (Nat.le_refl _)] at e1
      rw [List.getElem?_append_right (by rw [rp.len]; exact Nat.le_refl _)] at e2
      simp at e1
      rw [rp.len] at e2
      simp at e2
      exact .inr ⟨e1.symm, e2.symm⟩
  refine ⟨rp.sub, by simp [rp.len], ?_, fun k q c' e1 e2 hd => ?_, fun k q c' e1 e2 => ?_⟩
  · show (S.ps ++ [p]).Nodup
    rw [List.nodup_append]
    refine ⟨rp.nd, by simp, fun a ha b hb => ?_⟩
    rw [List.mem_singleton.mp hb]
    exact fun e => h1 (e ▸ ha)
  · rcases key k q c' e1 e2 with ⟨e1, e2⟩ | ⟨e, _⟩
    · exact rp.off k q c' e1 e2 hd
    · rw [e]; exact h2
  · rcases key k q c' e1 e2 with ⟨e1, e2⟩ | ⟨e, e'⟩
    · exact cm (rp.at_ k q c' e1 e2)
    · rw [e, e']; exact cm hc
theorem Le.adoptC (l : Le S H S' H') {p : Addr} (n : H p = none) : Le S H { S' with ps := S'.ps ++ [p] } H' :=
  ⟨l.g, fun k q h => by
    have h' := l.ps k q h
    show (S'.ps ++ [p])[k]? = some q
    rw [List.getElem?_append_left (List.getElem?_eq_some_iff.mp h').1]; exact h', l.fr, fun q h => by
      rcases List.mem_append.mp h with h | h
      · exact l.nw q h
      · rw [List.mem_singleton.mp h]; exact .inr n, l.gn⟩
end

/-! ### the judgements -/
structure Zx where
  cl : String → Addr
  S0 : Wd
  H0 : Hp
  W : WX
  e : Gm → MX
/-- a point of the run -/
structure At (K : PySem.W.Frag) (Z : Zx) (S : Wd) (σ : St) (H : Hp) (Γ : Gm) (C : Cs) : Prop where
  rp : Rep K S H C
  sg : SG K S σ Γ
  le : Le Z.S0 Z.H0 S H
def LkE (K : PySem.W.Frag) (Z : Zx) (S : Wd) (H : Hp) (Qm : Qe) (Q : VK) : Prop := ∀ r C' v S' H', Qm r C' → Rep K S' H' C' → Le S H S' H' → D K S' v r → Q v H'
def LkT (K : PySem.W.Frag) (Z : Zx) (S : Wd) (H : Hp) (Qm : Bool → Cs → Prop) (Q : Bool → Hp → Prop) : Prop := ∀ r C' S' H', Qm r C' → Rep K S' H' C' → Le S H S' H' → Q r H'
def LkA (K : PySem.W.Frag) (Z : Zx) (S : Wd) (H : Hp) (Qm : List R → Cs → Prop) (Q : List V → Hp → Prop) : Prop := ∀ r C' v S' H', Qm r C' → Rep K S' H' C' → Le S H S' H' → DL K S' v r → Q v H'
structure LkS (K : PySem.W.Frag) (Z : Zx) (S : Wd) (H : Hp) (Dm : MEnds) (Ds : Ends) : Prop where
  nx : ∀ Γ C σ S' H', Dm.nx Γ C → Rep K S' H' C → Le S H S' H' → SG K S' σ Γ → Ds.nx σ H'
  rt : LkE K Z S H Dm.rt Ds.rt
  bk : ∀ Γ C σ S' H', Dm.bk Γ C → Rep K S' H' C → Le S H S' H' → SG K S' σ Γ → Ds.bk σ H'
  ct : ∀ Γ C σ S' H', Dm.ct Γ C → Rep K S' H' C → Le S H S' H' → SG K S' σ Γ → Ds.ct σ H'
def TrE (K : PySem.W.Frag) (Z : Zx) (t : TE) (m : ME) : Prop := ∀ S σ H Γ C Qm Q, At K Z S σ H Γ C → LkE K Z S H Qm Q → m Γ C Qm → t σ H Q
def TrT (K : PySem.W.Frag) (Z : Zx) (t : TT) (m : MT) : Prop := ∀ S σ H Γ C Qm Q, At K Z S σ H Γ C → LkT K Z S H Qm Q → m Γ C Qm → t σ H Q
def TrA (K : PySem.W.Frag) (Z : Zx) (t : TA) (m : MA) : Prop := ∀ S σ H Γ C Qm Q, At K Z S σ H Γ C → LkA K Z S H Qm Q → m Γ C Qm → t σ H Q
def TrS (K : PySem.W.Frag) (Z : Zx) (t : TS) (m : MS) : Prop := ∀ S σ H Γ C Dm Ds, At K Z S σ H Γ C → LkS K Z S H Dm Ds → m Dm Γ C → t Ds σ H
def TrG (K : PySem.W.Frag) (Z : Zx) (t : TG) (m : MG) : Prop := ∀ S σ H Γ C v r Qm Q, At K Z S σ H Γ C → D K S v r →
  (∀ Γ' C' σ' S' H', Qm Γ' C' → Rep K S' H' C' → Le S H S' H' → SG K S' σ' Γ' → Q σ' H') → m r Γ C Qm → t v σ H Q
def TrGs (K : PySem.W.Frag) (Z : Zx) (t : TGs) (m : MGs) : Prop := ∀ S σ H Γ C v r Qm Q, At K Z S σ H Γ C → DL K S v r →
  (∀ Γ' C' σ' S' H', Qm Γ' C' → Rep K S' H' C' → Le S H S' H' → SG K S' σ' Γ' → Q σ' H') → m r Γ C Qm → t v σ H Q
def JE (X : Cx) (Z : Zx) (e : Expr) (m : ME) : Prop := ∃ t, PE X e t ∧ TrE X.K Z t m
def JT (X : Cx) (Z : Zx) (e : Expr) (m : MT) : Prop := ∃ t, PT X e t ∧ TrT X.K Z t m
def JW (X : Cx) (Z : Zx) (e : Expr) (m : MT) : Prop := ∃ t, PW X e t ∧ TrT X.K Z t m
def JA (X : Cx) (Z : Zx) (e : List Expr) (m : MA) : Prop := ∃ t, PA X e t ∧ TrA X.K Z t m
def JK (X : Cx) (Z : Zx) (e : List Keyword) (m : MA) : Prop := ∃ t, PK X e t ∧ TrA X.K Z t m
def JS (X : Cx) (Z : Zx) (e : Stmt) (m : MS) : Prop := ∃ t, PS X e t ∧ TrS X.K Z t m
def JSs (X : Cx) (Z : Zx) (e : List Stmt) (m : MS) : Prop := ∃ t, PSs X e t ∧ TrS X.K Z t m
def JG (X : Cx) (Z : Zx) (e : Expr) (m : MG) : Prop := ∃ t, PG X e t ∧ TrG X.K Z t m
def JGs (X : Cx) (Z : Zx) (e : List Expr) (m : MGs) : Prop := ∃ t, PGs X e t ∧ TrGs X.K Z t m

section
variable {K : PySem.W.Frag} {Z : Zx} {S S1 : Wd} {σ : St} {H H1 : Hp} {Γ : Gm} {C C1 : Cs}
theorem At.go (a : At K Z S σ H Γ C) (l : Le S H S1 H1) (rp : Rep K S1 H1 C1) : At K Z S1 σ H1 Γ C1 := ⟨rp, a.sg.mono l, a.le.trans l⟩
theorem At.to {σ1 : St} {Γ1 : Gm} (a : At K Z S σ H Γ C) (l : Le S H S1 H1) (rp : Rep K S1 H1 C1) (sg : SG K S1 σ1 Γ1) : At K Z S1 σ1 H1 Γ1 C1 := ⟨rp, sg, a.le.trans l⟩
theorem LkE.go {Qm : Qe} {Q : VK} (k : LkE K Z S H Qm Q) (l : Le S H S1 H1) : LkE K Z S1 H1 Qm Q := fun r C' v S' H' q rp l' d => k r C' v S' H' q rp (l.trans l') d
theorem LkT.go {Qm : Bool → Cs → Prop} {Q : Bool → Hp → Prop} (k : LkT K Z S H Qm Q) (l : Le S H S1 H1) : LkT K Z S1 H1 Qm Q := fun r C' S' H' q rp l' => k r C' S' H' q rp (l.trans l')
theorem LkA.go {Qm : List R → Cs → Prop} {Q : List V → Hp → Prop} (k : LkA K Z S H Qm Q) (l : Le S H S1 H1) : LkA K Z S1 H1 Qm Q := fun r C' v S' H' q rp l' d => k r C' v S' H' q rp (l.trans l') d
theorem LkS.go {Dm : MEnds} {Ds : Ends} (k : LkS K Z S H Dm Ds) (l : Le S H S1 H1) : LkS K Z S1 H1 Dm Ds :=
  ⟨fun Γ C σ S' H' q rp l' g => k.nx Γ C σ S' H' q rp (l.trans l') g, k.rt.go l, fun Γ C σ S' H' q rp l' g => k.bk Γ C σ S' H' q rp (l.trans l') g, fun Γ C σ S' H' q rp l' g => k.ct Γ C σ S' H' q rp (l.trans l') g⟩
theorem LkE.now {Qm : Qe} {Q : VK} (k : LkE K Z S H Qm Q) (a : At K Z S σ H Γ C) {v : V} {r : R} (d : D K S v r) (q : Qm r C) : Q v H := k r C v S H q a.rp (Le.refl _ _) d
end
/-! ### the readings that the trees themselves give -/
section
variable (K : PySem.W.Frag) (Z : Zx)
def tE (m : ME) : TE := fun σ H Q => ∃ S Γ C Qm, At K Z S σ H Γ C ∧ LkE K Z S H Qm Q ∧ m Γ C Qm
def tT (m : MT) : TT := fun σ H Q => ∃ S Γ C Qm, At K Z S σ H Γ C ∧ LkT K Z S H Qm Q ∧ m Γ C Qm
def tS (m : MS) : TS := fun Ds σ H => ∃ S Γ C Dm, At K Z S σ H Γ C ∧ LkS K Z S H Dm Ds ∧ m Dm Γ C
def tG (m : MG) : TG := fun v σ H Q => ∃ S Γ C r Qm, At K Z S σ H Γ C ∧ D K S v r ∧ (∀ Γ' C' σ' S' H', Qm Γ' C' → Rep K S' H' C' → Le S H S' H' → SG K S' σ' Γ' → Q σ' H') ∧ m r Γ C Qm
end
section
variable {X : Cx} {Z : Zx}
theorem JE.can {e : Expr} {m : ME} (h : JE X Z e m) : PE X e (tE X.K Z m) := by
  obtain ⟨t, p, k⟩ := h
  refine ⟨fun pins s σ H Q I q => p.run pins s σ H Q I ?_⟩
  obtain ⟨S, Γ, C, Qm, A, l, q⟩ := q
  exact k S σ H Γ C Qm Q A l q
theorem JT.can {e : Expr} {m : MT} (h : JT X Z e m) : PT X e (tT X.K Z m) := by
  obtain ⟨t, p, k⟩ := h
  refine ⟨fun pins s σ H Q I q => p.run pins s σ H Q I ?_⟩
  obtain ⟨S, Γ, C, Qm, A, l, q⟩ := q
  exact k S σ H Γ C Qm Q A l q
theorem JSs.can {e : List Stmt} {m : MS} (h : JSs X Z e m) : PSs X e (tS X.K Z m) := by
  obtain ⟨t, p, k⟩ := h
  refine ⟨fun pins s σ H Q I q => p.run pins s σ H Q I ?_⟩
  obtain ⟨S, Γ, C, Qm, A, l, q⟩ := q
  exact k S σ H Γ C Qm Q A l q
theorem JG.can {e : Expr} {m : MG} (h : JG X Z e m) : PG X e (tG X.K Z m) := by
  obtain ⟨t, p, k⟩ := h
  refine ⟨fun pins s σ H x v Q I rx q => p.run pins s σ H x v Q I rx ?_⟩
  obtain ⟨S, Γ, C, r, Qm, A, d, l, q⟩ := q
  exact k S σ H Γ C _ _ Qm Q A d l q
end
end NB

set_option Elab.async false
set_option linter.all false
set_option maxRecDepth 100000
set_option maxHeartbeats 1000000
namespace NB
open PySem PySem.Spec L2
section
variable {X : Cx} {Z : Zx} {a b c e : Expr} {es : List Expr} {ma mb mc m : ME} {mt mu : MT} {pos : Pos}

theorem je_var (i : Nat) {x : Str} {pos : Pos} (hN : X.N[i]? = some x := by rfl) (hv : Vis X.env.scope x := by first | exact Or.inl rfl | exact Or.inr (Or.inl rfl) | exact Or.inr (Or.inr rfl)) (hd : (x == ("__debug__" : Str)) = false := by decide)
    (hcd : (x == ("__classdict__" : Str)) = false := by decide) : JE X Z (.Name x pos) (mVar i) := by
  refine ⟨_, pe_var hN hv hd hcd, fun S σ H Γ C Qm Q A k h => ?_⟩
  unfold mVar at h
  split at h
  · rename_i r e
    obtain ⟨v, h1, h2⟩ := A.sg.at_ i r e
    exact ⟨v, h1, k.now A h2 h⟩
  · exact h.elim
theorem je_int {i j pos} : JE X Z (.Constant (.int i) j pos) (mC (.int i)) := ⟨_, pe_int, fun S σ H Γ C Qm Q A k h => k.now A (.int i) h⟩
theorem je_bl {i j pos} : JE X Z (.Constant (.bool i) j pos) (mC (.bl i)) := ⟨_, pe_bl, fun S σ H Γ C Qm Q A k h => k.now A (.bl i) h⟩
theorem je_non {j pos} : JE X Z (.Constant .none j pos) (mC .non) := ⟨_, pe_non, fun S σ H Γ C Qm Q A k h => k.now A .non h⟩
theorem je_str {x j pos} : JE X Z (.Constant (.str x) j pos) (mC (.str x)) := ⟨_, pe_str, fun S σ H Γ C Qm Q A k h => k.now A (.str x) h⟩
/-- a constant of the module -/
theorem je_gC {x : Str} {v : V} {r : R} {u : Value} {pos : Pos} (hd : ∀ S, D X.K S v r) (hm : X.mg x = some u) (rv : RelV v u) (hg : Gl X x := by rfl) (hdb : (x == ("__debug__" : Str)) = false := by decide) : JE X Z (.Name x pos) (mC r) :=
  ⟨_, pe_glob hg hm rv hdb, fun S σ H Γ C Qm Q A k h => k.now A (hd S) h⟩

/-! ### two-place operations -/
def JOp (X : Cx) (Z : Zx) (f : Value → Value → Sem Value) (o : R → R → Cs → Qe → Prop) : Prop := ∃ r, OpR X f r ∧
  ∀ S H C x y rx ry Qm Q, Rep X.K S H C → D X.K S x rx → D X.K S y ry → LkE X.K Z S H Qm Q → o rx ry C Qm → r x y H Q
theorem tr_op {r : R2} {o : R → R → Cs → Qe → Prop} {ta tb : TE} (h : ∀ S H C x y rx ry Qm Q, Rep X.K S H C → D X.K S x rx → D X.K S y ry → LkE X.K Z S H Qm Q → o rx ry C Qm → r x y H Q)
    (ha : TrE X.K Z ta ma) (hb : TrE X.K Z tb mb) : TrE X.K Z (tOp r ta tb) (mOp o ma mb) := by
  intro S σ H Γ C Qm Q A k q
  refine ha S σ H Γ C _ _ A (fun rx C1 x S1 H1 q1 rp1 l1 d1 => ?_) q
  refine hb S1 σ H1 Γ C1 _ _ (A.go l1 rp1) (fun ry C2 y S2 H2 q2 rp2 l2 d2 => ?_) q1
  exact h S2 H2 C2 x y rx ry Qm Q rp2 (d1.mono l2) d2 (k.go (l1.trans l2)) q2
theorem je_op {op : Operator} {o : R → R → Cs → Qe → Prop} (ho : JOp X Z (binaryOp op) o) (ha : JE X Z a ma) (hb : JE X Z b mb) : JE X Z (.BinOp a op b pos) (mOp o ma mb) := by
  obtain ⟨r, h1, h2⟩ := ho
  obtain ⟨ta, pa, ka⟩ := ha
  obtain ⟨tb, pb, kb⟩ := hb
  exact ⟨_, pe_op h1 pa pb, tr_op h2 ka kb⟩
theorem je_cmp {op : CmpOp} {o : R → R → Cs → Qe → Prop} (ho : JOp X Z (compareOp op) o) (ha : JE X Z a ma) (hb : JE X Z b mb) (hm : behindInMarks op b = false := by first | exact nomark _ | rfl | with_unfolding_all rfl) : JE X Z (.Compare a [op] [b] pos) (mOp o ma mb) := by
  obtain ⟨r, h1, h2⟩ := ho
  obtain ⟨ta, pa, ka⟩ := ha
  obtain ⟨tb, pb, kb⟩ := hb
  exact ⟨_, pe_cmpR h1 pa pb hm, tr_op h2 ka kb⟩
theorem tr_test {t : TE} (h : TrE X.K Z t m) : TrT X.K Z (tTest t) (mVal m) := by
  intro S σ H Γ C Qm Q A k q
  refine h S σ H Γ C _ _ A (fun r C1 v S1 H1 q1 rp1 l1 d1 => ?_) q
  cases d1 with
  | bl b => exact ⟨b, rfl, k b C1 S1 H1 q1 rp1 l1⟩
  | _ => exact q1.elim
theorem jt_cmp {op : CmpOp} {o : R → R → Cs → Qe → Prop} (ho : JOp X Z (compareOp op) o) (ha : JE X Z a ma) (hb : JE X Z b mb) (hm : behindInMarks op b = false := by first | exact nomark _ | rfl | with_unfolding_all rfl) : JT X Z (.Compare a [op] [b] pos) (mVal (mOp o ma mb)) := by
  obtain ⟨r, h1, h2⟩ := ho
  obtain ⟨ta, pa, ka⟩ := ha
  obtain ⟨tb, pb, kb⟩ := hb
  exact ⟨_, pt_cmpR h1 pa pb hm, tr_test (tr_op h2 ka kb)⟩
theorem jt_val (h : JE X Z e m) (he : ∀ whole, isTrue e X.env whole = (do let v ← whole; standAt e.pos; holding [v] (truthy v)) := by intro _; rfl) : JT X Z e (mVal m) := by
  obtain ⟨t, p, k⟩ := h
  exact ⟨_, pt_val p he, tr_test k⟩
/-- a op b op' c -/
theorem tr_chain {r r' : R2} {o o' : R → R → Cs → Qe → Prop} {ta tb tc : TE} (h : ∀ S H C x y rx ry Qm Q, Rep X.K S H C → D X.K S x rx → D X.K S y ry → LkE X.K Z S H Qm Q → o rx ry C Qm → r x y H Q)
    (h' : ∀ S H C x y rx ry Qm Q, Rep X.K S H C → D X.K S x rx → D X.K S y ry → LkE X.K Z S H Qm Q → o' rx ry C Qm → r' x y H Q)
    (ha : TrE X.K Z ta ma) (hb : TrE X.K Z tb mb) (hc : TrE X.K Z tc mc) : TrE X.K Z (tChain r r' ta tb tc) (mChain o o' ma mb mc) := by
  intro S σ H Γ C Qm Q A k q
  refine ha S σ H Γ C _ _ A (fun rx C1 x S1 H1 q1 rp1 l1 d1 => ?_) q
  refine hb S1 σ H1 Γ C1 _ _ (A.go l1 rp1) (fun ry C2 y S2 H2 q2 rp2 l2 d2 => ?_) q1
  refine h S2 H2 C2 x y rx ry _ _ rp2 (d1.mono l2) d2 (fun z C3 v S3 H3 q3 rp3 l3 d3 => ?_) q2
  cases d3 with
  | bl b =>
    refine ⟨b, rfl, ?_⟩
    cases b with
    | true =>
      rw [if_pos rfl]
      have q3' := q3
      simp only [ifP] at q3'
      refine hc S3 σ H3 Γ C3 _ _ (A.go (l1.trans (l2.trans l3)) rp3) (fun rw_ C4 w S4 H4 q4 rp4 l4 d4 => ?_) q3'
      exact h' S4 H4 C4 y w ry rw_ Qm Q rp4 (d2.mono (l3.trans l4)) d4 (k.go (l1.trans (l2.trans (l3.trans l4)))) q4
    | false =>
      rw [if_neg Bool.false_ne_true]
      have q3' := q3
      simp only [ifP] at q3'
      exact k _ C3 _ S3 H3 q3' rp3 (l1.trans (l2.trans l3)) (.bl false)
  | _ => exact q3.elim
theorem je_chain {op op' : CmpOp} {o o' : R → R → Cs → Qe → Prop} (ho : JOp X Z (compareOp op) o) (ho' : JOp X Z (compareOp op') o') (ha : JE X Z a ma) (hb : JE X Z b mb) (hc : JE X Z c mc)
    (hm : lastMarks [op, op'] [b, c] = false := by with_unfolding_all rfl) : JE X Z (.Compare a [op, op'] [b, c] pos) (mChain o o' ma mb mc) := by
  obtain ⟨r, h1, h2⟩ := ho
  obtain ⟨r', h1', h2'⟩ := ho'
  obtain ⟨ta, pa, ka⟩ := ha
  obtain ⟨tb, pb, kb⟩ := hb
  obtain ⟨tc, pc, kc⟩ := hc
  exact ⟨_, pe_chain h1 h1' pa pb pc hm, tr_chain h2 h2' ka kb kc⟩
theorem jt_chain {op op' : CmpOp} {o o' : R → R → Cs → Qe → Prop} (ho : JOp X Z (compareOp op) o) (ho' : JOp X Z (compareOp op') o') (ha : JE X Z a ma) (hb : JE X Z b mb) (hc : JE X Z c mc)
    (hm : lastMarks [op, op'] [b, c] = false := by with_unfolding_all rfl) : JT X Z (.Compare a [op, op'] [b, c] pos) (mVal (mChain o o' ma mb mc)) := by
  obtain ⟨r, h1, h2⟩ := ho
  obtain ⟨r', h1', h2'⟩ := ho'
  obtain ⟨ta, pa, ka⟩ := ha
  obtain ⟨tb, pb, kb⟩ := hb
  obtain ⟨tc, pc, kc⟩ := hc
  exact ⟨_, pt_chain h1 h1' pa pb pc hm, tr_test (tr_chain h2 h2' ka kb kc)⟩

/-! ### the operators on ints -/
theorem jo_add : JOp X Z (binaryOp .Add) oAdd := ⟨_, op_add, fun S H C x y rx ry Qm Q rp dx dy k q => by
  cases dx <;> cases dy <;> first | exact q.elim | exact ⟨_, _, rfl, rfl, k _ _ _ _ _ q rp (Le.refl _ _) (.int _)⟩⟩
theorem jo_sub : JOp X Z (binaryOp .Sub) oSub := ⟨_, op_sub, fun S H C x y rx ry Qm Q rp dx dy k q => by
  cases dx <;> cases dy <;> first | exact q.elim | exact ⟨_, _, rfl, rfl, k _ _ _ _ _ q rp (Le.refl _ _) (.int _)⟩⟩
theorem jo_mul : JOp X Z (binaryOp .Mult) oMul := ⟨_, op_mulW, fun S H C x y rx ry Qm Q rp dx dy k q => by
  cases dx <;> cases dy <;> first | exact q.elim | exact ⟨_, _, rfl, rfl, wide_mul (Sz_un q.1.1) (Sz_un q.1.2) (by decide) (by decide) (by decide), k _ _ _ _ _ q.2 rp (Le.refl _ _) (.int _)⟩⟩
theorem jo_div : JOp X Z (binaryOp .FloorDiv) oDiv := ⟨_, op_fdivW, fun S H C x y rx ry Qm Q rp dx dy k q => by
  cases dx <;> cases dy <;> first | exact q.elim | exact ⟨_, _, rfl, rfl, wide_div q.1.1 (Sd_un q.1.2) (by decide) (by decide), k _ _ _ _ _ q.2 rp (Le.refl _ _) (.int _)⟩⟩
theorem jo_mod : JOp X Z (binaryOp .Mod) oMod := ⟨_, op_mod, fun S H C x y rx ry Qm Q rp dx dy k q => by
  cases dx <;> cases dy <;> first | exact q.elim | exact ⟨_, _, rfl, rfl, q.1, k _ _ _ _ _ q.2 rp (Le.refl _ _) (.int _)⟩⟩
theorem jo_pow : JOp X Z (binaryOp .Pow) oPow := ⟨_, op_pow, fun S H C x y rx ry Qm Q rp dx dy k q => by
  cases dx <;> cases dy <;> first | exact q.elim | exact ⟨_, _, rfl, rfl, q.1, k _ _ _ _ _ q.2 rp (Le.refl _ _) (.int _)⟩⟩
theorem jo_shl : JOp X Z (binaryOp .LShift) oShl := ⟨_, op_shl, fun S H C x y rx ry Qm Q rp dx dy k q => by
  cases dx <;> cases dy <;> first | exact q.elim | exact ⟨_, _, rfl, rfl, q.1, k _ _ _ _ _ q.2 rp (Le.refl _ _) (.int _)⟩⟩
theorem jo_shr : JOp X Z (binaryOp .RShift) oShr := ⟨_, op_shr, fun S H C x y rx ry Qm Q rp dx dy k q => by
  cases dx <;> cases dy <;> first | exact q.elim | exact ⟨_, _, rfl, rfl, q.1, k _ _ _ _ _ q.2 rp (Le.refl _ _) (.int _)⟩⟩
theorem jo_lt : JOp X Z (compareOp .Lt) oLt := ⟨_, op_lt, fun S H C x y rx ry Qm Q rp dx dy k q => by
  cases dx <;> cases dy <;> first | exact q.elim | exact ⟨_, _, rfl, rfl, k _ _ _ _ _ q rp (Le.refl _ _) (.bl _)⟩⟩
theorem jo_le : JOp X Z (compareOp .LtE) oLe := ⟨_, op_le, fun S H C x y rx ry Qm Q rp dx dy k q => by
  cases dx <;> cases dy <;> first | exact q.elim | exact ⟨_, _, rfl, rfl, k _ _ _ _ _ q rp (Le.refl _ _) (.bl _)⟩⟩
theorem jo_gt : JOp X Z (compareOp .Gt) oGt := ⟨_, op_gt, fun S H C x y rx ry Qm Q rp dx dy k q => by
  cases dx <;> cases dy <;> first | exact q.elim | exact ⟨_, _, rfl, rfl, k _ _ _ _ _ q rp (Le.refl _ _) (.bl _)⟩⟩
theorem jo_ge : JOp X Z (compareOp .GtE) oGe := ⟨_, op_ge, fun S H C x y rx ry Qm Q rp dx dy k q => by
  cases dx <;> cases dy <;> first | exact q.elim | exact ⟨_, _, rfl, rfl, k _ _ _ _ _ q rp (Le.refl _ _) (.bl _)⟩⟩

/-! ### and, or, not, if .. else -/
theorem jw_and1 (ha : JT X Z a mt) : JW X Z (.BoolOp .And [a] pos) mt := let ⟨t, p, k⟩ := ha; ⟨t, pw_and1 p, k⟩
theorem jw_or1 (ha : JT X Z a mt) : JW X Z (.BoolOp .Or [a] pos) mt := let ⟨t, p, k⟩ := ha; ⟨t, pw_or1 p, k⟩
theorem jw_and {rest : List Expr} (ha : JT X Z a mt) (hb : JW X Z (.BoolOp .And (b :: rest) pos) mu) : JW X Z (.BoolOp .And (a :: b :: rest) pos) (mAndT mt mu) := by
  obtain ⟨t, p, k⟩ := ha
  obtain ⟨u, pu, ku⟩ := hb
  refine ⟨_, pw_and p pu, fun S σ H Γ C Qm Q A l q => ?_⟩
  refine k S σ H Γ C _ _ A (fun b C1 S1 H1 q1 rp1 l1 => ?_) q
  cases b with
  | true => simp only [ifP] at q1 ⊢; exact ku S1 σ H1 Γ C1 _ _ (A.go l1 rp1) (l.go l1) q1
  | false => simp only [ifP] at q1 ⊢; exact l false C1 S1 H1 q1 rp1 l1
theorem jw_or {rest : List Expr} (ha : JT X Z a mt) (hb : JW X Z (.BoolOp .Or (b :: rest) pos) mu) : JW X Z (.BoolOp .Or (a :: b :: rest) pos) (mOrT mt mu) := by
  obtain ⟨t, p, k⟩ := ha
  obtain ⟨u, pu, ku⟩ := hb
  refine ⟨_, pw_or p pu, fun S σ H Γ C Qm Q A l q => ?_⟩
  refine k S σ H Γ C _ _ A (fun b C1 S1 H1 q1 rp1 l1 => ?_) q
  cases b with
  | false => simp only [ifP] at q1 ⊢; exact ku S1 σ H1 Γ C1 _ _ (A.go l1 rp1) (l.go l1) q1
  | true => simp only [ifP] at q1 ⊢; exact l true C1 S1 H1 q1 rp1 l1
theorem JW.jt (h : JW X Z a mt) : JT X Z a mt := let ⟨t, p, k⟩ := h; ⟨t, p.pt, k⟩
theorem jt_not (ha : JT X Z a mt) : JT X Z (.UnaryOp .Not a pos) (mNotT mt) := by
  obtain ⟨t, p, k⟩ := ha
  exact ⟨_, pt_not p, fun S σ H Γ C Qm Q A l q => k S σ H Γ C _ _ A (fun b C1 S1 H1 q1 rp1 l1 => l _ C1 S1 H1 q1 rp1 l1) q⟩
theorem je_one {op} (h : JE X Z a m) : JE X Z (.BoolOp op [a] pos) m := let ⟨t, p, k⟩ := h; ⟨t, pe_one p, k⟩
theorem je_and {rest : List Expr} (ha : JE X Z a ma) (hb : JE X Z (.BoolOp .And (b :: rest) pos) mb) : JE X Z (.BoolOp .And (a :: b :: rest) pos) (mAndE ma mb) := by
  obtain ⟨t, p, k⟩ := ha
  obtain ⟨u, pu, ku⟩ := hb
  refine ⟨_, pe_and p pu, fun S σ H Γ C Qm Q A l q => ?_⟩
  refine k S σ H Γ C _ _ A (fun r C1 v S1 H1 q1 rp1 l1 d1 => ?_) q
  cases d1 with
  | bl b =>
    refine ⟨b, rfl, ?_⟩
    cases b with
    | true => simp only [ifP] at q1 ⊢; exact ku S1 σ H1 Γ C1 _ _ (A.go l1 rp1) (l.go l1) q1
    | false => simp only [ifP] at q1 ⊢; exact l _ C1 _ S1 H1 q1 rp1 l1 (.bl false)
  | _ => exact q1.elim
theorem je_or {rest : List Expr} (ha : JE X Z a ma) (hb : JE X Z (.BoolOp .Or (b :: rest) pos) mb) : JE X Z (.BoolOp .Or (a :: b :: rest) pos) (mOrE ma mb) := by
  obtain ⟨t, p, k⟩ := ha
  obtain ⟨u, pu, ku⟩ := hb
  refine ⟨_, pe_orT p pu, fun S σ H Γ C Qm Q A l q => ?_⟩
  refine k S σ H Γ C _ _ A (fun r C1 v S1 H1 q1 rp1 l1 d1 => ?_) q
  cases d1 with
  | bl b =>
    refine ⟨b, rfl, ?_⟩
    cases b with
    | false => simp only [ifP] at q1 ⊢; exact ku S1 σ H1 Γ C1 _ _ (A.go l1 rp1) (l.go l1) q1
    | true => simp only [ifP] at q1 ⊢; exact l _ C1 _ S1 H1 q1 rp1 l1 (.bl true)
  | int i =>
    have q1 : ifP (i != 0) (Qm (.int i) C1) (mb Γ C1 Qm) := q1
    refine ⟨i != 0, rfl, ?_⟩
    cases e : i != 0 <;> rw [e] at q1
    · simp only [ifP] at q1 ⊢; exact ku S1 σ H1 Γ C1 _ _ (A.go l1 rp1) (l.go l1) q1
    · simp only [ifP] at q1 ⊢; exact l _ C1 _ S1 H1 q1 rp1 l1 (.int i)
  | non =>
    refine ⟨false, rfl, ?_⟩
    exact ku S1 σ H1 Γ C1 _ _ (A.go l1 rp1) (l.go l1) q1
  | _ => exact q1.elim
theorem je_not (ha : JE X Z a ma) : JE X Z (.UnaryOp .Not a pos) (mNotE ma) := by
  obtain ⟨t, p, k⟩ := ha
  refine ⟨_, pe_not p, fun S σ H Γ C Qm Q A l q => k S σ H Γ C _ _ A (fun r C1 v S1 H1 q1 rp1 l1 d1 => ?_) q⟩
  cases d1 with
  | bl b => exact ⟨b, rfl, l _ C1 _ S1 H1 q1 rp1 l1 (.bl _)⟩
  | _ => exact q1.elim
theorem je_if (hc : JT X Z c mt) (ha : JE X Z a ma) (hb : JE X Z b mb) : JE X Z (.IfExp c a b pos) (mIfE mt ma mb) := by
  obtain ⟨tc, pc, kc⟩ := hc
  obtain ⟨t, p, k⟩ := ha
  obtain ⟨u, pu, ku⟩ := hb
  refine ⟨_, pe_ifExp pc p pu, fun S σ H Γ C Qm Q A l q => ?_⟩
  refine kc S σ H Γ C _ _ A (fun b C1 S1 H1 q1 rp1 l1 => ?_) q
  cases b with
  | true => simp only [ifP] at q1 ⊢; exact k S1 σ H1 Γ C1 _ _ (A.go l1 rp1) (l.go l1) q1
  | false => simp only [ifP] at q1 ⊢; exact ku S1 σ H1 Γ C1 _ _ (A.go l1 rp1) (l.go l1) q1
theorem je_neg (ha : JE X Z a ma) : JE X Z (.UnaryOp .USub a pos) (mUn oNeg ma) := by
  obtain ⟨t, p, k⟩ := ha
  refine ⟨_, pe_un un_neg p, fun S σ H Γ C Qm Q A l q => k S σ H Γ C _ _ A (fun r C1 v S1 H1 q1 rp1 l1 d1 => ?_) q⟩
  cases d1 with
  | int i => exact ⟨i, rfl, l _ C1 _ S1 H1 q1 rp1 l1 (.int _)⟩
  | _ => exact q1.elim

/-! ### argument lists, displays -/
theorem ja_nil : JA X Z [] mNil := ⟨_, pa_nil, fun S σ H Γ C Qm Q A l q => l [] C [] S H q A.rp (Le.refl _ _) .nil⟩
theorem ja_cons {am : MA} (ha : JE X Z e m) (hr : JA X Z es am) (hs : starEach (e :: es) X.env = (false, eval e X.env) :: starEach es X.env := by rfl) : JA X Z (e :: es) (mCons m am) := by
  obtain ⟨t, p, k⟩ := ha
  obtain ⟨u, pu, ku⟩ := hr
  refine ⟨_, pa_cons p pu hs, fun S σ H Γ C Qm Q A l q => ?_⟩
  refine k S σ H Γ C _ _ A (fun r C1 v S1 H1 q1 rp1 l1 d1 => ?_) q
  refine ku S1 σ H1 Γ C1 _ _ (A.go l1 rp1) (fun rs C2 vs S2 H2 q2 rp2 l2 d2 => ?_) q1
  exact l _ C2 _ S2 H2 q2 rp2 (l1.trans l2) (.cons (d1.mono l2) d2)
theorem jk_nil : JK X Z [] mNil := ⟨_, pk_nil, fun S σ H Γ C Qm Q A l q => l [] C [] S H q A.rp (Le.refl _ _) .nil⟩
theorem jk_cons {am : MA} {nm : Option Str} {kpos : Pos} {kws : List Keyword} (ha : JE X Z e m) (hr : JK X Z kws am) : JK X Z (⟨nm, e, kpos⟩ :: kws) (mCons m am) := by
  obtain ⟨t, p, k⟩ := ha
  obtain ⟨u, pu, ku⟩ := hr
  refine ⟨_, pk_cons p pu, fun S σ H Γ C Qm Q A l q => ?_⟩
  refine k S σ H Γ C _ _ A (fun r C1 v S1 H1 q1 rp1 l1 d1 => ?_) q
  refine ku S1 σ H1 Γ C1 _ _ (A.go l1 rp1) (fun rs C2 vs S2 H2 q2 rp2 l2 d2 => ?_) q1
  exact l _ C2 _ S2 H2 q2 rp2 (l1.trans l2) (.cons (d1.mono l2) d2)
theorem je_tup {x1} {am : MA} (h : JA X Z es am) : JE X Z (.Tuple es x1 pos) (mTup am) := by
  obtain ⟨t, p, k⟩ := h
  refine ⟨_, pe_tup p, fun S σ H Γ C Qm Q A l q => k S σ H Γ C _ _ A (fun rs C1 vs S1 H1 q1 rp1 l1 d1 => ?_) q⟩
  refine ⟨by rw [d1.length, sizeLine_eq]; exact q1.1, fun p hp => ?_⟩
  obtain ⟨rp2, l2⟩ := rp1.freeze (o := .tup vs) hp
  exact l _ C1 _ _ _ q1.2 rp2 (l1.trans l2) (.tup (by exact upd_same) (d1.mono l2))
/-- a new list has come -/
theorem new_lst {S : Wd} {H : Hp} {C : Cs} {cell : Bool} {Qm : Qe} {Q : VK} {vs : List V} {rs : List R} {p : Addr} (rp : Rep X.K S H C) (k : LkE X.K Z S H Qm Q) (d : DL X.K S vs rs) (hp : H p = none) (q : newL cell rs C Qm) :
    Q (.ref p) (upd H p (.lst vs)) := by
  cases cell with
  | false =>
    obtain ⟨rp2, l2⟩ := rp.freeze (o := .lst vs) hp
    exact k _ C _ _ _ q rp2 l2 (.lst (by exact upd_same) (d.mono l2))
  | true =>
    obtain ⟨rp2, l2⟩ := rp.grow (o := .lst vs) (c := .lst rs) hp fun S' l => ⟨vs, upd_same, d.mono l⟩
    exact k _ _ _ _ _ q rp2 l2 (.cell (by show (S.ps ++ [p])[C.length]? = some p; rw [← rp.len]; simp))
theorem je_lst (cell : Bool) {am : MA} (h : JA X Z es am) : JE X Z (.List es pos) (mLst cell am) := by
  obtain ⟨t, p, k⟩ := h
  refine ⟨_, pe_lst p, fun S σ H Γ C Qm Q A l q => k S σ H Γ C _ _ A (fun rs C1 vs S1 H1 q1 rp1 l1 d1 => ?_) q⟩
  exact ⟨by rw [d1.length, sizeLine_eq]; exact q1.1, fun p hp => new_lst rp1 (l.go l1) d1 hp q1.2⟩
end
end NB

set_option Elab.async false
set_option linter.all false
set_option maxRecDepth 100000
set_option maxHeartbeats 1000000
namespace NB
open PySem PySem.Spec L2

/-! ### what stands behind a tree -/
section
variable {K : PySem.W.Frag} {S : Wd} {H : Hp} {C : Cs} {v : V} {r : R} {xs : List R}
theorem cell_at (rp : Rep K S H C) {k : Nat} {a : Addr} {c : Ct} (h : S.ps[k]? = some a) (hc : C[k]? = some c) : CtOk K S H a c := rp.at_ k a c h hc
theorem lst_of (rp : Rep K S H C) (d : D K S v r) (h : lstOf C r = some xs) : ∃ a vs, v = .ref a ∧ SqL K H a vs ∧ DL K S vs xs := by
  cases d with
  | lst q t =>
    cases (show some _ = some xs from h)
    exact ⟨_, _, rfl, SqL.of (rp.sub _ _ q), t⟩
  | scr q t =>
    cases (show some _ = some xs from h)
    exact ⟨_, _, rfl, sqL_mono rp.sub q, t⟩
  | @cell a k q =>
    unfold lstOf at h
    dsimp only at h
    cases e : C[k]? with
    | none => rw [e] at h; cases h
    | some c =>
      rw [e] at h
      cases c with
      | lst ys =>
        cases (show some _ = some xs from h)
        obtain ⟨vs, z, t⟩ := cell_at rp q e
        exact ⟨_, _, rfl, SqL.of z, t⟩
      | _ => cases h
  | _ => cases h
/-- not the script -/
theorem lst_ofH (rp : Rep K S H C) (d : D K S v r) (h : lstOf C r = some xs) (hn : ∀ ys, r ≠ .scr ys) : ∃ a vs, v = .ref a ∧ H a = some (.lst vs) ∧ DL K S vs xs := by
  cases d with
  | lst q t =>
    cases (show some _ = some xs from h)
    exact ⟨_, _, rfl, rp.sub _ _ q, t⟩
  | scr q t => exact absurd rfl (hn _)
  | @cell a k q =>
    unfold lstOf at h
    dsimp only at h
    cases e : C[k]? with
    | none => rw [e] at h; cases h
    | some c =>
      rw [e] at h
      cases c with
      | lst ys =>
        cases (show some _ = some xs from h)
        obtain ⟨vs, z, t⟩ := cell_at rp q e
        exact ⟨_, _, rfl, z, t⟩
      | _ => cases h
  | _ => cases h
theorem tup_of (rp : Rep K S H C) (d : D K S v (.tup xs)) : ∃ a vs, v = .ref a ∧ SqT K H a vs ∧ DL K S vs xs := by
  cases d with
  | tup q t => exact ⟨_, _, rfl, SqT.of (rp.sub _ _ q), t⟩
theorem seq_of (rp : Rep K S H C) (d : D K S v r) (h : seqOf C r = some xs) : ∃ a vs, v = .ref a ∧ (SqL K H a vs ∨ SqT K H a vs) ∧ DL K S vs xs := by
  cases d with
  | tup q t =>
    cases (show some _ = some xs from h)
    exact ⟨_, _, rfl, .inr (SqT.of (rp.sub _ _ q)), t⟩
  | lst q t => obtain ⟨a, vs, e, z, t⟩ := lst_of rp (.lst q t) h; exact ⟨a, vs, e, .inl z, t⟩
  | scr q t => obtain ⟨a, vs, e, z, t⟩ := lst_of rp (.scr q t) h; exact ⟨a, vs, e, .inl z, t⟩
  | cell q => obtain ⟨a, vs, e, z, t⟩ := lst_of rp (.cell q) h; exact ⟨a, vs, e, .inl z, t⟩
  | _ => cases h
theorem ixM_eq : ixM = ixN := rfl
theorem atM_dl {vs : List V} (t : DL K S vs xs) {i : Int} {x : R} (h : atM xs i = some x) : ∃ y, atI vs i = some y ∧ D K S y x := by
  unfold atM at h
  unfold atI
  rw [← ixM_eq, t.length]
  cases e : ixM xs.length i with
  | none => rw [e] at h; cases h
  | some j =>
    rw [e] at h
    exact t.get (by simpa using h)
theorem cutM_dl {vs : List V} (t : DL K S vs xs) (lo hi : Option Int) : DL K S (cutV vs lo hi) (cutM xs lo hi) := by
  have e : ∀ n d o, HT.sIx n d o = sIxM n d o := fun n d o => by cases o <;> rfl
  unfold cutV cutM
  rw [e, e, t.length]
  exact (t.drop _).take _
theorem dl_ints : ∀ {vs : List V} {xs : List R} {ns : List Int}, DL K S vs xs → intsOf xs = some ns → vs = ns.map V.int
  | _, _, ns, .nil, h => by cases h; rfl
  | _, _, ns, .cons d t, h => by
    cases d with
    | int i =>
      unfold intsOf at h
      obtain ⟨ms, e, z⟩ := Option.map_eq_some_iff.mp h
      subst z
      rw [dl_ints t e]
      rfl
    | _ => cases h
theorem dl_bls : ∀ {vs : List V} {xs : List R} {ns : List Bool}, DL K S vs xs → blsOf xs = some ns → vs = ns.map V.bl
  | _, _, ns, .nil, h => by cases h; rfl
  | _, _, ns, .cons d t, h => by
    cases d with
    | bl i =>
      unfold blsOf at h
      obtain ⟨ms, e, z⟩ := Option.map_eq_some_iff.mp h
      subst z
      rw [dl_bls t e]
      rfl
    | _ => cases h
theorem dl_int : ∀ ns : List Int, DL K S (ns.map V.int) (ns.map R.int)
  | [] => .nil
  | n :: ns => .cons (.int n) (dl_int ns)
end

section
variable {X : Cx} {Z : Zx} {a b c e o : Expr} {es : List Expr} {ma mb mc m : ME} {mt mu : MT} {am ak : MA} {pos : Pos} {id T : String} {f : List R → Cs → Qe → Prop}

/-! ### subscripts, slices -/
theorem je_ix (ha : JE X Z a ma) (hb : JE X Z b mb) (hs : PlainIx b := by exact fun _ _ => rfl) : JE X Z (.Subscript a b pos) (mOp oIx ma mb) := by
  obtain ⟨ta, pa, ka⟩ := ha
  obtain ⟨tb, pb, kb⟩ := hb
  refine ⟨_, pe_ix ix_seq pa pb hs, tr_op (fun S H C x y rx ry Qm Q rp dx dy k q => ?_) ka kb⟩
  cases dy with
  | int i =>
    have main : ∀ {xs : List R}, seqOf C rx = some xs → (optP (atM xs i) fun r => Qm r C) → rIx X.K x (.int i) H Q := fun {xs} hs q => by
      cases e : atM xs i with
      | none => rw [e] at q; exact q.elim
      | some r =>
        rw [e] at q
        obtain ⟨p, vs, rfl, z, t⟩ := seq_of rp dx hs
        obtain ⟨y, h1, h2⟩ := atM_dl t e
        rcases z with z | z
        · exact .inl ⟨p, vs, i, y, rfl, rfl, z, h1, k _ _ _ _ _ q rp (Le.refl _ _) h2⟩
        · exact .inr (.inl ⟨p, vs, i, y, rfl, rfl, z, h1, k _ _ _ _ _ q rp (Le.refl _ _) h2⟩)
    have alt : ∀ {r : R} {xs : List R}, rx = r → seqOf C r = some xs → (optP (atM xs i) fun r => Qm r C) → rIx X.K x (.int i) H Q := fun e h q => main (by rw [e]; exact h) q
    cases dx with
    | str z =>
      unfold oIx at q
      dsimp only at q
      cases e : atM z.cps.toList i with
      | none => rw [e] at q; exact q.elim
      | some c =>
        rw [e] at q
        exact .inr (.inr ⟨z, i, c, rfl, rfl, by rw [sizeLine_eq]; exact q.1, e, k _ _ _ _ _ q.2 rp (Le.refl _ _) (.str _)⟩)
    | tup h t => exact main rfl q
    | lst h t => exact main rfl q
    | scr h t => exact main rfl q
    | @cell a kk h =>
      unfold oIx at q
      dsimp only at q
      cases e : seqOf C (.cell kk) with
      | none => rw [e] at q; exact q.elim
      | some xs => rw [e] at q; exact main e q
    | _ => exact q.elim
  | _ => cases dx <;> exact q.elim
def JO (X : Cx) (Z : Zx) (e : Option Expr) (m : MO) : Prop := ∃ t, PO X e t ∧ ∀ S σ H Γ C Qm Q, At X.K Z S σ H Γ C → (∀ r C' S' H', Qm r C' → Rep X.K S' H' C' → Le S H S' H' → Q r H') → m Γ C Qm → t σ H Q
theorem jo_none : JO X Z none mO0 := ⟨_, po_none, fun S σ H Γ C Qm Q A k q => k _ C S H q A.rp (Le.refl _ _)⟩
theorem jo_some (h : JE X Z e m) : JO X Z (some e) (mO1 m) := by
  obtain ⟨t, p, k⟩ := h
  refine ⟨_, po_some p, fun S σ H Γ C Qm Q A l q => k S σ H Γ C _ _ A (fun r C1 v S1 H1 q1 rp1 l1 d1 => ?_) q⟩
  cases d1 with
  | int i => exact ⟨i, rfl, l _ C1 S1 H1 q1 rp1 l1⟩
  | _ => exact q1.elim
theorem je_slice (cell : Bool) {lo hi : Option Expr} {ml mh : MO} {p2 : Pos} (ha : JE X Z a ma) (hl : JO X Z lo ml) (hh : JO X Z hi mh) : JE X Z (.Subscript a (.Slice lo hi none p2) pos) (mSl cell ma ml mh) := by
  obtain ⟨t, p, k⟩ := ha
  obtain ⟨tl, pl, kl⟩ := hl
  obtain ⟨th, ph, kh⟩ := hh
  refine ⟨_, pe_slice (SlR.or (SlR.or sl_list sl_tupA) sl_str) p pl ph, fun S σ H Γ C Qm Q A l q => ?_⟩
  refine k S σ H Γ C _ _ A (fun r C1 v S1 H1 q1 rp1 l1 d1 => ?_) q
  refine kl S1 σ H1 Γ C1 _ _ (A.go l1 rp1) (fun i C2 S2 H2 q2 rp2 l2 => ?_) q1
  refine kh S2 σ H2 Γ C2 _ _ (A.go (l1.trans l2) rp2) (fun j C3 S3 H3 q3 rp3 l3 => ?_) q2
  have d3 := d1.mono (l2.trans l3)
  have l' := l.go (l1.trans (l2.trans l3))
  have main : ∀ {xs : List R}, lstOf C3 r = some xs → newL cell (cutM xs i j) C3 Qm → (rSlL X.K v i j H3 Q ∨ rSlA X.K v i j H3 Q) ∨ rSlS v i j H3 Q := fun {xs} hs q => by
    obtain ⟨p, vs, rfl, z, t⟩ := lst_of rp3 d3 hs
    exact .inl (.inl ⟨p, vs, rfl, z, fun p hp => new_lst rp3 l' (cutM_dl t i j) hp q⟩)
  have d3' := d3
  cases d3 with
  | @tup _ _ xs h t =>
    obtain ⟨a, vs, e, z, t⟩ := tup_of rp3 (D.tup h t)
    have e' : ∀ n d o, HT.sIx n d o = sIxM n d o := fun n d o => by cases o <;> rfl
    refine .inl (.inr ⟨a, vs, e, z, fun hw => ?_, fun _ p hp => ?_⟩)
    · rw [e', e', t.length] at hw
      have ec : cutM xs i j = xs := by
        unfold cutM
        rw [hw.1, hw.2, List.drop_zero, Nat.sub_zero, List.take_length]
      have q4 : Qm (.tup (cutM xs i j)) C3 := q3
      rw [ec] at q4
      exact e ▸ l' _ C3 _ _ _ q4 rp3 (Le.refl _ _) d3'
    · obtain ⟨rp4, l4⟩ := rp3.freeze (o := .tup (cutV vs i j)) hp
      exact l' _ C3 _ _ _ q3 rp4 l4 (.tup (by exact upd_same) ((cutM_dl t i j).mono l4))
  | str z =>
    have e' : ∀ n d o, HT.sIx n d o = sIxM n d o := fun n d o => by cases o <;> rfl
    refine .inr ⟨z, rfl, q3.1, ?_⟩
    have e : L2.cutS z i j = ⟨(cutM z.cps.toList i j).toArray⟩ := by
      unfold L2.cutS cutM
      rw [e', e', Array.length_toList]
      rfl
    rw [e]
    exact l' _ C3 _ _ _ q3.2 rp3 (Le.refl _ _) (.str _)
  | lst h t => exact main rfl q3
  | scr h t => exact main rfl q3
  | @cell a kk h =>
    unfold mSl at *
    dsimp only at q3
    cases e : lstOf C3 (.cell kk) with
    | none => rw [e] at q3; exact q3.elim
    | some xs => rw [e] at q3; exact main e q3
  | _ => exact q3.elim

/-! ### built-in functions by their argument lists -/
def JF (X : Cx) (Z : Zx) (f : Value) (o : List R → Cs → Qe → Prop) : Prop := ∃ r, CallR X f r ∧
  ∀ S H C xs rs Qm Q, Rep X.K S H C → DL X.K S xs rs → LkE X.K Z S H Qm Q → o rs C Qm → r xs H Q
theorem tr_fn {r : List V → Hp → VK → Prop} {t : TA} (h : ∀ S H C xs rs Qm Q, Rep X.K S H C → DL X.K S xs rs → LkE X.K Z S H Qm Q → f rs C Qm → r xs H Q) (ha : TrA X.K Z t am) : TrE X.K Z (tCB r t) (mFn f am) := by
  intro S σ H Γ C Qm Q A k q
  exact ha S σ H Γ C _ _ A (fun rs C1 vs S1 H1 q1 rp1 l1 d1 => h S1 H1 C1 vs rs Qm Q rp1 d1 (k.go l1) q1) q
theorem je_bltn {x : Str} {p : Pos} (hf : JF X Z (.builtin id) f) (hm : X.mg x = none) (ha : JA X Z (e :: es) am) (hg : Gl X x := by rfl) (hv : bootBuiltins x = some (.builtin id) := by decide +kernel) (hn : x ≠ "__name__" := by decide) (hdb : (x == ("__debug__" : Str)) = false := by decide)
    (he : starEach (e :: es) X.env = (false, eval e X.env) :: starEach es X.env := by rfl) (hpl : (backTo pos (starEach es X.env)).any (·.1) = false := by rfl) : JE X Z (.Call (.Name x p) (e :: es) [] pos) (mFn f am) := by
  obtain ⟨r, h1, h2⟩ := hf
  obtain ⟨t, pa, ka⟩ := ha
  exact ⟨_, pe_callB h1 hg hm hv pa hn hdb he hpl, tr_fn h2 ka⟩
theorem je_type {x : Str} {p : Pos} (hf : JF X Z (.type T) f) (hm : X.mg x = none) (ha : JA X Z (e :: es) am) (hg : Gl X x := by rfl) (hv : bootBuiltins x = some (.type T) := by decide +kernel) (hn : x ≠ "__name__" := by decide) (hdb : (x == ("__debug__" : Str)) = false := by decide)
    (he : starEach (e :: es) X.env = (false, eval e X.env) :: starEach es X.env := by rfl) (hpl : (backTo pos (starEach es X.env)).any (·.1) = false := by rfl) : JE X Z (.Call (.Name x p) (e :: es) [] pos) (mFn f am) := by
  obtain ⟨r, h1, h2⟩ := hf
  obtain ⟨t, pa, ka⟩ := ha
  exact ⟨_, pe_callTy h1 hg hm hv pa hn hdb he hpl, tr_fn h2 ka⟩
theorem CallR.or' {g : Value} {r r' : List V → Hp → VK → Prop} (h : CallR X g r) (h' : CallR X g r') : CallR X g (fun xs H Q => r xs H Q ∨ r' xs H Q) := by
  intro pins s σ H xs us Q I rv q
  rcases q with q | q
  · exact h pins s σ H xs us Q I rv q
  · exact h' pins s σ H xs us Q I rv q
theorem jf_abs : JF X Z (.builtin "abs") fAbs := ⟨_, call_abs, fun S H C xs rs Qm Q rp d k q => by
  unfold fAbs at q
  split at q
  · cases d with
    | cons d t => cases t; cases d; exact ⟨_, rfl, k _ _ _ _ _ q rp (Le.refl _ _) (.int _)⟩
  · exact q.elim⟩
theorem jf_max2 (hc : X.calm = true) : JF X Z (.builtin "max") fMax2 := ⟨_, call_max2 hc, fun S H C xs rs Qm Q rp d k q => by
  unfold fMax2 at q
  split at q
  · cases d with
    | cons d t => cases t with
      | cons d2 t => cases t; cases d; cases d2; exact ⟨_, _, rfl, k _ _ _ _ _ q rp (Le.refl _ _) (.int _)⟩
  · exact q.elim⟩
theorem jf_min2 (hc : X.calm = true) : JF X Z (.builtin "min") fMin2 := ⟨_, call_min2 hc, fun S H C xs rs Qm Q rp d k q => by
  unfold fMin2 at q
  split at q
  · cases d with
    | cons d t => cases t with
      | cons d2 t => cases t; cases d; cases d2; exact ⟨_, _, rfl, k _ _ _ _ _ q rp (Le.refl _ _) (.int _)⟩
  · exact q.elim⟩
theorem jf_int : JF X Z (.type "int") fInt := ⟨_, call_int1, fun S H C xs rs Qm Q rp d k q => by
  unfold fInt at q
  split at q
  · cases d with
    | cons d t => cases t; cases d; exact .inl ⟨_, rfl, k _ _ _ _ _ q rp (Le.refl _ _) (.int _)⟩
  · cases d with
    | cons d t => cases t; cases d; exact .inr ⟨_, rfl, k _ _ _ _ _ q rp (Le.refl _ _) (.int _)⟩
  · exact q.elim⟩
theorem jf_len : JF X Z (.builtin "len") fLen := ⟨_, CallR.or' call_len_str (CallR.or' call_len_seq (CallR.or' call_lenD call_len_dT)), fun S H C xs rs Qm Q rp d k q => by
  unfold fLen at q
  split at q
  · cases d with
    | cons d t => cases t; cases d; exact .inl ⟨_, rfl, by rw [sizeLine_eq]; exact q.1, k _ _ _ _ _ q.2 rp (Le.refl _ _) (.int _)⟩
  · rename_i kk
    cases d with
    | cons d t =>
      cases t
      cases d with
      | @cell a _ hp =>
        cases e : C[kk]? with
        | none => rw [e] at q; exact q.elim
        | some c =>
          rw [e] at q
          cases c with
          | lst ys =>
            obtain ⟨vs, z, t⟩ := cell_at rp hp e
            exact .inr (.inl ⟨a, vs, rfl, .inl (SqL.of z), by rw [t.length]; exact k _ _ _ _ _ q rp (Le.refl _ _) (.int _)⟩)
          | dct ys =>
            obtain ⟨kv, z, ek, t⟩ := cell_at rp hp e
            have el : kv.length = ys.length := by have := congrArg List.length ek; simpa using this
            exact .inr (.inr (.inl ⟨a, kv, rfl, z, by rw [el]; exact k _ _ _ _ _ q rp (Le.refl _ _) (.int _)⟩))
          | dtt ys =>
            obtain ⟨kv, z, ek, t⟩ := cell_at rp hp e
            have el : kv.length = ys.length := by have := congrArg List.length ek; simpa using this
            exact .inr (.inr (.inr ⟨a, kv, rfl, z, by rw [el]; exact k _ _ _ _ _ q rp (Le.refl _ _) (.int _)⟩))
          | _ => exact q.elim
  · rename_i x _ _
    cases d with
    | cons d t =>
      cases t
      cases e : seqOf C x with
      | none => rw [e] at q; exact q.elim
      | some ys =>
        rw [e] at q
        obtain ⟨p, vs, rfl, z, t⟩ := seq_of rp d e
        exact .inr (.inl ⟨p, vs, rfl, z, by rw [t.length]; exact k _ _ _ _ _ q rp (Le.refl _ _) (.int _)⟩)
  · exact q.elim⟩
theorem jf_maxL (hc : X.calm = true) : JF X Z (.builtin "max") fMaxL := ⟨_, cr_max hc, fun S H C xs rs Qm Q rp d k q => by
  unfold fMaxL at q
  split at q
  · rename_i x
    cases d with
    | cons d t =>
      cases t
      cases e : lstOf C x with
      | none => rw [e] at q; exact q.elim
      | some ys =>
        rw [e] at q
        obtain ⟨p, vs, rfl, z, t⟩ := lst_of rp d e
        cases e2 : intsOf ys with
        | none => rw [Option.bind_some, e2] at q; exact q.elim
        | some ns =>
          rw [Option.bind_some, e2] at q
          exact ⟨p, ns, rfl, by rw [← dl_ints t e2]; exact z, q.1, fun m hm hy => k _ _ _ _ _ (q.2 m hm hy) rp (Le.refl _ _) (.int _)⟩
  · exact q.elim⟩
theorem jf_minL (hc : X.calm = true) : JF X Z (.builtin "min") fMinL := ⟨_, cr_min hc, fun S H C xs rs Qm Q rp d k q => by
  unfold fMinL at q
  split at q
  · rename_i x
    cases d with
    | cons d t =>
      cases t
      cases e : lstOf C x with
      | none => rw [e] at q; exact q.elim
      | some ys =>
        rw [e] at q
        obtain ⟨p, vs, rfl, z, t⟩ := lst_of rp d e
        cases e2 : intsOf ys with
        | none => rw [Option.bind_some, e2] at q; exact q.elim
        | some ns =>
          rw [Option.bind_some, e2] at q
          exact ⟨p, ns, rfl, by rw [← dl_ints t e2]; exact z, q.1, fun m hm hy => k _ _ _ _ _ (q.2 m hm hy) rp (Le.refl _ _) (.int _)⟩
  · exact q.elim⟩
theorem jf_list (cell : Bool) : JF X Z (.type "list") (fList cell) := ⟨_, call_list_of, fun S H C xs rs Qm Q rp d k q => by
  unfold fList at q
  split at q
  · rename_i x
    cases d with
    | cons d t =>
      cases t
      cases e : seqOf C x with
      | none => rw [e] at q; exact q.elim
      | some ys =>
        rw [e] at q
        obtain ⟨p, vs, rfl, z, t⟩ := seq_of rp d e
        exact ⟨p, vs, rfl, z, fun l hl => new_lst rp k t hl q⟩
  · exact q.elim⟩
theorem jf_tuple : JF X Z (.type "tuple") fTuple := ⟨_, call_tuple_of, fun S H C xs rs Qm Q rp d k q => by
  unfold fTuple at q
  split at q
  · cases d with
    | cons d t =>
      cases t
      obtain ⟨p, vs, rfl, z, t⟩ := tup_of rp d
      exact ⟨p, vs, rfl, .inr ⟨z, k _ _ _ _ _ q rp (Le.refl _ _) d⟩⟩
  · rename_i x _
    cases d with
    | cons d t =>
      cases t
      cases e : lstOf C x with
      | none => rw [e] at q; exact q.elim
      | some ys =>
        rw [e] at q
        obtain ⟨p, vs, rfl, z, t⟩ := lst_of rp d e
        refine ⟨p, vs, rfl, .inl ⟨z, fun l hl => ?_⟩⟩
        obtain ⟨rp2, l2⟩ := rp.freeze (o := .tup vs) hl
        exact k _ C _ _ _ q rp2 l2 (.tup (by exact upd_same) (t.mono l2))
  · exact q.elim⟩
theorem jf_sum (hc : X.calm = true) : JF X Z (.builtin "sum") fSum := ⟨_, cr_sum hc, fun S H C xs rs Qm Q rp d k q => by
  unfold fSum at q
  split at q
  · rename_i x
    cases d with
    | cons d t =>
      cases t
      cases e : lstOf C x with
      | none => rw [e] at q; exact q.elim
      | some ys =>
        rw [e] at q
        obtain ⟨p, vs, rfl, z, t⟩ := lst_of rp d e
        cases e2 : intsOf ys with
        | none => rw [Option.bind_some, e2] at q; exact q.elim
        | some ns =>
          rw [Option.bind_some, e2] at q
          exact ⟨p, ns, rfl, by rw [← dl_ints t e2]; exact z, k _ _ _ _ _ q rp (Le.refl _ _) (.int _)⟩
  · exact q.elim⟩
theorem jf_all (hc : X.calm = true) : JF X Z (.builtin "all") fAll := ⟨_, cr_all hc, fun S H C xs rs Qm Q rp d k q => by
  unfold fAll at q
  split at q
  · rename_i x
    cases d with
    | cons d t =>
      cases t
      cases e : lstOf C x with
      | none => rw [e] at q; exact q.elim
      | some ys =>
        rw [e] at q
        obtain ⟨p, vs, rfl, z, t⟩ := lst_of rp d e
        cases e2 : blsOf ys with
        | none => rw [Option.bind_some, e2] at q; exact q.elim
        | some ns =>
          rw [Option.bind_some, e2] at q
          exact ⟨p, ns, rfl, by rw [← dl_bls t e2]; exact z, k _ _ _ _ _ q rp (Le.refl _ _) (.bl _)⟩
  · exact q.elim⟩
theorem jf_any (hc : X.calm = true) : JF X Z (.builtin "any") fAny := ⟨_, cr_any hc, fun S H C xs rs Qm Q rp d k q => by
  unfold fAny at q
  split at q
  · rename_i x
    cases d with
    | cons d t =>
      cases t
      cases e : lstOf C x with
      | none => rw [e] at q; exact q.elim
      | some ys =>
        rw [e] at q
        obtain ⟨p, vs, rfl, z, t⟩ := lst_of rp d e
        cases e2 : blsOf ys with
        | none => rw [Option.bind_some, e2] at q; exact q.elim
        | some ns =>
          rw [Option.bind_some, e2] at q
          exact ⟨p, ns, rfl, by rw [← dl_bls t e2]; exact z, k _ _ _ _ _ q rp (Le.refl _ _) (.bl _)⟩
  · exact q.elim⟩
theorem jo_cat (cell : Bool) : JOp X Z (binaryOp .Add) (oCat cell) := ⟨_, op_cat, fun S H C x y rx ry Qm Q rp dx dy k q => by
  unfold oCat at q
  split at q
  · exact q.elim
  · exact q.elim
  · rename_i n1 n2
    obtain ⟨xs, e1, q⟩ := optP_ex q
    obtain ⟨ys, e2, q⟩ := optP_ex q
    obtain ⟨a, vs, rfl, h1, t1⟩ := lst_ofH rp dx e1 n1
    obtain ⟨b, us, rfl, h2, t2⟩ := lst_ofH rp dy e2 n2
    exact ⟨a, b, vs, us, rfl, rfl, h1, h2, by rw [t1.length, t2.length, sizeLine_eq]; exact q.1, fun p hp => new_lst rp k (t1.append t2) hp q.2⟩⟩
theorem JOp.or {g : Value → Value → Sem Value} {o1 o2 : R → R → Cs → Qe → Prop} (h1 : JOp X Z g o1) (h2 : JOp X Z g o2) : JOp X Z g (fun x y C Q => o1 x y C Q ∨ o2 x y C Q) := by
  obtain ⟨r1, a1, b1⟩ := h1
  obtain ⟨r2, a2, b2⟩ := h2
  refine ⟨fun x y H Q => r1 x y H Q ∨ r2 x y H Q, fun pins s σ H x y v u Q I rx ry q => ?_, fun S H C x y rx ry Qm Q rp dx dy k q => ?_⟩
  · rcases q with q | q
    · exact a1 pins s σ H x y v u Q I rx ry q
    · exact a2 pins s σ H x y v u Q I rx ry q
  · rcases q with q | q
    · exact .inl (b1 S H C x y rx ry Qm Q rp dx dy k q)
    · exact .inr (b2 S H C x y rx ry Qm Q rp dx dy k q)
theorem jo_isN : JOp X Z (compareOp .Is) oIsN := ⟨_, op_isN, fun S H C x y rx ry Qm Q rp dx dy k q => by
  cases dy <;> first | exact q.elim | (refine ⟨rfl, ?_⟩; have q := k _ _ _ _ _ q rp (Le.refl _ _) (.bl _); cases dx <;> simpa using q)⟩
theorem jo_isNotN : JOp X Z (compareOp .IsNot) oIsNotN := ⟨_, op_notN, fun S H C x y rx ry Qm Q rp dx dy k q => by
  cases dy <;> first | exact q.elim | (refine ⟨rfl, ?_⟩; have q := k _ _ _ _ _ q rp (Le.refl _ _) (.bl _); cases dx <;> simpa using q)⟩
end
end NB

set_option Elab.async false
set_option linter.all false
set_option maxRecDepth 100000
set_option maxHeartbeats 1000000
namespace NB
open PySem PySem.Spec L2
section
variable {X : Cx} {Z : Zx} {a b c e o i tg iter : Expr} {es : List Expr} {st : Stmt} {rest sts sts' : List Stmt} {ma mb mc m mo mi : ME} {mt mu : MT} {am : MA} {ms mr : MS} {mg : MG} {mgs : MGs} {it : MI} {pos : Pos}

/-! ### statements -/
theorem jss_nil : JSs X Z [] mNext := ⟨_, pss_nil, fun S σ H Γ C Dm Ds A l q => l.nx Γ C σ S H q A.rp (Le.refl _ _) A.sg⟩
theorem jss_cons (h1 : JS X Z st ms) (h2 : JSs X Z rest mr) : JSs X Z (st :: rest) (mSeq ms mr) := by
  obtain ⟨t, p, k⟩ := h1
  obtain ⟨u, pu, ku⟩ := h2
  refine ⟨_, pss_cons p pu, fun S σ H Γ C Dm Ds A l q => k S σ H Γ C { Dm with nx := mr Dm } _ A ⟨fun Γ1 C1 σ1 S1 H1 q1 rp1 l1 g1 => ?_, l.rt, l.bk, l.ct⟩ q⟩
  exact ku S1 σ1 H1 Γ1 C1 _ _ (A.to l1 rp1 g1) (l.go l1) q1
theorem jss_one (h1 : JS X Z st ms) : JSs X Z [st] ms := let ⟨t, p, k⟩ := h1; ⟨t, pss_one p, k⟩
theorem js_expr (he : JE X Z e m) (hs : swapsWith e none pos.line X.env = pure false := by rfl) : JS X Z (.Expr e pos) (mDrop m) := by
  obtain ⟨t, p, k⟩ := he
  exact ⟨_, ps_expr p hs, fun S σ H Γ C Dm Ds A l q => k S σ H Γ C _ _ A (fun r C1 v S1 H1 q1 rp1 l1 d1 => l.nx Γ C1 σ S1 H1 q1 rp1 l1 (A.sg.mono l1)) q⟩
theorem js_ret (he : JE X Z e m) : JS X Z (.Return (some e) pos) (mRet m) := by
  obtain ⟨t, p, k⟩ := he
  exact ⟨_, ps_ret p, fun S σ H Γ C Dm Ds A l q => k S σ H Γ C _ _ A l.rt q⟩
theorem js_retN : JS X Z (.Return none pos) mRetN := ⟨_, ps_retN, fun S σ H Γ C Dm Ds A l q => l.rt.now A .non q⟩
theorem js_pass : JS X Z (.Pass pos) mNext := ⟨_, ps_pass, fun S σ H Γ C Dm Ds A l q => l.nx Γ C σ S H q A.rp (Le.refl _ _) A.sg⟩
theorem js_break : JS X Z (.Break pos) mBreak := ⟨_, ps_break, fun S σ H Γ C Dm Ds A l q => l.bk Γ C σ S H q A.rp (Le.refl _ _) A.sg⟩
theorem js_cont : JS X Z (.Continue pos) mCont := ⟨_, ps_continue, fun S σ H Γ C Dm Ds A l q => l.ct Γ C σ S H q A.rp (Le.refl _ _) A.sg⟩
theorem js_if (hc : JT X Z c mt) (ha : JSs X Z sts ms) (hb : JSs X Z sts' mr) : JS X Z (.If c sts sts' pos) (mIfS mt ms mr) := by
  obtain ⟨tc, pc, kc⟩ := hc
  obtain ⟨t, p, k⟩ := ha
  obtain ⟨u, pu, ku⟩ := hb
  refine ⟨_, ps_if pc p pu, fun S σ H Γ C Dm Ds A l q => kc S σ H Γ C _ _ A (fun b C1 S1 H1 q1 rp1 l1 => ?_) q⟩
  cases b with
  | true => simp only [ifP] at q1 ⊢; exact k S1 σ H1 Γ C1 _ _ (A.go l1 rp1) (l.go l1) q1
  | false => simp only [ifP] at q1 ⊢; exact ku S1 σ H1 Γ C1 _ _ (A.go l1 rp1) (l.go l1) q1

/-! ### targets -/
theorem jg_name (n : Nat) {x : Str} (hN : X.N.Nodup) (hi : X.N[n]? = some x := by rfl) (hx : Loc X.env.scope x := by first | exact Or.inl rfl | exact Or.inr rfl) (hf : X.fn x = true ∨ X.env.scope.names.lookup x = some .local := by first | exact .inl rfl | exact .inr rfl) :
    JG X Z (.Name x pos) (gNm n) := ⟨_, pg_name hN hi hx hf, fun S σ H Γ C v r Qm Q A d l q => l _ C _ S H q A.rp (Le.refl _ _) (A.sg.set n d)⟩
theorem jgs_nil : JGs X Z [] gNl := ⟨_, pgs_nil, fun S σ H Γ C v r Qm Q A d l q => by
  cases d with
  | nil => exact ⟨rfl, l _ C _ S H q A.rp (Le.refl _ _) A.sg⟩
  | cons _ _ => exact q.elim⟩
theorem jgs_cons (h1 : JG X Z e mg) (h2 : JGs X Z es mgs) (he : (assignEach (e :: es) X.env).map (·.2) = assign e X.env :: (assignEach es X.env).map (·.2) := by rfl) : JGs X Z (e :: es) (gCn mg mgs) := by
  obtain ⟨t, p, k⟩ := h1
  obtain ⟨u, pu, ku⟩ := h2
  refine ⟨_, pgs_cons p pu he, fun S σ H Γ C v r Qm Q A d l q => ?_⟩
  cases d with
  | nil => exact q.elim
  | cons d t =>
    refine ⟨_, _, rfl, k S σ H Γ C _ _ _ _ A d (fun Γ1 C1 σ1 S1 H1 q1 rp1 l1 g1 => ?_) q⟩
    exact ku S1 σ1 H1 Γ1 C1 _ _ _ _ (A.to l1 rp1 g1) (t.mono l1) (fun Γ2 C2 σ2 S2 H2 q2 rp2 l2 g2 => l Γ2 C2 σ2 S2 H2 q2 rp2 (l1.trans l2) g2) q1
/-- (a, b) = a tuple: n the number of targets -/
theorem jg_tup {k n : Nat} (hc : X.calm = true) (h : JGs X Z es mgs) (hn : (assignEach es X.env).length = n := by rfl) (hst : (assignEach es X.env).findIdx? (·.1) = none := by rfl) :
    JG X Z (.Tuple es k pos) (gTp fun xs Γ C Q => xs.length = n ∧ mgs xs Γ C Q) := by
  obtain ⟨t, p, kk⟩ := h
  refine ⟨_, pg_tup (n := n) hc p hn hst, fun S σ H Γ C v r Qm Q A d l q => ?_⟩
  cases d with
  | @tup a vs rs hh t =>
    obtain ⟨a, vs, e, z, t⟩ := tup_of A.rp (D.tup hh t)
    exact ⟨a, vs, e, z, by rw [t.length]; exact q.1, kk S σ H Γ C vs rs Qm Q A t l q.2⟩
  | _ => exact q.elim
theorem jg_lst {k n : Nat} (hc : X.calm = true) (h : JGs X Z es mgs) (hn : (assignEach es X.env).length = n := by rfl) (hst : (assignEach es X.env).findIdx? (·.1) = none := by rfl) :
    JG X Z (.Tuple es k pos) (gLs fun xs Γ C Q => xs.length = n ∧ mgs xs Γ C Q) := by
  obtain ⟨t, p, kk⟩ := h
  refine ⟨_, pg_lst (n := n) hc p hn hst, fun S σ H Γ C v r Qm Q A d l q => ?_⟩
  unfold gLs at q
  obtain ⟨xs, e, q⟩ := optP_ex q
  obtain ⟨a, vs, e, z, t⟩ := lst_of A.rp d e
  exact ⟨a, vs, e, z, by rw [t.length]; exact q.1, kk S σ H Γ C vs xs Qm Q A t l q.2⟩
theorem js_asg (he : JE X Z e m) (hg : JG X Z tg mg) (hs : swapsWithSole [tg] e pos.line X.env = pure false := by rfl) (hw : swappedStores [tg] e X.env = pure none := by rfl) (h3 : (assignEach [tg] X.env).map (·.2) = [assign tg X.env] := by rfl) : JS X Z (.Assign [tg] e pos) (mAsg m mg) := by
  obtain ⟨t, p, k⟩ := he
  obtain ⟨u, pu, ku⟩ := hg
  refine ⟨_, ps_asg p pu hs hw h3, fun S σ H Γ C Dm Ds A l q => k S σ H Γ C _ _ A (fun r C1 v S1 H1 q1 rp1 l1 d1 => ?_) q⟩
  exact ku S1 σ H1 Γ C1 v r _ _ (A.go l1 rp1) d1 (fun Γ2 C2 σ2 S2 H2 q2 rp2 l2 g2 => l.nx Γ2 C2 σ2 S2 H2 q2 rp2 (l1.trans l2) g2) q1
theorem js_par (n k : Nat) {x y : Str} {px py pt pt2 : Pos} {kt k2 : Nat} (hc : X.calm = true) (hN : X.N.Nodup) (ha : JA X Z [a, b] am) (hi : X.N[n]? = some x := by rfl) (hj : X.N[k]? = some y := by rfl) (hij : n ≠ k := by decide)
    (hx : X.env.scope.names.lookup x = some .local := by rfl) (hy : X.env.scope.names.lookup y = some .local := by rfl)
    (hsw : swappedStores [.Tuple [.Name x px, .Name y py] kt pt] (.Tuple [a, b] k2 pt2) X.env = pure (some [x, y]) := by rfl) :
    JS X Z (.Assign [.Tuple [.Name x px, .Name y py] kt pt] (.Tuple [a, b] k2 pt2) pos) (mPar n k am) := by
  obtain ⟨t, p, kk⟩ := ha
  refine ⟨_, ps_par hc hN hi hj hij hx hy p hsw, fun S σ H Γ C Dm Ds A l q => kk S σ H Γ C _ _ A (fun r C1 v S1 H1 q1 rp1 l1 d1 => ?_) q⟩
  cases d1 with
  | nil => exact q1.elim
  | cons d1 t1 => cases t1 with
    | nil => exact q1.elim
    | cons d2 t2 => cases t2 with
      | nil => exact ⟨_, _, rfl, l.nx _ C1 _ S1 H1 q1 rp1 l1 (((A.sg.mono l1).set n d1).set k d2)⟩
      | cons _ _ => exact q1.elim
def JIp (X : Cx) (Z : Zx) (op : Operator) (o : R → R → Cs → Qe → Prop) : Prop := ∃ r, PIp X op r ∧
  ∀ S H C x y rx ry Qm Q, Rep X.K S H C → D X.K S x rx → D X.K S y ry → LkE X.K Z S H Qm Q → o rx ry C Qm → r x y H Q
theorem ji_add : JIp X Z .Add oAdd := ⟨_, ip_add, fun S H C x y rx ry Qm Q rp dx dy k q => by
  cases dx <;> cases dy <;> first | exact q.elim | exact ⟨_, _, rfl, rfl, k _ _ _ _ _ q rp (Le.refl _ _) (.int _)⟩⟩
theorem ji_sub : JIp X Z .Sub oSub := ⟨_, ip_sub, fun S H C x y rx ry Qm Q rp dx dy k q => by
  cases dx <;> cases dy <;> first | exact q.elim | exact ⟨_, _, rfl, rfl, k _ _ _ _ _ q rp (Le.refl _ _) (.int _)⟩⟩
theorem js_aug (n : Nat) {x : Str} {op : Operator} {oo : R → R → Cs → Qe → Prop} {pos' : Pos} (hN : X.N.Nodup) (he : JE X Z e m) (ho : JIp X Z op oo) (hi : X.N[n]? = some x := by rfl) (hx : Loc X.env.scope x := by first | exact Or.inl rfl | exact Or.inr rfl)
    (hf : X.fn x = true ∨ X.env.scope.names.lookup x = some .local := by first | exact .inl rfl | exact .inr rfl) : JS X Z (.AugAssign (.Name x pos') op e pos) (mAug n oo m) := by
  obtain ⟨t, p, k⟩ := he
  obtain ⟨r, h1, h2⟩ := ho
  refine ⟨_, ps_aug hN hi hx p h1 hf, fun S σ H Γ C Dm Ds A l q => ?_⟩
  unfold mAug at q
  split at q
  · rename_i rx ex
    obtain ⟨v, hv, dv⟩ := A.sg.at_ n rx ex
    refine ⟨v, hv, k S σ H Γ C _ _ A (fun ry C1 y S1 H1 q1 rp1 l1 d1 => ?_) q⟩
    refine h2 S1 H1 C1 v y rx ry _ _ rp1 (dv.mono l1) d1 (fun rz C2 z S2 H2 q2 rp2 l2 d2 => ?_) q1
    exact l.nx _ C2 _ S2 H2 q2 rp2 (l1.trans l2) ((A.sg.mono (l1.trans l2)).set n d2)
  · exact q.elim

/-! ### while -/
theorem js_while (hp : PassesOwn (model X.prog X.w) X.A X.env X.xe) (hc : JT X Z c mt) (hb : JSs X Z sts ms) : JS X Z (.While c sts [] pos) (mWhile mt ms) := by
  obtain ⟨tc, pc, kc⟩ := hc
  obtain ⟨t, p, k⟩ := hb
  refine ⟨_, ps_while hp pc p, fun S σ H Γ C Dm Ds A l q => ?_⟩
  obtain ⟨n, q⟩ := q
  refine ⟨fun m σ' H' => ∃ S' Γ' C', At X.K Z S' σ' H' Γ' C' ∧ Le S H S' H' ∧ whileN mt ms Dm m Γ' C', ⟨n, S, Γ, C, A, Le.refl _ _, q⟩, ?_⟩
  rintro m σ1 H1 ⟨S1, Γ1, C1, A1, l1, w⟩
  cases m with
  | zero => exact w.elim
  | succ m =>
    refine kc S1 σ1 H1 Γ1 C1 _ _ A1 (fun b C2 S2 H2 q2 rp2 l2 => ?_) w
    cases b with
    | true =>
      simp only [ifP] at q2 ⊢
      refine ⟨fun σ' H' => ∃ S' Γ' C', At X.K Z S' σ' H' Γ' C' ∧ Le S H S' H' ∧ whileN mt ms Dm m Γ' C', fun σ' H' h => ⟨m, Nat.lt_succ_self m, h⟩, ?_⟩
      have l12 := l1.trans l2
      refine k S2 σ1 H2 Γ1 C2 { Dm with nx := whileN mt ms Dm m, ct := whileN mt ms Dm m, bk := Dm.nx } _ (A1.go l2 rp2) ⟨fun Γ3 C3 σ3 S3 H3 q3 rp3 l3 g3 => ?_, (l.go l12).rt, (l.go l12).nx, fun Γ3 C3 σ3 S3 H3 q3 rp3 l3 g3 => ?_⟩ q2
      · exact ⟨S3, Γ3, C3, A1.to (l2.trans l3) rp3 g3, l12.trans l3, q3⟩
      · exact ⟨S3, Γ3, C3, A1.to (l2.trans l3) rp3 g3, l12.trans l3, q3⟩
    | false =>
      simp only [ifP] at q2 ⊢
      exact (l.go (l1.trans l2)).nx Γ1 C2 σ1 S2 H2 q2 rp2 (Le.refl _ _) (A1.sg.mono l2)

/-! ### what is walked -/
/-- what was frozen is frozen, the cells stand: less than Le -/
structure Lw (S S' : Wd) : Prop where
  g : ∀ b o, S.G b = some o → S'.G b = some o
  ps : ∀ (k : Nat) p, S.ps[k]? = some p → S'.ps[k]? = some p
theorem Le.w {S S' : Wd} {H H' : Hp} (l : Le S H S' H') : Lw S S' := ⟨l.g, l.ps⟩
theorem D.monoW {K : PySem.W.Frag} {S S' : Wd} (l : Lw S S') {v : V} {r : R} (d : D K S v r) : D K S' v r := D.mono' l.g l.ps d
theorem DL.monoW {K : PySem.W.Frag} {S S' : Wd} (l : Lw S S') {v : List V} {r : List R} (d : DL K S v r) : DL K S' v r := DL.mono' l.g l.ps d
/-- J yields the items xs from here on -/
structure Yl (K : PySem.W.Frag) (S : Wd) (H : Hp) (J : It) (xs : List R) : Prop where
  go : ∀ (i : Nat) S' H' C, Rep K S' H' C → Lw S S' → i < xs.length → J.go i H'
  yl : ∀ (i : Nat) S' H' C x H2, Rep K S' H' C → Lw S S' → i < xs.length → J.yld i H' x H2 → ∃ S2 r, xs[i]? = some r ∧ Rep K S2 H2 C ∧ Le S' H' S2 H2 ∧ D K S2 x r
  stop : ∀ (i : Nat) S' H' C, Rep K S' H' C → Lw S S' → xs.length ≤ i → J.stop i H'
def JI (X : Cx) (Z : Zx) (tg iter : Expr) (it : MI) : Prop := ∃ wi, PI X tg iter wi ∧ ∀ S σ H Γ C Qm R, At X.K Z S σ H Γ C →
  (∀ xs C' S' H' J, Qm xs C' → Rep X.K S' H' C' → Le S H S' H' → Yl X.K S' H' J xs → R J H') → it Γ C Qm → wi σ H R
theorem yl_list {K : PySem.W.Frag} {S : Wd} {H : Hp} {a : Addr} {vs : List V} {xs : List R} (h : SqL K S.G a vs) (t : DL K S vs xs) : Yl K S H (Itl K a) xs where
  go := fun i S' H' C rp l hi => ⟨vs, vs[i]'(by rw [t.length]; exact hi), sqL_mono (fun b o z => rp.sub b o (l.g b o z)) h, List.getElem?_eq_getElem _⟩
  yl := fun i S' H' C x H2 rp l hi y => by
    obtain ⟨rfl, y⟩ := y
    have e := y vs (sqL_mono (fun b o z => rp.sub b o (l.g b o z)) h)
    obtain ⟨r, hr, d⟩ := t.get' e
    exact ⟨S', r, hr, rp, Le.refl _ _, d.monoW l⟩
  stop := fun i S' H' C rp l hi => ⟨vs, sqL_mono (fun b o z => rp.sub b o (l.g b o z)) h, by rw [t.length]; exact hi⟩
theorem yl_tup {K : PySem.W.Frag} {S : Wd} {H : Hp} {a : Addr} {vs : List V} {xs : List R} (h : SqT K S.G a vs) (t : DL K S vs xs) : Yl K S H (Itt K a) xs where
  go := fun i S' H' C rp l hi => ⟨vs, vs[i]'(by rw [t.length]; exact hi), sqT_mono (fun b o z => rp.sub b o (l.g b o z)) h, List.getElem?_eq_getElem _⟩
  yl := fun i S' H' C x H2 rp l hi y => by
    obtain ⟨rfl, y⟩ := y
    have e := y vs (sqT_mono (fun b o z => rp.sub b o (l.g b o z)) h)
    obtain ⟨r, hr, d⟩ := t.get' e
    exact ⟨S', r, hr, rp, Le.refl _ _, d.monoW l⟩
  stop := fun i S' H' C rp l hi => ⟨vs, sqT_mono (fun b o z => rp.sub b o (l.g b o z)) h, by rw [t.length]; exact hi⟩
theorem ints_len : ∀ (n : Nat) (lo : Int), (upto lo n).length = n
  | 0, _ => rfl
  | n + 1, lo => congrArg (· + 1) (ints_len n (lo + 1))
theorem ints_get : ∀ (n : Nat) (lo : Int) (i : Nat), i < n → (upto lo n)[i]? = some (.int (lo + i))
  | n + 1, lo, 0, _ => by simp [upto]
  | n + 1, lo, i + 1, h => by
    have := ints_get n (lo + 1) i (by omega)
    simp only [upto, List.getElem?_cons_succ, this]
    congr 2
    push_cast
    omega
theorem yl_rng {K : PySem.W.Frag} {S : Wd} {H : Hp} (lo : Int) (n : Nat) : Yl K S H (Itr lo n) (upto lo n) where
  go := fun i S' H' C rp l hi => by rw [ints_len] at hi; exact hi
  yl := fun i S' H' C x H2 rp l hi y => by
    obtain ⟨rfl, rfl⟩ := y
    rw [ints_len] at hi
    exact ⟨S', _, ints_get n lo i hi, rp, Le.refl _ _, .int _⟩
  stop := fun i S' H' C rp l hi => by rw [ints_len] at hi; exact hi
theorem ji_list (h : JE X Z e m) : JI X Z tg e (iSeqL m) := by
  obtain ⟨t, p, k⟩ := h
  refine ⟨_, pi_list p, fun S σ H Γ C Qm Q A l q => k S σ H Γ C _ _ A (fun r C1 v S1 H1 q1 rp1 l1 d1 => ?_) q⟩
  cases d1 with
  | lst z t => exact ⟨_, rfl, ⟨_, SqL.of (rp1.sub _ _ z)⟩, l _ C1 S1 H1 _ q1 rp1 l1 (yl_list (SqL.of z) t)⟩
  | scr z t => exact ⟨_, rfl, ⟨_, sqL_mono rp1.sub z⟩, l _ C1 S1 H1 _ q1 rp1 l1 (yl_list z t)⟩
  | _ => exact q1.elim
theorem ji_tup (h : JE X Z e m) : JI X Z tg e (iSeqT m) := by
  obtain ⟨t, p, k⟩ := h
  refine ⟨_, pi_tup p, fun S σ H Γ C Qm Q A l q => k S σ H Γ C _ _ A (fun r C1 v S1 H1 q1 rp1 l1 d1 => ?_) q⟩
  cases d1 with
  | tup z t => exact ⟨_, rfl, ⟨_, SqT.of (rp1.sub _ _ z)⟩, l _ C1 S1 H1 _ q1 rp1 l1 (yl_tup (SqT.of z) t)⟩
  | _ => exact q1.elim
theorem ji_rng1 {p : Pos} (hm : X.mg "range" = none) (ha : JA X Z [a] am) (hg : Gl X "range" := by rfl) (hs : starEach [a] X.env = [(false, eval a X.env)] := by rfl) : JI X Z tg (.Call (.Name "range" p) [a] [] pos) (iRg1 am) := by
  obtain ⟨t, pa, k⟩ := ha
  refine ⟨_, pi_range1 hg hm pa hs, fun S σ H Γ C Qm Q A l q => k S σ H Γ C _ _ A (fun r C1 v S1 H1 q1 rp1 l1 d1 => ?_) q⟩
  split at q1
  · cases d1 with
    | cons d t => cases t; cases d; exact ⟨_, rfl, q1.1.1, q1.1.2, l _ C1 S1 H1 _ q1.2 rp1 l1 (yl_rng 0 _)⟩
  · exact q1.elim
theorem ji_rng2 {p : Pos} (hm : X.mg "range" = none) (ha : JA X Z [a, b] am) (hg : Gl X "range" := by rfl) (hs : starEach [a, b] X.env = [(false, eval a X.env), (false, eval b X.env)] := by rfl) (hs2 : starEach [b] X.env = [(false, eval b X.env)] := by rfl) : JI X Z tg (.Call (.Name "range" p) [a, b] [] pos) (iRg2 am) := by
  obtain ⟨t, pa, k⟩ := ha
  refine ⟨_, pi_range2 hg hm pa hs hs2, fun S σ H Γ C Qm Q A l q => k S σ H Γ C _ _ A (fun r C1 v S1 H1 q1 rp1 l1 d1 => ?_) q⟩
  split at q1
  · cases d1 with
    | cons d t => cases t with
      | cons d2 t => cases t; cases d; cases d2; exact ⟨_, _, rfl, q1.1, l _ C1 S1 H1 _ q1.2 rp1 l1 (yl_rng _ _)⟩
  · exact q1.elim
/-! ### for -/
theorem js_for (hp : PassesOwn (model X.prog X.w) X.A X.env X.xe) (hc : X.calm = true) (hi : JI X Z tg iter it) (hg : JG X Z tg mg) (hb : JSs X Z sts ms) (hs : ∀ x, foldedSetIterable iter X.env x = pure x := by intro _; rfl) : JS X Z (.For tg iter sts [] pos) (mFor it mg ms) := by
  obtain ⟨wi, pi, ki⟩ := hi
  obtain ⟨g, pg, kg⟩ := hg
  obtain ⟨t, p, k⟩ := hb
  refine ⟨_, ps_for hp hc pi pg p hs, fun S σ H Γ C Dm Ds A l q => ki S σ H Γ C _ _ A (fun xs C1 S1 H1 J q1 rp1 l1 y => ?_) q⟩
  refine ⟨fun i m σ' H' => m = xs.length - i ∧ ∃ S' Γ' C', At X.K Z S' σ' H' Γ' C' ∧ Le S1 H1 S' H' ∧ forL mg ms Dm (xs.drop i) Γ' C', ⟨xs.length, by simp, S1, Γ, C1, A.go l1 rp1, Le.refl _ _, forW_un q1⟩, ?_⟩
  rintro i n σ2 H2 ⟨rfl, S2, Γ2, C2, A2, l2, w⟩
  by_cases hi : i < xs.length
  · refine .inr ⟨y.go i S2 H2 C2 A2.rp l2.w hi, fun σ' H' => ∃ S' Γ' C', At X.K Z S' σ' H' Γ' C' ∧ Le S1 H1 S' H' ∧ forL mg ms Dm (xs.drop (i + 1)) Γ' C', fun σ' H' h => ⟨xs.length - (i + 1), by omega, rfl, h⟩, fun x H3 hy => ?_⟩
    obtain ⟨S3, r, hr, rp3, l3, d3⟩ := y.yl i S2 H2 C2 x H3 A2.rp l2.w hi hy
    have e : xs.drop i = r :: xs.drop (i + 1) := by
      obtain ⟨h1, h2⟩ := List.getElem?_eq_some_iff.mp hr
      rw [← h2]
      exact List.drop_eq_getElem_cons h1
    rw [e] at w
    refine kg S3 σ2 H3 Γ2 C2 x r _ _ (A2.go l3 rp3) d3 (fun Γ4 C4 σ4 S4 H4 q4 rp4 l4 g4 => ?_) w
    have l14 := l2.trans (l3.trans l4)
    refine k S4 σ4 H4 Γ4 C4 { Dm with nx := forL mg ms Dm (xs.drop (i + 1)), ct := forL mg ms Dm (xs.drop (i + 1)), bk := Dm.nx } _ (A2.to (l3.trans l4) rp4 g4) ⟨fun Γ5 C5 σ5 S5 H5 q5 rp5 l5 g5 => ?_, (l.go (l1.trans l14)).rt, (l.go (l1.trans l14)).nx, fun Γ5 C5 σ5 S5 H5 q5 rp5 l5 g5 => ?_⟩ q4
    · exact ⟨S5, Γ5, C5, A2.to ((l3.trans l4).trans l5) rp5 g5, l14.trans l5, q5⟩
    · exact ⟨S5, Γ5, C5, A2.to ((l3.trans l4).trans l5) rp5 g5, l14.trans l5, q5⟩
  · refine .inl ⟨y.stop i S2 H2 C2 A2.rp l2.w (by omega), ?_⟩
    rw [List.drop_eq_nil_of_le (by omega)] at w
    exact (l.go (l1.trans l2)).nx Γ2 C2 σ2 S2 H2 w A2.rp (Le.refl _ _) A2.sg
end
end NB

set_option Elab.async false
set_option linter.all false
set_option maxRecDepth 100000
set_option maxHeartbeats 1000000
namespace NB
open PySem PySem.Spec L2
section
variable {K : PySem.W.Frag} {S S1 : Wd} {H H1 : Hp} {σ : L2.St} {Γ : Gm} {C : Cs}
theorem sg_wipes (g : SG K S σ Γ) : ∀ vs : List Nat, SG K S (L2.wipe σ vs) (wipeM Γ vs)
  | [] => g
  | v :: vs => (sg_wipes g vs).wipe v none
theorem set_set_comm {α : Type} {l : List α} {i j : Nat} {x y : α} (h : i ≠ j) : (l.set i x).set j y = (l.set j y).set i x := List.set_comm x y h
theorem wipe_set : ∀ (vs : List Nat) (σ : L2.St) (i : Nat) (x : Option V), i ∈ vs → wipe (σ.set i x) vs = wipe σ vs
  | v :: vs, σ, i, x, h => by
    by_cases hm : i ∈ vs
    · show (wipe (σ.set i x) vs).set v none = (wipe σ vs).set v none
      rw [wipe_set vs σ i x hm]
    · have e : i = v := by
        rcases List.mem_cons.mp h with h | h
        · exact h
        · exact absurd h hm
      subst e
      have key : ∀ (us : List Nat), i ∉ us → wipe (σ.set i x) us = (wipe σ us).set i x := by
        intro us
        induction us with
        | nil => intro _; rfl
        | cons u us ih =>
          intro hn
          show (wipe (σ.set i x) us).set u none = ((wipe σ us).set u none).set i x
          rw [ih (fun z => hn (List.mem_cons_of_mem _ z)), set_set_comm (fun z => hn (by rw [z]; exact List.mem_cons_self))]
      show (wipe (σ.set i x) vs).set i none = (wipe σ vs).set i none
      rw [key vs hm, List.set_set]
theorem wipe_wipe (σ : L2.St) (vs : List Nat) : wipe (wipe σ vs) vs = wipe σ vs := by
  have key : ∀ (us : List Nat), (∀ u ∈ us, u ∈ vs) → wipe (wipe σ us) vs = wipe σ vs := by
    intro us
    induction us with
    | nil => intro _; rfl
    | cons u us ih =>
      intro h
      show wipe ((wipe σ us).set u none) vs = _
      rw [wipe_set vs _ u none (h u List.mem_cons_self), ih fun z hz => h z (List.mem_cons_of_mem _ hz)]
  exact key vs fun _ h => h
end
section
variable {X : Cx} {Z : Zx} {a b c e o i tg iter elt : Expr} {es ifs : List Expr} {ma mb mc m mo mi : ME} {mt mu : MT} {am : MA} {mg : MG} {mgs : MGs} {it : MI} {pos : Pos}

/-! ### targets of comprehensions: names of the block -/
def TrGw (K : PySem.W.Frag) (Z : Zx) (vs : List Nat) (t : TG) (m : MG) : Prop := ∀ S σ H Γ C v r Qm Q, At K Z S σ H Γ C → D K S v r →
  (∀ Γ' C' σ' S' H', Qm Γ' C' → Rep K S' H' C' → Le S H S' H' → SG K S' σ' Γ' → wipe σ' vs = wipe σ vs → Q σ' H') → m r Γ C Qm → t v σ H Q
def TrGsw (K : PySem.W.Frag) (Z : Zx) (vs : List Nat) (t : TGs) (m : MGs) : Prop := ∀ S σ H Γ C v r Qm Q, At K Z S σ H Γ C → DL K S v r →
  (∀ Γ' C' σ' S' H', Qm Γ' C' → Rep K S' H' C' → Le S H S' H' → SG K S' σ' Γ' → wipe σ' vs = wipe σ vs → Q σ' H') → m r Γ C Qm → t v σ H Q
/-- by a family of contexts -/
def JGw (P : Cx → Prop) (K : PySem.W.Frag) (Z : Zx) (vs : List Nat) (e : Expr) (m : MG) : Prop := ∃ t, (∀ Y, P Y → PG Y e t) ∧ TrGw K Z vs t m
def JGsw (P : Cx → Prop) (K : PySem.W.Frag) (Z : Zx) (vs : List Nat) (e : List Expr) (m : MGs) : Prop := ∃ t, (∀ Y, P Y → PGs Y e t) ∧ TrGsw K Z vs t m
/-- the blocks of a comprehension -/
def Blk (X : Cx) (scope : Scope) (Y : Cx) : Prop := ∃ (s : Shared) (H : Hp) (C : Addr) (cl : List (Str × Addr)) (fp : List Addr), Y = X.blk s H scope (compEnvC scope cl C X.env) fp
theorem jgw_name {P : Cx → Prop} {K : PySem.W.Frag} {vs : List Nat} (n : Nat) {x : Str} (h : ∀ Y, P Y → PG Y (.Name x pos) (gName n)) (hv : n ∈ vs := by decide) : JGw P K Z vs (.Name x pos) (gNm n) :=
  ⟨_, h, fun S σ H Γ C v r Qm Q A d l q => l _ C _ S H q A.rp (Le.refl _ _) (A.sg.set n d) (wipe_set vs σ n _ hv)⟩
theorem jgsw_nil {P : Cx → Prop} {K : PySem.W.Frag} {vs : List Nat} : JGsw P K Z vs [] gNl := ⟨_, fun Y _ => pgs_nil, fun S σ H Γ C v r Qm Q A d l q => by
  cases d with
  | nil => exact ⟨rfl, l _ C _ S H q A.rp (Le.refl _ _) A.sg rfl⟩
  | cons _ _ => exact q.elim⟩
theorem jgsw_cons {P : Cx → Prop} {K : PySem.W.Frag} {vs : List Nat} (h1 : JGw P K Z vs e mg) (h2 : JGsw P K Z vs es mgs) (he : ∀ Y, P Y → (assignEach (e :: es) Y.env).map (·.2) = assign e Y.env :: (assignEach es Y.env).map (·.2) := by intro _ _; rfl) : JGsw P K Z vs (e :: es) (gCn mg mgs) := by
  obtain ⟨t, p, k⟩ := h1
  obtain ⟨u, pu, ku⟩ := h2
  refine ⟨_, fun Y hY => pgs_cons (p Y hY) (pu Y hY) (he Y hY), fun S σ H Γ C v r Qm Q A d l q => ?_⟩
  cases d with
  | nil => exact q.elim
  | cons d t =>
    refine ⟨_, _, rfl, k S σ H Γ C _ _ _ _ A d (fun Γ1 C1 σ1 S1 H1 q1 rp1 l1 g1 w1 => ?_) q⟩
    exact ku S1 σ1 H1 Γ1 C1 _ _ _ _ (A.to l1 rp1 g1) (t.mono l1) (fun Γ2 C2 σ2 S2 H2 q2 rp2 l2 g2 w2 => l Γ2 C2 σ2 S2 H2 q2 rp2 (l1.trans l2) g2 (w2.trans w1)) q1
theorem jgw_tup {P : Cx → Prop} {K : PySem.W.Frag} {vs : List Nat} {k n : Nat} (h : JGsw P K Z vs es mgs) (hK : ∀ Y, P Y → Y.K = K) (hc : ∀ Y, P Y → Y.calm = true)
    (hn : ∀ Y, P Y → (assignEach es Y.env).length = n := by intro _ _; rfl) (hst : ∀ Y, P Y → (assignEach es Y.env).findIdx? (·.1) = none := by intro _ _; rfl) :
    JGw P K Z vs (.Tuple es k pos) (gTq n mgs) := by
  obtain ⟨t, p, kk⟩ := h
  refine ⟨gTup K n t, fun Y hY => by have z := pg_tup (k := k) (pos := pos) (n := n) (hc Y hY) (p Y hY) (hn Y hY) (hst Y hY); rw [hK Y hY] at z; exact z, fun S σ H Γ C v r Qm Q A d l q => ?_⟩
  cases d with
  | @tup a vs rs hh t =>
    obtain ⟨a, vs, e, z, t⟩ := tup_of A.rp (D.tup hh t)
    exact ⟨a, vs, e, z, by rw [t.length]; exact q.1, kk S σ H Γ C vs rs Qm Q A t l q.2⟩
  | _ => exact q.elim

/-! ### comprehensions -/
def Zx.calm (Z : Zx) : Zx := { Z with W := fun _ _ _ _ => False, e := fun _ => noX }
def JTs (X : Cx) (Z : Zx) (e : List Expr) (m : MT) : Prop := ∃ t, PTs X e t ∧ TrT X.K Z t m
theorem jts_nil : JTs X Z [] mYes := ⟨_, pts_nil, fun S σ H Γ C Qm Q A l q => l true C S H q A.rp (Le.refl _ _)⟩
theorem jts_one (h : JT X Z c mt) : JTs X Z [c] mt := let ⟨t, p, k⟩ := h; ⟨t, pts_one p, k⟩
theorem JTs.can (h : JTs X Z es mt) : PTs X es (tT X.K Z mt) := by
  obtain ⟨t, p, k⟩ := h
  refine ⟨fun pins s σ H Q I q => p.run pins s σ H Q I ?_⟩
  obtain ⟨S, Γ, C, Qm, A, l, q⟩ := q
  exact k S σ H Γ C Qm Q A l q
/-- the list that a comprehension has made -/
theorem comp_end {S S2 : Wd} {H H2 : Hp} {C2 : Cs} {cell : Bool} {Qm : Qe} {Q : VK} {vs : List V} {rs : List R} {p : Addr} (k : LkE X.K Z S H Qm Q) (n : H p = none) (rp : Rep X.K S2 H2 C2) (l : Le S H S2 H2)
    (h1 : p ∉ S2.ps) (h2 : S2.G p = none) (h3 : H2 p = some (.lst vs)) (d : DL X.K S2 vs rs) (q : newL cell rs C2 Qm) : Q (.ref p) H2 := by
  cases cell with
  | false =>
    obtain ⟨rp2, dm⟩ := rp.adoptG h1 h2 h3
    refine k _ C2 _ _ _ q rp2 (l.adoptG n h2) (.lst (by exact upd_same) ?_)
    exact DL.mono' (S := S2) (S' := { S2 with G := upd S2.G p (.lst vs) }) (fun b u h => by
      have : b ≠ p := fun e => by rw [e, h2] at h; cases h
      show upd S2.G p _ b = _
      rw [upd_ne this]; exact h) (fun _ _ h => h) d
  | true =>
    have rp2 := rp.adoptC (c := .lst rs) h1 h2 ⟨vs, h3, d⟩
    exact k _ _ _ _ _ q rp2 (l.adoptC n) (.cell (by show (S2.ps ++ [p])[C2.length]? = some p; rw [← rp.len]; simp))
theorem tr_comp (cell : Bool) {wi : TI} {g : TG} {vs : List Nat} (ki : ∀ S σ H Γ C Qm R, At X.K Z S σ H Γ C → (∀ xs C' S' H' J, Qm xs C' → Rep X.K S' H' C' → Le S H S' H' → Yl X.K S' H' J xs → R J H') → it Γ C Qm → wi σ H R)
    (kg : TrGw X.K Z vs g mg) : TrE X.K Z (tLc wi g (tT X.K Z.calm mt) (tE X.K Z.calm m) vs) (mComp cell it mg mt m vs) := by
  intro S σ H Γ C Qm Q A l q
  refine ki S σ H Γ C _ _ A (fun xs C1 S1 H1 J q1 rp1 l1 y => ?_) q
  intro p hp
  have l' := l.go l1
  have hps : p ∉ S1.ps := rp1.nps hp
  have hpg : S1.G p = none := by
    cases e : S1.G p with
    | none => rfl
    | some o => have := rp1.sub p o e; rw [hp] at this; cases this
  refine ⟨fun i n H' => n = xs.length - i ∧ ∃ S' C' acc vsA, Rep X.K S' H' C' ∧ Le S1 H1 S' H' ∧ p ∉ S'.ps ∧ S'.G p = none ∧ H' p = some (.lst vsA) ∧ DL X.K S' vsA acc ∧
    compL mg mt m (fun ys C2 => newL cell ys C2 Qm) (wipeM Γ vs) (xs.drop i) acc C', ⟨xs.length, by simp, S1, C1, [], [], rp1.side hps hpg, (Le.refl _ _).side hp, hps, hpg, upd_same, .nil, q1⟩, ?_⟩
  rintro i n H2 ⟨rfl, S2, C2, acc, vsA, rp2, l2, n1, n2, hv, dA, w⟩
  by_cases hi : i < xs.length
  · refine .inr ⟨y.go i S2 H2 C2 rp2 l2.w hi, fun H' => ∃ S' C' acc vsA, Rep X.K S' H' C' ∧ Le S1 H1 S' H' ∧ p ∉ S'.ps ∧ S'.G p = none ∧ H' p = some (.lst vsA) ∧ DL X.K S' vsA acc ∧
      compL mg mt m (fun ys C2 => newL cell ys C2 Qm) (wipeM Γ vs) (xs.drop (i + 1)) acc C', fun H' h => ⟨xs.length - (i + 1), by omega, rfl, h⟩, fun x H3 hy => ?_⟩
    obtain ⟨S3, r, hr, rp3, l3, d3⟩ := y.yl i S2 H2 C2 x H3 rp2 l2.w hi hy
    have e : xs.drop i = r :: xs.drop (i + 1) := by
      obtain ⟨h1, h2⟩ := List.getElem?_eq_some_iff.mp hr
      rw [← h2]
      exact List.drop_eq_getElem_cons h1
    rw [e] at w
    obtain ⟨wz, w⟩ := w
    -- how the new list keeps
    have kp : ∀ {S' : Wd} {H' : Hp}, Le S2 H2 S' H' → H' p = some (.lst vsA) ∧ p ∉ S'.ps ∧ S'.G p = none := fun {S' H'} lx => by
      refine ⟨lx.fr p _ hv n1, fun z => (lx.nw p z).elim n1 (fun z => by rw [hv] at z; cases z), ?_⟩
      cases e : S'.G p with
      | none => rfl
      | some o =>
        rcases lx.gn p o e with z | z | z
        · rw [n2] at z; cases z
        · exact absurd z n1
        · rw [hv] at z; cases z
    have A3 : At X.K Z S3 (wipe σ vs) H3 (wipeM Γ vs) C2 := ⟨rp3, (sg_wipes (A.sg.mono (l1.trans (l2.trans l3))) vs), A.le.trans (l1.trans (l2.trans l3))⟩
    refine kg S3 (wipe σ vs) H3 (wipeM Γ vs) C2 x r _ _ A3 d3 (fun Γ4 C4 σ4 S4 H4 q4 rp4 l4 g4 w4 => ?_) w
    refine ⟨w4.trans (wipe_wipe σ vs), S4, Γ4, C4, _, ⟨rp4, g4, A3.le.trans l4⟩, fun bb C5 S5 H5 q5 rp5 l5 => ?_, q4⟩
    have l25 := l3.trans (l4.trans l5)
    cases bb with
    | true =>
      simp only [ifP] at q5 ⊢
      refine ⟨S5, Γ4, C5, _, ⟨rp5, g4.mono l5, A3.le.trans (l4.trans l5)⟩, fun yr C6 yv S6 H6 q6 rp6 l6 d6 => ?_, q5⟩
      obtain ⟨k1, k2, k3⟩ := kp (l25.trans l6)
      refine ⟨vsA, k1, by rw [dA.length, sizeLine_eq]; exact wz, ?_⟩
      exact ⟨S6, C6, acc ++ [yr], vsA ++ [yv], rp6.side k2 k3, (l2.trans (l25.trans l6)).side hp, k2, k3, upd_same, (dA.mono (l25.trans l6)).append (.cons d6 .nil), q6⟩
    | false =>
      simp only [ifP] at q5 ⊢
      obtain ⟨k1, k2, k3⟩ := kp l25
      exact ⟨S5, C5, acc, vsA, rp5, l2.trans l25, k2, k3, k1, dA.mono l25, q5⟩
  · refine .inl ⟨y.stop i S2 H2 C2 rp2 l2.w (by omega), ?_⟩
    rw [List.drop_eq_nil_of_le (by omega)] at w
    exact comp_end l' hp rp2 l2 n1 n2 hv dA w
theorem je_comp (cell : Bool) {scope : Scope} (own : List (Str × Nat)) (hc : X.calm = true) (hN : X.N.Nodup) (hi : JI X Z tg iter it) (ok : BlkOk X.N X.env.scope scope own)
    (hg : JGw (Blk X scope) X.K Z (own.map (·.2)) tg mg) (ht : ∀ Y, Blk X scope Y → JTs Y Z.calm ifs mt) (he : ∀ Y, Blk X scope Y → JE Y Z.calm elt m)
    (hs : ∀ x, foldedSetIterable iter X.env x = pure x := by intro _; rfl) : JE X Z (.ListComp elt [⟨tg, iter, ifs, 0⟩] scope pos) (mComp cell it mg mt m (own.map (·.2))) := by
  obtain ⟨wi, pi, ki⟩ := hi
  obtain ⟨g, pg, kg⟩ := hg
  exact ⟨_, pe_lc (tt := tT X.K Z.calm mt) (te := tE X.K Z.calm m) hc hN pi ok (fun s H C cl fp => pg _ ⟨s, H, C, cl, fp, rfl⟩) (fun s H C cl fp => (ht _ ⟨s, H, C, cl, fp, rfl⟩).can) (fun s H C cl fp => (he _ ⟨s, H, C, cl, fp, rfl⟩).can) hs, tr_comp cell ki kg⟩
/-- x = [.. for ..] on one line -/
theorem js_setComp (cell : Bool) (n : Nat) {x : Str} {py : Pos} {scope : Scope} {cpos : Pos} (own : List (Str × Nat)) (hc : X.calm = true) (hN : X.N.Nodup) (hi : JI X Z tg iter it) (ok : BlkOk X.N X.env.scope scope own)
    (hg : JGw (Blk X scope) X.K Z (own.map (·.2)) tg mg) (ht : ∀ Y, Blk X scope Y → JTs Y Z.calm ifs mt) (he : ∀ Y, Blk X scope Y → JE Y Z.calm elt m)
    (hsw : swapsWith (.ListComp elt [⟨tg, iter, ifs, 0⟩] scope cpos) (some (.Name x py)) pos.line X.env = pure true)
    (hy : X.N[n]? = some x := by rfl) (hyl : X.env.scope.names.lookup x = some .local := by rfl)
    (hs : ∀ x, foldedSetIterable iter X.env x = pure x := by intro _; rfl) : JS X Z (.Assign [.Name x py] (.ListComp elt [⟨tg, iter, ifs, 0⟩] scope cpos) pos) (mAsg (mComp cell it mg mt m (own.map (·.2))) (gNm n)) := by
  obtain ⟨wi, pi, ki⟩ := hi
  obtain ⟨g, pg, kg⟩ := hg
  refine ⟨_, ps_setLc (tt := tT X.K Z.calm mt) (te := tE X.K Z.calm m) hc hN hy hyl hsw pi ok (fun s H C cl fp => pg _ ⟨s, H, C, cl, fp, rfl⟩) (fun s H C cl fp => (ht _ ⟨s, H, C, cl, fp, rfl⟩).can) (fun s H C cl fp => (he _ ⟨s, H, C, cl, fp, rfl⟩).can) hs, ?_⟩
  intro S σ H Γ C Dm Ds A l q
  refine tr_comp cell ki kg S σ H Γ C _ _ A (fun r C1 v S1 H1 q1 rp1 l1 d1 => ?_) q
  exact l.nx _ C1 _ S1 H1 q1 rp1 l1 ((A.sg.mono l1).set n d1)
end
end NB

set_option Elab.async false
set_option linter.all false
set_option maxRecDepth 100000
set_option maxHeartbeats 1000000
/-! MGuard: as Room and FnOk, with the fact that no repr is under way. -/
namespace NB
open PySem PySem.Spec L2
open PyProof.Rows
structure RG (k : Nat) (A : Around) : Prop where
  r : Room k A
  g : A.guards = some []
theorem RG.mono {j k : Nat} {A : Around} (h : RG k A) (l : j ≤ k) : RG j A := ⟨h.r.mono l, h.g⟩
theorem RG.deeper {k : Nat} {A : Around} (h : RG (k + 1) A) (env : Env) : RG k (A.deeper env) := ⟨h.r.deeper env, h.g⟩
theorem RG.units {k : Nat} {A : Around} (h : RG k A) : A.units + 64 < cLine := h.r.units
structure FnG (P : Program) (w : World) (K : PySem.W.Frag) (mg : Str → Option Value) (base : Heap) (k : Nat) (f : Addr) (fd : FuncData) (ps : List Str) (sp : Sp) : Prop where
  len : ∀ vs H Q E, sp vs H Q E → vs.length = ps.length
  run : ∀ (A : Around) (out : List Env) (s : Shared) (H : Hp) (ar : Args) (us : List Value) (vs : List V) (Q : VK) (E : XK), RG k A → Env0 P w K mg base A out s H → BindsTo s fd ar (ps.zip us) → Vals vs us →
    sp vs H Q E → codeAny (model P w) A (.call (.ref f) ar) (CR (L2.CX P w) out P w H s Q E) s
section
variable {P : Program} {w : World} {K : PySem.W.Frag} {mg : Str → Option Value} {base : Heap} {k : Nat} {f : Addr} {fd : FuncData} {N ps : List Str} {sp : Sp} {x qual : Str} {st : Stmt}
theorem FnG.mono {j : Nat} (F : FnG P w K mg base j f fd ps sp) (h : j ≤ k) : FnG P w K mg base k f fd ps sp := ⟨F.len, fun A out s H ar us vs Q E r => F.run A out s H ar us vs Q E (r.mono h)⟩
/-- a def by its body -/
theorem fnG_at {oc dV kV doc pm cdv ct : Value} {od an : Option Addr} {osl : Array (Option Value)} (hlk : K.lookup f = some ⟨oc, od, .func (PySem.W.fnOf x qual (defArgs st) (defBody st) (defScope st) dV kV doc pm an cdv ct), osl⟩) (hcode : PySem.W.codeIn K cdv qual = true) (Sc : FnScope N ps (defScope st)) (hlen : ∀ vs H Q E, sp vs H Q E → vs.length = ps.length)
    (hbd : ∀ (A : Around) (out : List Env) (s : Shared) (H : Hp) (vs : List V) (Q : VK) (E : XK), RG k (A.deeper (envOfC qual (defScope st) s.heap.objs.size f cdv)) → sp vs H Q E →
      ∃ t, PSs (cxOf (L2.CX P w) P w K mg base N qual (defScope st) f cdv A out s H E) (defBody st) t ∧ t { nx := fun _ H' => Q .non H', rt := Q } (L2.start N vs) H) : FnG P w K mg base (k + 1) f (PySem.W.fnOf x qual (defArgs st) (defBody st) (defScope st) dV kV doc pm an cdv ct) ps sp := by
  constructor
  · exact hlen
  · intro A out s H ar us vs Q E hrg env bnd vals wish
    have kept : ∀ b o, base.get? b = some o → s.heap.get? b = some o := fun b o h => (env.bs b o h).1
    refine codeAny_call_function hrg.r.depth (env.mod.kin.keeps kept _ _ hlk) rfl Sc.co Sc.gen rfl (PySem.W.codeRec_of (env.mod.kin.keeps kept) hcode) (bnd _ _ _ _ ?_)
    refine wpAny_newFunctionEnv_cells Sc.kind (fun y hy => ?_) fun en he s1 inC => ?_
    · obtain ⟨n, v⟩ := y
      rcases Sc.par n (List.of_mem_zip hy).1 with q | q
      · exact .inl q
      · exact .inr ⟨q, PySem.W.cellsFrom_some _ _ _ (.inl q)⟩
    · subst he
      refine ⟨(env.mod.nolimit.keeps kept).keeps inC.toInCall.keep, codeAny_func ?_⟩
      obtain ⟨t, pt, tq⟩ := hbd A out s H vs Q E (hrg.deeper _) wish
      refine wpAny_mono (pt.run [] s1 (L2.start N vs) H _ (inv_start Sc hrg.r.hd env (hlen _ _ _ _ wish) vals inC) tq) ?_ fun e s' he => he
      intro fl s' hfl
      match fl, hfl with
      | .ret u, ⟨v, _, H', J, rv, q⟩ => exact ⟨v, H', J.os, J.bare, J.base, J.hok, rv, q⟩
      | .next, ⟨_, H', J, q⟩ => exact ⟨V.non, H', J.os, J.bare, J.base, J.hok, rfl, q⟩
      | .brk, ⟨_, _, _, q⟩ => exact q.elim
      | .cont, ⟨_, _, _, q⟩ => exact q.elim
theorem fnG_of (F : Fun K x qual st f fd) (Sc : FnScope N ps (defScope st)) (hlen : ∀ vs H Q E, sp vs H Q E → vs.length = ps.length)
    (hbd : ∀ (cdv : Value) (A : Around) (out : List Env) (s : Shared) (H : Hp) (vs : List V) (Q : VK) (E : XK), RG k (A.deeper (envOfC qual (defScope st) s.heap.objs.size f cdv)) → sp vs H Q E →
      ∃ t, PSs (cxOf (L2.CX P w) P w K mg base N qual (defScope st) f cdv A out s H E) (defBody st) t ∧ t { nx := fun _ H' => Q .non H', rt := Q } (L2.start N vs) H) : FnG P w K mg base (k + 1) f fd ps sp := by
  obtain ⟨_, _, _, _, _, _, cdv, _, _, rfl, hlk, hcode⟩ := F.ex
  exact fnG_at hlk hcode Sc hlen (hbd cdv)
theorem fnG_ofD {dvs : List V} {kws : List (Str × V)} (F : FunD K x qual (defArgs st) (defBody st) (defScope st) dvs kws f fd) (Sc : FnScope N ps (defScope st)) (hlen : ∀ vs H Q E, sp vs H Q E → vs.length = ps.length)
    (hbd : ∀ (cdv : Value) (A : Around) (out : List Env) (s : Shared) (H : Hp) (vs : List V) (Q : VK) (E : XK), RG k (A.deeper (envOfC qual (defScope st) s.heap.objs.size f cdv)) → sp vs H Q E →
      ∃ t, PSs (cxOf (L2.CX P w) P w K mg base N qual (defScope st) f cdv A out s H E) (defBody st) t ∧ t { nx := fun _ H' => Q .non H', rt := Q } (L2.start N vs) H) : FnG P w K mg base (k + 1) f fd ps sp := by
  obtain ⟨_, _, _, _, _, _, _, cdv, _, _, rfl, hlk, hcode, _, _⟩ := F.ex
  exact fnG_at hlk hcode Sc hlen (hbd cdv)
end
/-! ### the law's call -/
theorem law_runG {P : Program} {w : World} {K : PySem.W.Frag} {mg mb : Str → Option Value} {lv : Nat} {fa a : Addr} {fd : FuncData} {x : Str} {sp : Sp} {s0 : Shared} {us : List Value} {ns : List Int}
    (kin : K.In s0.heap) (top : s0.heap.Ns mainGlobals mg) (bn : s0.heap.Ns builtinsNs mb) (bt : ∀ y : Str, y ≠ "__name__" → mb y = bootBuiltins y) (nl : s0.heap.NoLimit) (gen0 : s0.gens = #[])
    (obj : s0.heap.get? a = some { cls := .type "list", data := .seq us.toArray }) (ia : IntsAre us ns) (fit : ns.length ≤ sizeLine) (rg : RG lv callerA)
    (FF : ∀ b0 : Heap, K.In b0 → b0.Ns mainGlobals mg → FnG P w K mg b0 lv fa fd [x] sp) (bnd : ∀ (s : Shared) (u : Value), BindsTo s fd ⟨[u], []⟩ [(x, u)])
    (wish : ∀ H : Hp, Only H → SqL K H a (ns.map V.int) → sp [.ref a] H (fun v _ => v = .bl true) fun _ _ _ => False)
    (calm : ∀ H e s', L2.CX P w [] H s0 (fun _ _ _ => False) e s' → False) :
    codeAny (model P w) callerA (.call (.ref fa) ⟨[.ref a], []⟩) (fun r s' => r = .ok (.ret (.bool true)) ∧ OldK s0.heap s'.heap ∧ s'.os = s0.os ∧ AllBare s'.gens) s0 := by
  -- what is tracked: the script alone, or nothing
  have main : ∀ H : Hp, Only H → SqL K H a (ns.map V.int) → HOk P w H s0.heap → (∀ b u, H b = some u → b = a ∧ K.lookup a = none) →
      codeAny (model P w) callerA (.call (.ref fa) ⟨[.ref a], []⟩) (fun r s' => r = .ok (.ret (.bool true)) ∧ OldK s0.heap s'.heap ∧ s'.os = s0.os ∧ AllBare s'.gens) s0 := by
    intro H only sq hok one
    have dict0 : ∀ {b : Addr} {o : Obj} {xs : Array DictEntry} {n : Nat}, s0.heap.get? b = some o → o.data = .dict xs n → H b = none := fun {b o xs n} g d => by
      match hq : H b with
      | none => rfl
      | some u =>
        have := (one b u hq).1
        subst this
        rw [obj] at g
        cases g
        cases d
    have goNs : ∀ {b : Addr} {m : Str → Option Value}, s0.heap.Ns b m → (hidT s0.heap H).Ns b m := fun {b m} z => by
      obtain ⟨o, xs, n, g, d, rest⟩ := z
      exact ⟨o, xs, n, hidT_get g (dict0 g d), d, rest⟩
    have goK : K.In (hidT s0.heap H) := fun b o g => hidT_get (kin b o g) (by
      match hq : H b with
      | none => rfl
      | some u =>
        obtain ⟨e1, e2⟩ := one b u hq
        subst e1
        rw [e2] at g
        cases g)
    have md : Mod K mg (hidT s0.heap H) := by
      obtain ⟨mc, c1, c2⟩ := nl
      exact ⟨goK, goNs top, ⟨mb, goNs bn, bt⟩, mc, goNs c1, c2⟩
    have env : Env0 P w K mg (hidT s0.heap H) callerA [] s0 H := ⟨rfl, md, fun b o g => of_hidT g, Nat.le_of_eq (hidT_size _ _), trivial, fun b z => absurd (show b ∈ ([] : List Addr) from z) (by simp), hok, .of_eq gen0⟩
    refine codeAny_mono ((FF _ goK (goNs top)).run callerA [] s0 H ⟨[.ref a], []⟩ [.ref a] [.ref a] _ _ rg env (bnd s0 (.ref a)) (.cons rfl .nil) (wish H only sq)) ?_
    intro r s' hr
    match r, hr with
    | .error e, hr => exact (calm H e s' hr).elim
    | .ok (.ret u), ⟨v, H', os, bare, un, hok', rv, q⟩ =>
      have e1 : v = .bl true := q
      subst e1
      have e2 : u = Value.bool true := rv
      subst e2
      refine ⟨rfl, OldK.of_keep fun b o g => ?_, os, bare⟩
      match hq : H b with
      | none => exact un.keep b o g hq (fun z => absurd (show b ∈ ([] : List Addr) from z) (by simp)) (by simp)
      | some u =>
        rcases only b with z | ⟨ob, xs, z⟩
        · rw [hq] at z; cases z
        · have g1 := (hok b _ z).1
          have g2 := (hok' b _ (un.frzs b ob _ z)).1
          rw [g] at g1
          cases g1
          exact g2
    | .ok .next, hr => exact False.elim hr
    | .ok .brk, hr => exact False.elim hr
    | .ok .cont, hr => exact False.elim hr
  have rv := vals_ints ia
  by_cases hk : ∃ o, K.lookup a = some o
  · obtain ⟨o, hk⟩ := hk
    have g := kin a o hk
    rw [obj] at g
    cases g
    refine main (fun _ => none) (fun _ => .inl rfl) (.inr ⟨_, us.toArray, _, hk, rfl, rfl, rfl, ?_, by simpa using rv⟩) (fun _ _ z => by cases z) fun _ _ z => by cases z
    rw [List.size_toArray, ia.length]
    exact fit
  · have hk : K.lookup a = none := by
      cases e : K.lookup a with
      | none => rfl
      | some o => exact absurd ⟨o, e⟩ hk
    have at1 : ∀ {b u}, (if b = a then some (HO.frz { cls := .type "list", data := .seq us.toArray } (.lst (ns.map V.int))) else none) = some u → b = a ∧ u = .frz { cls := .type "list", data := .seq us.toArray } (.lst (ns.map V.int)) := fun {b u} z => by
      by_cases hb : b = a
      · rw [if_pos hb] at z; cases z; exact ⟨hb, rfl⟩
      · rw [if_neg hb] at z; cases z
    refine main (fun b => if b = a then some (.frz { cls := .type "list", data := .seq us.toArray } (.lst (ns.map V.int))) else none) (fun b => ?_) (.inl (.inr ⟨_, if_pos rfl⟩)) (fun b u z => ?_) fun b u z => ⟨(at1 z).1, hk⟩
    · by_cases hb : b = a
      · exact .inr ⟨_, _, if_pos hb⟩
      · exact .inl (if_neg hb)
    · obtain ⟨e1, e2⟩ := at1 z
      subst e1; subst e2
      exact ⟨obj, by rw [List.length_map]; exact fit, us, _, rv, obj⟩
theorem walkG {l : PySem.W.OpenLaw} {n lv : Nat} {q : Program} {loose : List Str} {XP : (Str → Option Value) → Heap → Prop} {YP : World → Heap → Prop} {d : DefRec} {K : Params → PySem.W.Frag} {sp : World → Sp} {x : Str}
    (most : l.most = some n) (fit : n ≤ sizeLine) (nodef : d.params.defaults = []) (rg : RG lv callerA) (kin : ∀ (w : World) (h : Heap), YP w h → (K w.params).In h)
    (FF : ∀ (w : World) (mg : Str → Option Value) (fa : Addr) (h : Heap), (K w.params).In h → h.Ns mainGlobals mg → mg d.name = some (.ref fa) →
      ∃ fd : FuncData, (∀ (s : Shared) (u : Value), BindsTo s fd ⟨[u], []⟩ [(x, u)]) ∧ ∀ b0 : Heap, (K w.params).In b0 → b0.Ns mainGlobals mg → FnG l.prog w (K w.params) mg b0 lv fa fd [x] (sp w))
    (wish : ∀ (w : World) (H : Hp) (a : Addr) (ns : List Int), ns.length ≤ n → Only H → SqL (K w.params) H a (ns.map V.int) → sp w [.ref a] H (fun v _ => v = .bl true) fun _ _ _ => False)
    (calm : ∀ (w : World) (H : Hp) (s : Shared) (e : Value) (s' : Shared), L2.CX l.prog w [] H s (fun _ _ _ => False) e s' → False) :
    PySem.W.WalkO q loose XP YP l.row.toRowW d [] (fun f vs => PySem.call f vs) := by
  refine Att.attach_call most nodef ?_
  intro w s0 s1 mg mb fa o pm cd doc a us ns G Y ho hd hcd hmg hobj ia hlen hg
  have X := kin w _ Y
  obtain ⟨fd, bnd, F⟩ := FF w mg fa _ X G.T.g hmg
  exact law_runG X G.T.g G.T.b G.T.builtins G.T.nolimit hg hobj ia (Nat.le_trans hlen fit) rg F bnd (fun H only sq => wish w H a ns hlen only sq) fun H e s' => calm w H s1 e s'
end NB

set_option Elab.async false
set_option linter.all false
set_option maxRecDepth 100000
set_option maxHeartbeats 1000000
namespace NB
open PySem PySem.Spec L2
open PyProof.Rows (envOfC)

/-! ### what is let go -/
section
variable {K : PySem.W.Frag} {S : Wd} {n : Nat}
theorem take_at {α : Type} {l : List α} {n k : Nat} {x : α} (h : l[k]? = some x) (hk : k < n) : (l.take n)[k]? = some x := by rw [List.getElem?_take_of_lt hk]; exact h
theorem of_take {α : Type} {l : List α} {n k : Nat} {x : α} (h : (l.take n)[k]? = some x) : l[k]? = some x ∧ k < n := by
  rw [List.getElem?_take] at h
  split at h
  · exact ⟨h, by assumption⟩
  · cases h
mutual
theorem cutD : ∀ {v : V} {r : R}, okR n r → D K S v r → D K { S with ps := S.ps.take n } v r
  | _, _, _, .non => .non
  | _, _, _, .bl b => .bl b
  | _, _, _, .int i => .int i
  | _, _, _, .str z => .str z
  | _, _, o, .tup q t => .tup q (cutL (by simpa only [okR] using o) t)
  | _, _, o, .lst q t => .lst q (cutL (by simpa only [okR] using o) t)
  | _, _, o, .scr q t => .scr q (cutL (by simpa only [okR] using o) t)
  | _, _, o, .cell q => .cell (take_at q (by simpa only [okR] using o))
  | _, _, o, .exn d t => .exn d (cutF (by simpa only [okR] using o) t)
theorem cutL : ∀ {v : List V} {r : List R}, okL n r → DL K S v r → DL K { S with ps := S.ps.take n } v r
  | _, _, _, .nil => .nil
  | _, _, o, .cons a t => .cons (cutD (by simp only [okL] at o; exact o.1) a) (cutL (by simp only [okL] at o; exact o.2) t)
theorem cutF : ∀ {v : List (Str × V)} {r : List (String × R)}, okF n r → DF K S v r → DF K { S with ps := S.ps.take n } v r
  | _, _, _, .nil => .nil
  | _, _, o, .cons a t => .cons (cutD (by simp only [okF] at o; exact o.1) a) (cutF (by simp only [okF] at o; exact o.2) t)
end
theorem okC_at {n : Nat} : ∀ {C : Cs} {k : Nat} {c : Ct}, okC n C → C[k]? = some c → okC n [c]
  | c :: C, 0, _, h, e => by
    cases e
    cases c <;> simp only [okC] at h ⊢ <;> first | exact ⟨h.1, trivial⟩ | trivial
  | c :: C, k + 1, _, h, e => okC_at (C := C) (k := k) (by cases c <;> simp only [okC] at h <;> first | exact h.2 | exact h) (by simpa using e)
theorem cutRep {H : Hp} {C : Cs} (rp : Rep K S H C) (o : okC n (C.take n)) : Rep K { S with ps := S.ps.take n } H (C.take n) := by
  refine ⟨rp.sub, by show (S.ps.take n).length = _; rw [List.length_take, List.length_take, rp.len], rp.nd.sublist (List.take_sublist _ _), fun k p c h1 h2 hd => ?_, fun k p c h1 h2 => ?_⟩
  · exact rp.off k p c (of_take h1).1 (of_take h2).1 hd
  · have q := rp.at_ k p c (of_take h1).1 (of_take h2).1
    have oc := okC_at o h2
    cases c with
    | lst xs => obtain ⟨vs, e, d⟩ := q; exact ⟨vs, e, cutL (by simp only [okC] at oc; exact oc.1) d⟩
    | box m => exact q
    | dct kvs => obtain ⟨kv, e, z, d⟩ := q; exact ⟨kv, e, z, cutL (by simp only [okC] at oc; exact oc.1) d⟩
    | dtt kvs => obtain ⟨kv, e, z, d⟩ := q; exact ⟨kv, e, z, cutL (by simp only [okC] at oc; exact oc.1) d⟩
    | dead => exact q
theorem cutLe {S0 : Wd} {H0 H : Hp} (l : Le S0 H0 S H) (h : S0.ps.length ≤ n) : Le S0 H0 { S with ps := S.ps.take n } H :=
  ⟨l.g, fun k p e => take_at (l.ps k p e) (Nat.lt_of_lt_of_le (List.getElem?_eq_some_iff.mp e).1 h), l.fr, fun p hp => l.nw p (List.take_subset _ _ hp), l.gn⟩
end

/-! ### defs -/
def spM (K : PySem.W.Frag) (cl : String → Addr) (n : Nat) (w : Wt) : Sp := fun vs H Q E => vs.length = n ∧ ∃ S C rs Qm Em, Rep K S H C ∧ DL K S vs rs ∧ w rs C Qm Em ∧
  (∀ r C' v S' H', Qm r C' → Rep K S' H' C' → Le S H S' H' → D K S' v r → Q v H') ∧
  (∀ c fs C' S' H' d fv, Em c fs C' → Rep K S' H' C' → Le S H S' H' → S'.G d = some (.xd fv) → DF K S' fv fs → E (.ref (cl c)) (some d) H')
/-- where what is raised goes -/
structure ZOk (X : Cx) (Z : Zx) : Prop where
  tk : Takes X Z.W
  link : ∀ S σ H Γ C c fs d fv, At X.K Z S σ H Γ C → Z.e Γ c fs C → S.G d = some (.xd fv) → DF X.K S fv fs → Z.W (.ref (Z.cl c)) (some d) σ H
theorem ZOk.calm {X : Cx} {Z : Zx} : ZOk X Z.calm := ⟨takes0, fun _ _ _ _ _ _ _ _ _ _ h _ _ => h.elim⟩
structure Fn (P : Program) (w : World) (K : PySem.W.Frag) (mg : Str → Option Value) (base : Heap) (cl : String → Addr) (lv : Nat) (x : Str) (n : Nat) (wt : Wt) (f : Addr) (fd : FuncData) (ps : List Str) : Prop where
  ok : FnG P w K mg base lv f fd ps (spM K cl n wt)
  gl : mg x = some (.ref f)
  kp : PySem.W.keepIn K (.ref f) = true
  ar : ∀ rs C Q E, wt rs C Q E → rs.length = n
theorem Fn.up {P : Program} {w : World} {K : PySem.W.Frag} {mg : Str → Option Value} {base : Heap} {cl : String → Addr} {lv k : Nat} {x : Str} {n : Nat} {wt : Wt} {f : Addr} {fd : FuncData} {ps : List Str} (F : Fn P w K mg base cl lv x n wt f fd ps) (h : lv ≤ k) :
    Fn P w K mg base cl k x n wt f fd ps := ⟨F.ok.mono h, F.gl, F.kp, F.ar⟩
section
variable {X : Cx} {Z : Zx} {e : Expr} {es : List Expr} {kws : List Keyword} {m : ME} {am ak : MA} {pos p : Pos} {lv n : Nat} {x : Str} {wt : Wt} {f : Addr} {fd : FuncData} {ps ks : List Str}
/-- the arguments' values make the promise true -/
theorem call_sp {S : Wd} {σ : L2.St} {H : Hp} {Γ : Gm} {C : Cs} {Qm : Qe} {Q : VK} {vs : List V} {rs : List R} (ok : ZOk X Z) (A : At X.K Z S σ H Γ C) (k : LkE X.K Z S H Qm Q) (d : DL X.K S vs rs) (hn : rs.length = n) (q : wt rs C Qm (Z.e Γ)) :
    spM X.K Z.cl n wt vs H Q (WE Z.W σ) :=
  ⟨d.length.trans hn, S, C, rs, Qm, Z.e Γ, A.rp, d, q, fun r C' v S' H' q rp l d => k r C' v S' H' q rp l d, fun c fs C' S' H' dd fv q rp l h1 h2 => ok.link S' σ H' Γ C' c fs dd fv (A.go l rp) q h1 h2⟩
/-- the call of a def whose arguments are bound -/
theorem run_fnM {pins : List (Addr × Obj)} {σ : L2.St} {H : Hp} {s : Shared} {Q : VK} {us ws zs : List Value} {vs : List V} (F : Fn X.prog X.w X.K X.mg X.base Z.cl lv x n wt f fd ps) (ok : ZOk X Z) (hr : RG lv X.A) (hb : BindsTo s fd ⟨us, ks.zip ws⟩ (ps.zip zs))
    (I : Inv X pins σ H s) (r : Vals vs zs) (h : spM X.K Z.cl n wt vs H Q (WE Z.W σ)) : wpAny (model X.prog X.w) X.A (call (.ref f) us (ks.zip ws)) (EP X pins σ Q) X.xe s := by
  refine wpAny_call (codeAny_mono (F.ok.run X.A X.stack s H ⟨us, ks.zip ws⟩ zs vs Q (WE Z.W σ) hr I.env0 hb r h) fun res s' hq => ?_)
  cases res with
  | error er => exact passAt ok.tk σ pins H s er s' I hq
  | ok fl =>
    cases fl with
    | ret u => exact I.after hq
    | next => exact False.elim hq
    | brk => exact False.elim hq
    | cont => exact False.elim hq
/-- f(e, ..), the defaults behind -/
theorem je_callD (F : Fn X.prog X.w X.K X.mg X.base Z.cl lv x n wt f fd ps) (ok : ZOk X Z) (hr : RG lv X.A) {ds : List Value} {dvs : List V} {dm : List R} (hb : Binds X.K fd ps ds) (hd : Vals dvs ds) (hdm : ∀ S, DL X.K S dvs dm)
    (ha : JA X Z (e :: es) am) (hg : Gl X x := by rfl) (hdb : (x == ("__debug__" : Str)) = false := by decide)
    (he : starEach (e :: es) X.env = (false, eval e X.env) :: starEach es X.env := by rfl) (hpl : (backTo pos (starEach es X.env)).any (·.1) = false := by rfl) : JE X Z (.Call (.Name x p) (e :: es) [] pos) (mCallD wt Z.e dm am) := by
  obtain ⟨t, pa, ka⟩ := ha
  refine ⟨fun σ H Q => t σ H fun vs H1 => spM X.K Z.cl n wt (vs ++ dvs) H1 Q (WE Z.W σ), ⟨fun pins s σ H Q I h => ?_⟩, fun S σ H Γ C Qm Q A k q => ?_⟩
  · refine wpAny_Call_Name_kw (ld_glob I hg F.gl ?_ hdb)
    refine PySem.W.callWith_K (h₀ := X.base) I.ok.mod.kin F.kp (thn (pa.run pos pins s σ H _ I h) fun us s1 ⟨vs, H1, I1, r, q⟩ => ⟨I1.kIn, ?_⟩) he hpl
    have r2 := r.append hd
    exact run_fnM (ks := []) (ws := []) F ok hr (hb s1 us I1.kIn (r2.length.symm.trans (F.ok.len _ _ _ _ q))) I1 r2 q
  · refine ka S σ H Γ C _ _ A (fun rs C1 vs S1 H1 q1 rp1 l1 d1 => ?_) q
    exact call_sp ok (A.go l1 rp1) (k.go l1) (d1.append (hdm S1)) (F.ar _ _ _ _ q1) q1
theorem je_call (F : Fn X.prog X.w X.K X.mg X.base Z.cl lv x n wt f fd ps) (ok : ZOk X Z) (hr : RG lv X.A) (hb : Binds X.K fd ps [])
    (ha : JA X Z (e :: es) am) (hg : Gl X x := by rfl) (hdb : (x == ("__debug__" : Str)) = false := by decide)
    (he : starEach (e :: es) X.env = (false, eval e X.env) :: starEach es X.env := by rfl) (hpl : (backTo pos (starEach es X.env)).any (·.1) = false := by rfl) : JE X Z (.Call (.Name x p) (e :: es) [] pos) (mCall wt Z.e am) := by
  have := je_callD (p := p) (pos := pos) (dm := []) F ok hr hb .nil (fun _ => .nil) ha hg hdb he hpl
  have e2 : mCallD wt Z.e [] am = mCall wt Z.e am := by
    funext Γ C Q
    simp only [mCallD, mCall, List.append_nil]
  rwa [e2] at this
theorem perm_vals (π : List Nat) {vs : List V} {us : List Value} (r : Vals vs us) : Vals (perm π vs) (perm π us) := by
  induction π with
  | nil => exact .nil
  | cons i π ih =>
    unfold perm at ih ⊢
    cases e : vs[i]? with
    | none =>
      rw [List.filterMap_cons_none e, List.filterMap_cons_none (r.none_of e)]
      exact ih
    | some v =>
      obtain ⟨u, hu, ru⟩ := r.get e
      rw [List.filterMap_cons_some e, List.filterMap_cons_some hu]
      exact .cons ru ih
theorem perm_dl {K : PySem.W.Frag} {S : Wd} (π : List Nat) {vs : List V} {rs : List R} (r : DL K S vs rs) : DL K S (perm π vs) (perm π rs) := by
  induction π with
  | nil => exact .nil
  | cons i π ih =>
    unfold perm at ih ⊢
    cases e : vs[i]? with
    | none =>
      have e2 : rs[i]? = none := by
        rw [List.getElem?_eq_none_iff] at e ⊢
        rw [← r.length]; exact e
      rw [List.filterMap_cons_none e, List.filterMap_cons_none e2]
      exact ih
    | some v =>
      obtain ⟨u, hu, ru⟩ := r.get' e
      rw [List.filterMap_cons_some e, List.filterMap_cons_some hu]
      exact .cons ru ih
/-- how a call with j positional values and the keywords ks binds -/
def BindK (K : PySem.W.Frag) (fd : FuncData) (ps : List Str) (j : Nat) (ks : List Str) (π : List Nat) : Prop :=
  ∀ (s : Shared) (us ws : List Value), us.length = j → ws.length = ks.length → BindsTo s fd ⟨us, ks.zip ws⟩ (ps.zip (perm π (us ++ ws)))
/-- f(k = e, ..) -/
theorem je_callK0 {π : List Nat} (F : Fn X.prog X.w X.K X.mg X.base Z.cl lv x n wt f fd ps) (ok : ZOk X Z) (hr : RG lv X.A) (hb : BindK X.K fd ps 0 ks π) (hkw : JK X Z kws ak) (hg : Gl X x := by rfl)
    (hall : (backToKw pos (keywordEach kws X.env)).all (·.1.isSome) = true := by rfl) (hks : (backToKw pos (keywordEach kws X.env)).filterMap (·.1) = ks := by rfl) (hdb : (x == ("__debug__" : Str)) = false := by decide)
    (hpl : ((backTo pos (starEach [] X.env)).any (·.1) || (backToKw pos (keywordEach kws X.env)).any (·.1.isNone)) = false := by rfl) : JE X Z (.Call (.Name x p) [] kws pos) (mCallK wt Z.e 0 ks.length π mNil ak) := by
  obtain ⟨tk, pk, kk⟩ := hkw
  refine ⟨fun σ H Q => tk σ H fun zs H2 => zs.length = ks.length ∧ spM X.K Z.cl n wt (perm π zs) H2 Q (WE Z.W σ), ⟨fun pins s σ H Q I h => ?_⟩, fun S σ H Γ C Qm Q A k q => ?_⟩
  · refine wpAny_Call_Name_kw (ld_glob I hg F.gl ?_ hdb)
    refine PySem.W.callWith_KW0 (h₀ := X.base) I.ok.mod.kin F.kp hall ?_ hpl
    refine thn (pk.run pos pins s σ H _ I h) fun ws s2 ⟨zs, H2, I2, rz, l2, q2⟩ => ⟨I2.kIn, ?_⟩
    rw [hks]
    exact run_fnM (us := []) F ok hr (hb s2 [] ws rfl (rz.length.symm.trans l2)) I2 (perm_vals π rz) q2
  · refine kk S σ H Γ C _ _ A (fun rs C1 vs S1 H1 q1 rp1 l1 d1 => ?_) q
    exact ⟨d1.length.trans q1.2.1, call_sp ok (A.go l1 rp1) (k.go l1) (perm_dl π d1) (F.ar _ _ _ _ q1.2.2) q1.2.2⟩
/-- f(e, .., k = e, ..) -/
theorem je_callK {π : List Nat} (F : Fn X.prog X.w X.K X.mg X.base Z.cl lv x n wt f fd ps) (ok : ZOk X Z) (hr : RG lv X.A) {j : Nat} (hb : BindK X.K fd ps j ks π) (ha : JA X Z (e :: es) am) (hkw : JK X Z kws ak) (hg : Gl X x := by rfl)
    (hall : (backToKw pos (keywordEach kws X.env)).all (·.1.isSome) = true := by rfl) (hks : (backToKw pos (keywordEach kws X.env)).filterMap (·.1) = ks := by rfl) (hdb : (x == ("__debug__" : Str)) = false := by decide)
    (he : starEach (e :: es) X.env = (false, eval e X.env) :: starEach es X.env := by rfl)
    (hpl : ((backTo pos (starEach (e :: es) X.env)).any (·.1) || (backToKw pos (keywordEach kws X.env)).any (·.1.isNone)) = false := by rfl) : JE X Z (.Call (.Name x p) (e :: es) kws pos) (mCallK wt Z.e j ks.length π am ak) := by
  obtain ⟨t, pa, ka⟩ := ha
  obtain ⟨tk, pk, kk⟩ := hkw
  refine ⟨fun σ H Q => t σ H fun vs H1 => tk σ H1 fun zs H2 => vs.length = j ∧ zs.length = ks.length ∧ spM X.K Z.cl n wt (perm π (vs ++ zs)) H2 Q (WE Z.W σ), ⟨fun pins s σ H Q I h => ?_⟩, fun S σ H Γ C Qm Q A k q => ?_⟩
  · refine wpAny_Call_Name_kw (ld_glob I hg F.gl ?_ hdb)
    refine PySem.W.callWith_KW (h₀ := X.base) I.ok.mod.kin F.kp hall (thn (pa.run pos pins s σ H _ I h) fun us s1 ⟨vs, H1, I1, r, q⟩ => ?_) hpl he
    refine thn (pk.run pos pins s1 σ H1 _ I1 q) fun ws s2 ⟨zs, H2, I2, rz, l1, l2, q2⟩ => ⟨I2.kIn, ?_⟩
    rw [hks]
    exact run_fnM F ok hr (hb s2 us ws (r.length.symm.trans l1) (rz.length.symm.trans l2)) I2 (perm_vals π (r.append rz)) q2
  · refine ka S σ H Γ C _ _ A (fun rs C1 vs S1 H1 q1 rp1 l1 d1 => ?_) q
    refine kk S1 σ H1 Γ C1 _ _ (A.go l1 rp1) (fun qs C2 zs S2 H2 q2 rp2 l2 d2 => ?_) q1
    exact ⟨d1.length.trans q2.1, d2.length.trans q2.2.1, call_sp ok (A.go (l1.trans l2) rp2) (k.go (l1.trans l2)) (perm_dl π ((d1.mono l2).append d2)) (F.ar _ _ _ _ q2.2.2) q2.2.2⟩
theorem je_call0 (F : Fn X.prog X.w X.K X.mg X.base Z.cl lv x n wt f fd ps) (ok : ZOk X Z) (hr : RG lv X.A) (hb : Binds X.K fd ps []) (hg : Gl X x := by rfl) (hdb : (x == ("__debug__" : Str)) = false := by decide) : JE X Z (.Call (.Name x p) [] [] pos) (mCall0 wt Z.e) := by
  refine ⟨fun σ H Q => spM X.K Z.cl n wt [] H Q (WE Z.W σ), ⟨fun pins s σ H Q I h => ?_⟩, fun S σ H Γ C Qm Q A k q => call_sp ok A k .nil (F.ar _ _ _ _ q) q⟩
  refine wpAny_Call_Name_kw (ld_glob I hg F.gl ?_ hdb)
  refine PySem.W.callWith_K0 I.kIn F.kp ?_
  have hl : ([] : List V).length = ps.length := F.ok.len _ _ _ _ h
  have b := hb s [] I.kIn hl
  exact run_fnM (ks := []) (ws := []) F ok hr b I .nil h

/-! ### a def's body -/
section
variable {P : Program} {w : World} {K : PySem.W.Frag} {mg : Str → Option Value} {base : Heap} {qual : Str} {st : Stmt} {N : List Str} {k : Nat}
/-- THE RULE for a def: its body's derivation, and that the body keeps w -/
theorem fn_M {cl : String → Addr} {m : (Gm → MX) → MS} (F : Fun K x qual st f fd) (Sc : FnScope N ps (defScope st)) (hn : ps.length = n) (hmg : mg x = some (.ref f)) (har : ∀ rs C Q E, wt rs C Q E → rs.length = n)
    (hder : ∀ (cdv : Value) (A : Around) (outer : List Env) (s : Shared) (H : Hp) (E : XK) (Z : Zx), Z.cl = cl → RG k (A.deeper (envOfC qual (defScope st) s.heap.objs.size f cdv)) →
      ZOk (cxOf (L2.CX P w) P w K mg base N qual (defScope st) f cdv A outer s H E) Z → JSs (cxOf (L2.CX P w) P w K mg base N qual (defScope st) f cdv A outer s H E) Z (defBody st) (m Z.e))
    (hm : Keeps N.length m n wt) : Fn P w K mg base cl (k + 1) x n wt f fd ps := by
  refine ⟨fnG_of F Sc (fun vs H Q E h => h.1.trans hn.symm) fun cdv A outer s H vs Q E hr hsp => ?_, hmg, F.kp, har⟩
  obtain ⟨hl, S, C, rs, Qm, Em, rp, d, hw, hq, hx⟩ := hsp
  let Z : Zx := { cl := cl, S0 := S, H0 := H, W := fun c d _ H => E c d H, e := fun _ => endX C.length Em }
  have ok : ZOk (cxOf (L2.CX P w) P w K mg base N qual (defScope st) f cdv A outer s H E) Z := ⟨takes_of rfl rfl rfl rfl, fun S' σ' H' Γ' C' c fs dd fv a hE hd hf => by
    replace hE : endX C.length Em c fs C' := hE; unfold endX at hE; rcases hE with h4 | ⟨n', h1, h2, h3, h4⟩
    · exact hx c fs C' S' H' dd fv h4 a.rp a.le hd hf
    exact hx c fs (C'.take n') { S' with ps := S'.ps.take n' } H' dd fv h4 (cutRep a.rp h3) (cutLe a.le (by rw [rp.len]; exact h1)) hd (cutF h2 hf)⟩
  obtain ⟨t, pt, kt⟩ := hder cdv A outer s H E Z rfl hr ok
  refine ⟨t, pt, kt S (L2.start N vs) H (NB.start N.length rs) C { nx := fun _ C' => endD C.length Qm .non C', rt := endD C.length Qm } _ ⟨rp, ?_, Le.refl _ _⟩ ⟨?_, ?_, fun _ _ _ _ _ z _ _ _ => z.elim, fun _ _ _ _ _ z _ _ _ => z.elim⟩ (hm rs C Qm Em (d.length.symm.trans hl) hw)⟩
  · have hle : vs.length ≤ N.length := by
      have := Sc.pre
      have h2 : (N.take ps.length).length = ps.length := by rw [this]
      rw [List.length_take] at h2
      omega
    refine ⟨by unfold L2.start NB.start; simp only [List.length_append, List.length_map, List.length_replicate]; rw [d.length], fun i r h => ?_⟩
    unfold NB.start at h
    by_cases hi : i < rs.length
    · rw [List.getElem?_append_left (by simpa using hi), List.getElem?_map] at h
      cases e : rs[i]? with
      | none => rw [e] at h; cases h
      | some y =>
        rw [e] at h
        cases h
        obtain ⟨v, hv, dv⟩ := d.get e
        refine ⟨v, ?_, dv⟩
        unfold L2.start
        rw [List.getElem?_append_left (by simpa using (List.getElem?_eq_some_iff.mp hv).1), List.getElem?_map, hv] <;> rfl
    · rw [List.getElem?_append_right (by simpa using hi), List.getElem?_replicate] at h
      split at h <;> cases h
  · intro Γ C' σ S' H' z rp' l _
    unfold endD at z; rcases z with h4 | ⟨n', h1, h2, h3, h4⟩
    · exact hq _ _ _ _ _ h4 rp' l .non
    exact hq _ _ _ _ _ h4 (cutRep rp' h3) (cutLe l (by rw [rp.len]; exact h1)) .non
  · intro r C' v S' H' z rp' l d'
    unfold endD at z; rcases z with h4 | ⟨n', h1, h2, h3, h4⟩
    · exact hq _ _ _ _ _ h4 rp' l d'
    exact hq _ _ _ _ _ h4 (cutRep rp' h3) (cutLe l (by rw [rp.len]; exact h1)) (cutD h2 d')
end
end
end NB

set_option Elab.async false
set_option linter.all false
set_option maxRecDepth 100000
set_option maxHeartbeats 1000000
namespace NB
open PySem PySem.Spec L2
open PyProof.Rows (envOfC)
section
variable {X : Cx} {Z : Zx} {a b c e e2 o i tg iter elt : Expr} {es ifs : List Expr} {ma mb mc m m2 mo mi : ME} {mt mu : MT} {am : MA} {mg : MG} {mgs : MGs} {it : MI} {ms : MS} {pos apos cpos : Pos} {sts : List Stmt} {st : Stmt}

/-! ### methods of lists that are cells -/
theorem cl_of {K : PySem.W.Frag} {S : Wd} {H : Hp} {C : Cs} {v : V} {r : R} (rp : Rep K S H C) (d : D K S v r) (h : isCl C r) : ∃ k a xs vs, r = .cell k ∧ v = .ref a ∧ S.ps[k]? = some a ∧ C[k]? = some (.lst xs) ∧ H a = some (.lst vs) ∧ DL K S vs xs := by
  cases d with
  | @cell a k q =>
    unfold isCl at h
    dsimp only at h
    cases e : C[k]? with
    | none => rw [e] at h; exact h.elim
    | some c =>
      rw [e] at h
      cases c with
      | lst xs =>
        obtain ⟨vs, z, t⟩ := cell_at rp q e
        exact ⟨k, a, xs, vs, rfl, rfl, q, e, z, t⟩
      | _ => exact h.elim
  | _ => exact h.elim
theorem tyL {K : PySem.W.Frag} {H : Hp} {a : Addr} {vs : List V} (h : H a = some (.lst vs)) : tyV K "list" (.ref a) H := Or.inl ⟨rfl, _, SqL.of h⟩
/-- a cell's list is rewritten -/
theorem cell_put {S : Wd} {H : Hp} {C : Cs} {Qm : Qe} {Q : VK} {k : Nat} {p : Addr} {xs ys : List R} {vs : List V} {v : V} {r : R} (rp : Rep X.K S H C) (l : LkE X.K Z S H Qm Q) (hp : S.ps[k]? = some p) (h0 : C[k]? = some (.lst xs)) (d : DL X.K S vs ys)
    (dv : D X.K S v r) (q : Qm r (C.set k (.lst ys))) : Q v (upd H p (.lst vs)) := by
  obtain ⟨rp2, l2⟩ := rp.write (o := .lst vs) (c := .lst ys) hp h0 (fun z => by cases z) ⟨vs, upd_same, d⟩
  exact l _ _ _ _ _ q rp2 l2 (dv.mono l2)
theorem je_append (ho : JE X Z o mo) (he : JE X Z e m) (hbase : attributeBase o "append" X.env (eval o X.env) = eval o X.env := by rfl) (hline : (apos.endLine == cpos.line) = true := by rfl)
    (h1 : starEach [e] X.env = (false, eval e X.env) :: starEach [] X.env := by rfl) (h2 : (backTo cpos (starEach [] X.env)).any (·.1) = false := by rfl)
    (hfew : ((backTo cpos (starEach [e] X.env)).all (fun x => !x.1) && (backToKw cpos (keywordEach [] X.env)).all (fun x => x.1.isSome) && decide (([e] : List Expr).length + ([] : List Keyword).length + (if ([] : List Keyword).isEmpty then 0 else 1) < 30)) = true := by rfl) : JE X Z (.Call (.Attribute o "append" apos) [e] [] cpos) (mApp mo m) := by
  obtain ⟨t, p, k⟩ := ho
  obtain ⟨u, pu, ku⟩ := he
  refine ⟨_, pe_bm PySem.F.plainAttrs_list PySem.F.slot_list_append PySem.F.type_list_append mt_append p (pa_cons pu pa_nil h1) hbase hfew hline h1 h2, fun S σ H Γ C Qm Q A l q => k S σ H Γ C _ _ A (fun r C1 v S1 H1 q1 rp1 l1 d1 => ?_) q⟩
  obtain ⟨kk, a, xs, vs, rfl, rfl, hp, hc, hv, dl⟩ := cl_of rp1 d1 q1.1
  refine ⟨tyL hv, ku S1 σ H1 Γ C1 _ _ (A.go l1 rp1) (fun y C2 w S2 H2 q2 rp2 l2 d2 => ?_) q1.2⟩
  dsimp only at q2
  have hp2 := l2.ps kk a hp
  cases e : C2[kk]? with
  | none => rw [e] at q2; exact q2.elim
  | some cc =>
    rw [e] at q2
    cases cc with
    | lst ys =>
      obtain ⟨us, z, t⟩ := cell_at rp2 hp2 e
      exact ⟨a, us, w, rfl, rfl, z, by rw [t.length, sizeLine_eq]; exact q2.1, cell_put rp2 (l.go (l1.trans l2)) hp2 e (t.append (.cons d2 .nil)) .non q2.2⟩
    | _ => exact q2.elim
theorem je_popAt (ho : JE X Z o mo) (he : JE X Z e m) (hbase : attributeBase o "pop" X.env (eval o X.env) = eval o X.env := by rfl) (hline : (apos.endLine == cpos.line) = true := by rfl)
    (h1 : starEach [e] X.env = (false, eval e X.env) :: starEach [] X.env := by rfl) (h2 : (backTo cpos (starEach [] X.env)).any (·.1) = false := by rfl)
    (hfew : ((backTo cpos (starEach [e] X.env)).all (fun x => !x.1) && (backToKw cpos (keywordEach [] X.env)).all (fun x => x.1.isSome) && decide (([e] : List Expr).length + ([] : List Keyword).length + (if ([] : List Keyword).isEmpty then 0 else 1) < 30)) = true := by rfl) : JE X Z (.Call (.Attribute o "pop" apos) [e] [] cpos) (mPopAt mo m) := by
  obtain ⟨t, p, k⟩ := ho
  obtain ⟨u, pu, ku⟩ := he
  refine ⟨_, pe_bm PySem.F.plainAttrs_list PySem.F.slot_list_pop PySem.F.type_list_pop mt_popAt p (pa_cons pu pa_nil h1) hbase hfew hline h1 h2, fun S σ H Γ C Qm Q A l q => k S σ H Γ C _ _ A (fun r C1 v S1 H1 q1 rp1 l1 d1 => ?_) q⟩
  obtain ⟨kk, a, xs, vs, rfl, rfl, hp, hc, hv, dl⟩ := cl_of rp1 d1 q1.1
  refine ⟨tyL hv, ku S1 σ H1 Γ C1 _ _ (A.go l1 rp1) (fun y C2 w S2 H2 q2 rp2 l2 d2 => ?_) q1.2⟩
  have hp2 := l2.ps kk a hp
  cases d2 with
  | int n =>
    dsimp only at q2
    cases e : C2[kk]? with
    | none => rw [e] at q2; exact q2.elim
    | some cc =>
      rw [e] at q2
      cases cc with
      | lst ys =>
        obtain ⟨us, z, t⟩ := cell_at rp2 hp2 e
        obtain ⟨⟨b1, b2⟩, q2⟩ := q2
        cases ej : ixM ys.length n with
        | none => rw [ej] at q2; exact q2.elim
        | some j =>
          rw [ej] at q2
          simp only [optP] at q2
          cases ey : ys[j]? with
          | none => rw [ey] at q2; exact q2.elim
          | some y =>
            rw [ey] at q2
            obtain ⟨v, hv2, dv⟩ := t.get ey
            have hj := ixN_seq (show ixN us.length n = some j by rw [t.length]; exact ej)
            exact ⟨a, us, n, j, v, rfl, rfl, z, b1, b2, hj.1, hv2, cell_put rp2 (l.go (l1.trans l2)) hp2 e (t.erase j) dv q2⟩
      | _ => exact q2.elim
  | _ => exact q2.elim
theorem dl_dropLast {K : PySem.W.Frag} {S : Wd} {v : List V} {r : List R} (t : DL K S v r) : DL K S v.dropLast r.dropLast := by
  rw [List.dropLast_eq_take, List.dropLast_eq_take, t.length]
  exact t.take _
theorem je_pop (ho : JE X Z o mo) (hbase : attributeBase o "pop" X.env (eval o X.env) = eval o X.env := by rfl) (hline : (apos.endLine == cpos.line) = true := by rfl) : JE X Z (.Call (.Attribute o "pop" apos) [] [] cpos) (mPop mo) := by
  obtain ⟨t, p, k⟩ := ho
  refine ⟨_, pe_bm0 PySem.F.plainAttrs_list PySem.F.slot_list_pop PySem.F.type_list_pop mt_pop p hbase hline, fun S σ H Γ C Qm Q A l q => k S σ H Γ C _ _ A (fun r C1 v S1 H1 q1 rp1 l1 d1 => ?_) q⟩
  cases d1 with
  | @cell a kk hp =>
    dsimp only at q1
    cases e : C1[kk]? with
    | none => rw [e] at q1; exact q1.elim
    | some cc =>
      rw [e] at q1
      cases cc with
      | lst ys =>
        obtain ⟨us, z, t⟩ := cell_at rp1 hp e
        simp only [lstP] at q1
        cases ey : ys[ys.length - 1]? with
        | none => rw [ey] at q1; exact q1.elim
        | some y =>
          rw [ey] at q1
          obtain ⟨v, hv2, dv⟩ := t.get ey
          exact ⟨tyL z, a, us, v, rfl, rfl, z, by rw [t.length]; exact hv2, cell_put rp1 (l.go l1) hp e (dl_dropLast t) dv q1⟩
      | _ => exact q1.elim
  | _ => exact q1.elim
theorem je_reverse (ho : JE X Z o mo) (hbase : attributeBase o "reverse" X.env (eval o X.env) = eval o X.env := by rfl) (hline : (apos.endLine == cpos.line) = true := by rfl) : JE X Z (.Call (.Attribute o "reverse" apos) [] [] cpos) (mRev mo) := by
  obtain ⟨t, p, k⟩ := ho
  refine ⟨_, pe_bm0 PySem.F.plainAttrs_list PySem.F.slot_list_reverse PySem.F.type_list_reverse mt_reverse p hbase hline, fun S σ H Γ C Qm Q A l q => k S σ H Γ C _ _ A (fun r C1 v S1 H1 q1 rp1 l1 d1 => ?_) q⟩
  cases d1 with
  | @cell a kk hp =>
    dsimp only at q1
    cases e : C1[kk]? with
    | none => rw [e] at q1; exact q1.elim
    | some cc =>
      rw [e] at q1
      cases cc with
      | lst ys =>
        obtain ⟨us, z, t⟩ := cell_at rp1 hp e
        exact ⟨tyL z, a, us, rfl, rfl, z, cell_put rp1 (l.go l1) hp e t.reverse .non q1⟩
      | _ => exact q1.elim
  | _ => exact q1.elim
theorem je_insert (ho : JE X Z o mo) (he : JE X Z e m) (he2 : JE X Z e2 m2) (hbase : attributeBase o "insert" X.env (eval o X.env) = eval o X.env := by rfl) (hline : (apos.endLine == cpos.line) = true := by rfl)
    (h1 : starEach [e, e2] X.env = (false, eval e X.env) :: starEach [e2] X.env := by rfl) (h2 : starEach [e2] X.env = (false, eval e2 X.env) :: starEach [] X.env := by rfl) (h3 : (backTo cpos (starEach [e2] X.env)).any (·.1) = false := by rfl)
    (hfew : ((backTo cpos (starEach [e, e2] X.env)).all (fun x => !x.1) && (backToKw cpos (keywordEach [] X.env)).all (fun x => x.1.isSome) && decide (([e, e2] : List Expr).length + ([] : List Keyword).length + (if ([] : List Keyword).isEmpty then 0 else 1) < 30)) = true := by rfl) :
    JE X Z (.Call (.Attribute o "insert" apos) [e, e2] [] cpos) (mIns mo m m2) := by
  obtain ⟨t, p, k⟩ := ho
  obtain ⟨u, pu, ku⟩ := he
  obtain ⟨y, py, ky⟩ := he2
  refine ⟨_, pe_bm PySem.F.plainAttrs_list PySem.F.slot_list_insert PySem.F.type_list_insert mt_insert p (pa_cons pu (pa_cons py pa_nil h2) h1) hbase hfew hline h1 h3, fun S σ H Γ C Qm Q A l q => k S σ H Γ C _ _ A (fun r C1 v S1 H1 q1 rp1 l1 d1 => ?_) q⟩
  obtain ⟨kk, a, xs, vs, rfl, rfl, hp, hc, hv, dl⟩ := cl_of rp1 d1 q1.1
  refine ⟨tyL hv, ku S1 σ H1 Γ C1 _ _ (A.go l1 rp1) (fun n C2 w S2 H2 q2 rp2 l2 d2 => ?_) q1.2⟩
  refine ky S2 σ H2 Γ C2 _ _ (A.go (l1.trans l2) rp2) (fun r3 C3 w3 S3 H3 q3 rp3 l3 d3 => ?_) q2
  have hp3 := (l2.trans l3).ps kk a hp
  cases d2 with
  | int n =>
    dsimp only at q3
    cases e : C3[kk]? with
    | none => rw [e] at q3; exact q3.elim
    | some cc =>
      rw [e] at q3
      cases cc with
      | lst ys =>
        obtain ⟨us, z, t⟩ := cell_at rp3 hp3 e
        obtain ⟨⟨b0, b1, b2⟩, q3⟩ := q3
        refine ⟨a, us, n, w3, rfl, rfl, z, by rw [t.length, sizeLine_eq]; exact b0, b1, b2, ?_⟩
        exact cell_put rp3 (l.go (l1.trans (l2.trans l3))) hp3 e (((t.take n.toNat).append (.cons d3 .nil)).append (t.drop n.toNat)) .non q3
      | _ => exact q3.elim
  | _ => exact q3.elim

/-! ### isinstance -/
theorem tyX_of {K : PySem.W.Frag} {S : Wd} {H : Hp} {C : Cs} {v : V} {r : R} {t : String} (rp : Rep K S H C) (d : D K S v r) (h : tyOf C r = some t) : TyX K H v (.type t) := by
  cases d with
  | non => cases h; exact .base .non
  | bl b => cases h; exact .base (.bl b)
  | int i => cases h; exact .base (.int i)
  | str z => cases h; exact .base (.str z)
  | tup q _ =>
    cases h
    rcases SqT.of (rp.sub _ _ q) with (z | ⟨o, z⟩) | ⟨o, its, n, h1, h2, _⟩
    · exact .base (.tup z)
    · exact .fTuple z
    · exact .kTuple h1 h2
  | lst q _ => cases h; exact .base (.lst (rp.sub _ _ q))
  | scr _ _ => cases h
  | @cell a k q =>
    unfold tyOf at h
    dsimp only at h
    cases e : C[k]? with
    | none => rw [e] at h; cases h
    | some c =>
      rw [e] at h
      cases c with
      | lst xs => cases h; obtain ⟨vs, z, _⟩ := cell_at rp q e; exact .base (.lst z)
      | dct kvs => cases h; obtain ⟨vs, z, _⟩ := cell_at rp q e; exact .base (.dK z)
      | _ => cases h
  | exn _ _ => cases h
def kitM (K : PySem.W.Frag) (c : String) : Prop := ∀ t ∈ ["NoneType", "bool", "int", "str", "tuple", "list", "dict"], PySem.W.kitOne K (.type t) (.type c) = isiM t c
theorem tyOf_mem {C : Cs} {r : R} {t : String} (h : tyOf C r = some t) : t ∈ ["NoneType", "bool", "int", "str", "tuple", "list", "dict"] := by
  unfold tyOf at h
  split at h <;> try (cases h <;> decide)
  split at h <;> cases h <;> decide
/-- isinstance(x, T) -/
theorem je_isi (c : String) {p p2 : Pos} {y : Str} (hk : kitM X.K c) (hm : X.mg "isinstance" = none) (hmy : X.mg y = none) (ha : JE X Z e m) (hg : Gl X "isinstance" := by rfl) (hgy : Gl X y := by rfl) (hv : bootBuiltins "isinstance" = some (.builtin "isinstance") := by decide +kernel)
    (hvy : bootBuiltins y = some (.type c) := by decide +kernel) (hn : y ≠ "__name__" := by decide) (hdb : (y == ("__debug__" : Str)) = false := by decide)
    (he : starEach [e, .Name y p2] X.env = (false, eval e X.env) :: starEach [.Name y p2] X.env := by rfl) (he2 : starEach [.Name y p2] X.env = (false, eval (.Name y p2) X.env) :: starEach [] X.env := by rfl) (hpl : (backTo pos (starEach [.Name y p2] X.env)).any (·.1) = false := by rfl) :
    JE X Z (.Call (.Name "isinstance" p) [e, .Name y p2] [] pos) (mFn (fIsi c) (mCons m mNil)) := by
  obtain ⟨t, pa, ka⟩ := ha
  refine ⟨_, pe_callB call_isi hg hm hv (pa_cons pa (pa_cons (pe_bltn hgy hmy hvy (v := .ty c) rfl hn hdb) pa_nil he2) he) (by decide) (by decide) he hpl, fun S σ H Γ C Qm Q A l q => ka S σ H Γ C _ _ A (fun r C1 v S1 H1 q1 rp1 l1 d1 => ?_) q⟩
  unfold fIsi mNil at q1
  dsimp only at q1
  cases et : tyOf C1 r with
  | none => rw [et] at q1; exact q1.elim
  | some t =>
    rw [et] at q1
    simp only [optP] at q1
    cases eb : isiM t c with
    | none => rw [eb] at q1; exact q1.elim
    | some b =>
      rw [eb] at q1
      exact ⟨v, .ty c, .type t, .type c, b, rfl, .ty c, tyX_of rp1 d1 et, (hk t (tyOf_mem et)).trans eb, l _ C1 _ S1 H1 q1 rp1 l1 (.bl b)⟩
theorem kitM_int {K : PySem.W.Frag} : kitM K "int" := by intro t ht; simp only [List.mem_cons, List.not_mem_nil, or_false] at ht; rcases ht with rfl | rfl | rfl | rfl | rfl | rfl | rfl <;> first | exact (kit_ty (r := true) (by decide +kernel)).trans (by decide) | exact (kit_ty (r := false) (by decide +kernel)).trans (by decide)
theorem kitM_bool {K : PySem.W.Frag} : kitM K "bool" := by intro t ht; simp only [List.mem_cons, List.not_mem_nil, or_false] at ht; rcases ht with rfl | rfl | rfl | rfl | rfl | rfl | rfl <;> first | exact (kit_ty (r := true) (by decide +kernel)).trans (by decide) | exact (kit_ty (r := false) (by decide +kernel)).trans (by decide)
theorem kitM_str {K : PySem.W.Frag} : kitM K "str" := by intro t ht; simp only [List.mem_cons, List.not_mem_nil, or_false] at ht; rcases ht with rfl | rfl | rfl | rfl | rfl | rfl | rfl <;> first | exact (kit_ty (r := true) (by decide +kernel)).trans (by decide) | exact (kit_ty (r := false) (by decide +kernel)).trans (by decide)
theorem kitM_list {K : PySem.W.Frag} : kitM K "list" := by intro t ht; simp only [List.mem_cons, List.not_mem_nil, or_false] at ht; rcases ht with rfl | rfl | rfl | rfl | rfl | rfl | rfl <;> first | exact (kit_ty (r := true) (by decide +kernel)).trans (by decide) | exact (kit_ty (r := false) (by decide +kernel)).trans (by decide)
theorem kitM_tuple {K : PySem.W.Frag} : kitM K "tuple" := by intro t ht; simp only [List.mem_cons, List.not_mem_nil, or_false] at ht; rcases ht with rfl | rfl | rfl | rfl | rfl | rfl | rfl <;> first | exact (kit_ty (r := true) (by decide +kernel)).trans (by decide) | exact (kit_ty (r := false) (by decide +kernel)).trans (by decide)
theorem kitM_dict {K : PySem.W.Frag} : kitM K "dict" := by intro t ht; simp only [List.mem_cons, List.not_mem_nil, or_false] at ht; rcases ht with rfl | rfl | rfl | rfl | rfl | rfl | rfl <;> first | exact (kit_ty (r := true) (by decide +kernel)).trans (by decide) | exact (kit_ty (r := false) (by decide +kernel)).trans (by decide)
end
end NB

set_option Elab.async false
set_option linter.all false
set_option maxRecDepth 100000
set_option maxHeartbeats 1000000
namespace NB
open PySem PySem.Spec L2
open PyProof.Rows (envOfC)
section
variable {X : Cx} {Z : Zx} {a b c e e2 o i tg iter elt : Expr} {es ifs : List Expr} {ma mb mc m m2 mo mi : ME} {mt mu : MT} {am : MA} {mg : MG} {mgs : MGs} {it : MI} {ms : MS} {pos apos cpos : Pos} {sts : List Stmt} {st : Stmt}

/-! ### exceptions: made and raised -/
/-- self.f = f -/
def spIni (C : Addr) (f : Str) : Sp := fun vs H Q _ => ∃ (a : Addr) (v : V), vs = [.ref a, v] ∧ H a = some (exo a C none) ∧ OexC' C ∧ ∀ dx, H dx = none → dx ≠ a → Q .non (upd (upd H dx (exd dx [(f, v)])) a (exo a C (some dx)))
where OexC' (_ : Addr) : Prop := True
/-- what the written part says of an own exception class with one field f -/
structure ExcK (P : Program) (w : World) (K : PySem.W.Frag) (mg : Str → Option Value) (base : Heap) (cl : String → Addr) (x f : Str) (c : String) : Prop where
  oex : OexC K (cl c)
  ini : ∃ (fI : Addr) (fd : FuncData) (ps : List Str), PySem.W.findIn K (.ref (cl c)) "__init__" = some (some (.ref fI)) ∧ PySem.W.typeIn K (.ref fI) = some (.type "function") ∧ FnOk P w K mg base CX0 1 fI fd ps (spIni (cl c) f) ∧ Binds K fd ps []
  gl : mg x = some (.ref (cl c))
theorem upd_away {H : Hp} {a d : Addr} {o1 o2 u : HO} (na : H a = none) (nd : d ≠ a) : upd (del (upd (upd (upd H a o1) d o2) a u) a) d (.xd []) = upd H d (.xd []) := by
  funext b
  by_cases hb : b = d
  · subst hb; rw [upd_same, upd_same]
  · rw [upd_ne hb, upd_ne hb]
    by_cases ha : b = a
    · subst ha; rw [del_same, na]
    · rw [del_ne ha, upd_ne ha, upd_ne hb, upd_ne ha]
theorem upd_away' {H : Hp} {a d : Addr} {o1 o2 u z : HO} (na : H a = none) (nd : d ≠ a) : upd (del (upd (upd (upd H a o1) d o2) a u) a) d z = upd H d z := by
  funext b
  by_cases hb : b = d
  · subst hb; rw [upd_same, upd_same]
  · rw [upd_ne hb, upd_ne hb]
    by_cases ha : b = a
    · subst ha; rw [del_same, na]
    · rw [del_ne ha, upd_ne ha, upd_ne hb, upd_ne ha]
theorem js_raise {x : Str} {f : String} {cn : String} {p : Pos} {ppos : Pos} (T : ExcK X.prog X.w X.K X.mg X.base Z.cl x (Str.ofString f) cn) (ok : ZOk X Z) (hc : X.calm = true) (hr : RG 2 X.A) (he : JE X Z e m) (hg : Gl X x := by rfl) (hdb : (x == ("__debug__" : Str)) = false := by decide)
    (hs : starEach [e] X.env = (false, eval e X.env) :: starEach [] X.env := by rfl) (hpl : (backTo ppos (starEach [] X.env)).any (·.1) = false := by rfl) : JS X Z (.Raise (some (.Call (.Name x p) [e] [] ppos)) none pos) (mRaise cn f Z.e m) := by
  obtain ⟨t, pe, k⟩ := he
  obtain ⟨fI, fd, ps, h1, h2, h3, h4⟩ := T.ini
  have hx : Passes CX0 X (fun _ _ _ => False) := pass0
  refine ⟨_, ps_raise hc ok.tk (pmk_oex T.oex h1 h2 h3 hr.r h4 .nil hx hg T.gl (pa_cons pe pa_nil hs) hdb hs hpl), fun S σ H Γ C Dm Ds A l q => k S σ H Γ C _ _ A (fun r C1 v S1 H1 q1 rp1 l1 d1 => ?_) q⟩
  refine ⟨by show 1 ≤ 1000; decide, fun aa na => ?_⟩
  refine ⟨aa, v, rfl, upd_same, trivial, fun dx nd ne => ⟨rfl, dx, [(Str.ofString f, v)], upd_same, ?_, ?_, ?_⟩⟩
  · rw [upd_ne ne]; exact upd_same
  · rw [upd_ne ne] at nd; exact nd
  · rw [upd_ne ne] at nd
    rw [upd_away' na ne]
    obtain ⟨rp2, l2⟩ := rp1.freeze (o := .xd [(Str.ofString f, v)]) nd
    exact ok.link _ σ _ Γ C1 cn [(f, r)] dx _ (A.go (l1.trans l2) rp2) q1 upd_same (.cons (d1.mono l2) .nil)
/-- the init of such a class -/
theorem ini_ok {P : Program} {w : World} {K : PySem.W.Frag} {mg : Str → Option Value} {base : Heap} {C : Addr} {x qual f : Str} {st : Stmt} {fI : Addr} {fd : FuncData} {p1 p2 p3 pp : Pos} (F : Fun K x qual st fI fd) (Sc : FnScope ["self", f] ["self", f] (defScope st)) (T : OexC K C) (no : PySem.W.findIn K (.ref C) f = some none)
    (hb : defBody st = [.Assign [.Attribute (.Name "self" p1) f p2] (.Name f p3) pp]) (hv : Vis (defScope st) f) (hs : Vis (defScope st) "self") (hd : (f == ("__debug__" : Str)) = false) (hd2 : (f == ("__classdict__" : Str)) = false)
    (hsw : ∀ env : Env, swapsWith (.Name f p3) (some (.Attribute (.Name "self" p1) f p2)) pp.line env = pure false) : FnOk P w K mg base CX0 1 fI fd ["self", f] (spIni C f) := by
  refine F.ok Sc (fun vs H Q E h => ?_) (fun cdv A outer s H vs Q E hr h => ?_)
  · obtain ⟨a, v, rfl, _⟩ := h; rfl
  · obtain ⟨a, v, rfl, ha, _, k⟩ := h
    rw [hb]
    refine ⟨_, pss_one (ps_ost (pe_var (i := 0) rfl hs) (pe_var (i := 1) rfl hv hd hd2) (hsw _)), ?_⟩
    exact ⟨v, rfl, .ref a, rfl, a, C, rfl, T, no, .inl ⟨ha, fun dx nd ne => k dx nd ne⟩⟩

/-! ### try .. except X as e -/
def tSx (K : PySem.W.Frag) (Z : Zx) (mb : (Gm → MX) → MS) (W : WX) : TS := fun Ds σ H => ∃ S Γ C Dm e', At K Z S σ H Γ C ∧ LkS K Z S H Dm Ds ∧
  (∀ S' σ' H' Γ' C' c fs d fv, At K { Z with S0 := S, H0 := H } S' σ' H' Γ' C' → e' Γ' c fs C' → S'.G d = some (.xd fv) → DF K S' fv fs → W (.ref (Z.cl c)) (some d) σ' H') ∧ mb e' Dm Γ C
def tSy (K : PySem.W.Frag) (Z : Zx) (kn : List String) (ms : Nat → Nat → String → MS) (a : Addr) (cls : Value) (d : Option Addr) : TS := fun Ds σ H => ∃ S Γ C Dm c1 dd, c1 ∈ kn ∧ cls = .ref (Z.cl c1) ∧ d = some dd ∧ At K Z S σ H Γ C ∧ LkS K Z S H Dm Ds ∧ ms a dd c1 Dm Γ C
theorem chars_inj : ∀ {a b : List Char}, a.map Char.toNat = b.map Char.toNat → a = b
  | [], [], _ => rfl
  | [], _ :: _, h => by simp at h
  | _ :: _, [], h => by simp at h
  | x :: a, y :: b, h => by
    simp only [List.map_cons, List.cons.injEq] at h
    obtain ⟨h1, h2⟩ := h
    have e : x = y := Char.ext (UInt32.toNat_inj.mp h1)
    rw [e, chars_inj h2]
theorem str_inj {a b : String} (h : Str.ofString a = Str.ofString b) : a = b := by
  rw [Str.ofString_eq_toList, Str.ofString_eq_toList] at h
  have h1 := congrArg (fun z => z.cps.toList) h
  simp only at h1
  exact String.ext (chars_inj (by simpa using h1))
theorem df_look {K : PySem.W.Frag} {S : Wd} {f : String} {x : R} : ∀ {fv : List (Str × V)} {fs : List (String × R)}, DF K S fv fs → fs.lookup f = some x → (∀ p ∈ fs, Str.ofString p.1 = Str.ofString f → p.1 = f) → ∃ v, fv.lookup (Str.ofString f) = some v ∧ D K S v x
  | _, _, .nil, h, _ => by cases h
  | _, _, @DF.cons _ _ y v vs r rs d t, h, hi => by
    rw [List.lookup_cons] at h ⊢
    by_cases e : f = y
    · subst e
      simp at h
      subst h
      exact ⟨v, by simp, d⟩
    · have e1 : (f == y) = false := by simpa using e
      rw [e1] at h
      have e2 : (Str.ofString f == Str.ofString y) = false := by
        rw [beq_eq_false_iff_ne]
        intro z
        exact e (hi (y, r) List.mem_cons_self z.symm).symm
      rw [e2]
      exact df_look t (by simpa using h) fun p hp => hi p (List.mem_cons_of_mem _ hp)
/-- e.f, e the caught exception -/
theorem je_exF {aa d : Addr} {oe : Obj} {c1 f : String} {pn : List (Addr × Obj)} (T : XfC X.K (Z.cl c1)) (hno : PySem.W.findIn X.K (.ref (Z.cl c1)) (Str.ofString f) = some none) (hz : Zc (.ref (Z.cl c1)) (some d) oe) (hf : ∃ vs, oe.data = .fields vs)
    (he : JE (X.suite aa ((aa, oe) :: pn)) Z e m) (hb : attributeBase e (Str.ofString f) X.env (eval e X.env) = eval e X.env := by rfl) : JE (X.suite aa ((aa, oe) :: pn)) Z (.Attribute e (Str.ofString f) pos) (mExF aa d c1 f m) := by
  obtain ⟨t, p, k⟩ := he
  refine ⟨_, pe_xf T hno hz hf p hb, fun S σ H Γ C Qm Q A l q => k S σ H Γ C _ _ A (fun r C1 v S1 H1 q1 rp1 l1 d1 => ?_) q⟩
  cases d1 with
  | exn hd t =>
    obtain ⟨⟨rfl, rfl, rfl⟩, q1⟩ := q1
    obtain ⟨x, hx, q1⟩ := optP_ex q1
    obtain ⟨v, hv, dv⟩ := df_look t hx fun p _ z => str_inj z
    exact ⟨rfl, rfl, _, _, v, rfl, rp1.sub _ _ hd, hv, l _ C1 _ S1 H1 q1 rp1 l1 dv⟩
  | _ => exact q1.elim
/-- what isinstance of an exception asks of its class -/
structure ExI (K : PySem.W.Frag) (C : Addr) : Prop where
  hcl : (PySem.W.clsIn K C).isSome = true
  hga : PySem.W.findIn K (.ref C) "__getattribute__" = some (some (.builtin "BaseException.__getattribute__"))
  hgt : PySem.W.findIn K (.ref C) "__getattr__" = some none
  hsub : PySem.W.subIn K (.ref C) (.type "BaseException") = some true
  ha : PySem.W.findIn K (.ref C) "__class__" = some (some (.builtin "object.__class__"))
  hn : PySem.W.specialIn K (.builtin "object.__class__") "__get__" = some (some (.builtin "getset_descriptor.__get__"))
  htk : PySem.W.takesIn K (.builtin "object.__class__") = some true
  hm : PySem.W.mroIn K C (.type "object") = some true
def rXi (K : PySem.W.Frag) (C : Addr) (a d : Addr) : List V → Hp → VK → Prop := fun xs H Q => ∃ (c2 : Addr) (fs : List (Str × V)) (b : Bool), xs = [.ref a, .ref c2] ∧ H d = some (.xd fs) ∧ PySem.W.kitOne K (.ref C) (.ref c2) = some b ∧ Q (.bl b) H
theorem call_xi {aa d C : Addr} {oe : Obj} {pn : List (Addr × Obj)} (T : ExI X.K C) (hz : Zc (.ref C) (some d) oe) (hf : ∃ vs, oe.data = .fields vs) : CallR (X.suite aa ((aa, oe) :: pn)) (.builtin "isinstance") (rXi X.K C aa d) := by
  intro pins s σ H xs us Q I r h
  obtain ⟨c2, fs, b, rfl, hd, e, q⟩ := h
  cases r with
  | cons rx rr =>
    cases rr with
    | cons rt rr =>
      cases rr
      cases rx
      cases rt
      obtain ⟨hget, _⟩ := I.pin (aa, oe) (List.mem_append.mpr (.inl List.mem_cons_self))
      obtain ⟨vs, hv⟩ := hf
      have hx : ObjOk X.prog X.w H s.heap d (.xd fs) := I.hok d _ hd
      obtain ⟨mA, hns, _⟩ := hx
      obtain ⟨od, _, _, ho, _⟩ := hns
      have J : PySem.W.InstAt s.heap aa oe C (some od) := ⟨hget, hz.1, by unfold PySem.W.notCls; rw [hv] <;> rfl, by rw [hz.2]; exact ho⟩
      exact PySem.W.kia_one (PySem.W.kitx_exc T.hcl T.hga T.hgt T.hsub T.ha T.hn T.htk T.hm) I.kIn J e (fun z => nomatch z) fun tk => ⟨.bl b, H, I.kept (t' := tk) fun _ _ z => z, rfl, q⟩
theorem je_exI {aa d : Addr} {oe : Obj} {c1 c2 : String} {pn : List (Addr × Obj)} {y : Str} {p p2 : Pos} (sub : String → String → Bool) (T : ExI X.K (Z.cl c1)) (hz : Zc (.ref (Z.cl c1)) (some d) oe) (hf : ∃ vs, oe.data = .fields vs) (hk : PySem.W.kitOne X.K (.ref (Z.cl c1)) (.ref (Z.cl c2)) = some (sub c1 c2))
    (hm : X.mg "isinstance" = none) (hmy : X.mg y = some (.ref (Z.cl c2))) (he : JE (X.suite aa ((aa, oe) :: pn)) Z e m) (hg : Gl X "isinstance" := by rfl) (hgy : Gl X y := by rfl) (hv : bootBuiltins "isinstance" = some (.builtin "isinstance") := by decide +kernel) (hdb : (y == ("__debug__" : Str)) = false := by decide)
    (hs : starEach [e, .Name y p2] X.env = (false, eval e X.env) :: starEach [.Name y p2] X.env := by rfl) (hs2 : starEach [.Name y p2] X.env = (false, eval (.Name y p2) X.env) :: starEach [] X.env := by rfl) (hpl : (backTo pos (starEach [.Name y p2] X.env)).any (·.1) = false := by rfl) :
    JE (X.suite aa ((aa, oe) :: pn)) Z (.Call (.Name "isinstance" p) [e, .Name y p2] [] pos) (mExI sub aa d c1 c2 m) := by
  obtain ⟨t, pe, k⟩ := he
  refine ⟨_, pe_callB (call_xi T hz hf) hg hm hv (pa_cons pe (pa_cons (pe_glob (v := .ref (Z.cl c2)) hgy hmy rfl hdb) pa_nil hs2) hs) (by decide) (by decide) hs hpl, fun S σ H Γ C Qm Q A l q => k S σ H Γ C _ _ A (fun r C1 v S1 H1 q1 rp1 l1 d1 => ?_) q⟩
  cases d1 with
  | exn hd t =>
    obtain ⟨⟨rfl, rfl, rfl⟩, q1⟩ := q1
    exact ⟨_, _, _, rfl, rp1.sub _ _ hd, hk, l _ C1 _ S1 H1 q1 rp1 l1 (.bl _)⟩
  | _ => exact q1.elim
end
end NB

set_option Elab.async false
set_option linter.all false
set_option maxRecDepth 100000
set_option maxHeartbeats 1000000
namespace NB
open PySem PySem.Spec L2
open PyProof.Rows (envOfC)
/-! ### data -/
mutual
def toD : R → PyData
  | .non => .none
  | .bl b => .bool b
  | .int i => .int i
  | .str z => .str z
  | .tup xs => .tuple (toDs xs)
  | .lst xs => .list (toDs xs)
  | .scr xs => .list (toDs xs)
  | .cell _ => .none
  | .exn _ _ _ _ => .none
def toDs : List R → List PyData
  | [] => []
  | x :: xs => toD x :: toDs xs
end
mutual
def plainR : Nat → R → Bool
  | _, .non => true
  | _, .bl _ => true
  | _, .int _ => true
  | _, .str z => z.cps.all fun c => decide (c < 0x110000)
  | n, .tup xs => 0 < n && plainRs (n - 1) xs
  | n, .lst xs => 0 < n && plainRs (n - 1) xs
  | _, _ => false
def plainRs : Nat → List R → Bool
  | _, [] => true
  | n, x :: xs => plainR n x && plainRs n xs
end
theorem strs_eq (x y : Str) : (x == y) = decide (x.cps = y.cps) := by
  obtain ⟨x⟩ := x
  obtain ⟨y⟩ := y
  by_cases h : x = y
  · subst h; simp
  · rw [decide_eq_false (show ¬ (Str.mk x).cps = (Str.mk y).cps from h), beq_eq_false_iff_ne]
    intro z; cases z; exact h rfl
mutual
theorem eqR_ok : ∀ (n : Nat) (x y : R), plainR n x = true → plainR n y = true → PyData.eqv (toD x) (toD y) = eqR x y
  | n, x, y, hx, hy => by
    cases x with
    | tup xs => cases y with
      | tup ys =>
        simp only [plainR, Bool.and_eq_true] at hx hy
        simp only [toD, PyData.eqv, eqR]
        exact eqRs_ok _ xs ys hx.2 hy.2
      | cell _ => simp [plainR] at hy
      | scr _ => simp [plainR] at hy
      | exn _ _ _ _ => simp [plainR] at hy
      | _ => simp only [toD, PyData.eqv, eqR]
    | lst xs => cases y with
      | lst ys =>
        simp only [plainR, Bool.and_eq_true] at hx hy
        simp only [toD, PyData.eqv, eqR]
        exact eqRs_ok _ xs ys hx.2 hy.2
      | cell _ => simp [plainR] at hy
      | scr _ => simp [plainR] at hy
      | exn _ _ _ _ => simp [plainR] at hy
      | _ => simp only [toD, PyData.eqv, eqR]
    | str z => cases y with
      | str u => simp only [toD, PyData.eqv, eqR]; exact strs_eq z u
      | cell _ => simp [plainR] at hy
      | scr _ => simp [plainR] at hy
      | exn _ _ _ _ => simp [plainR] at hy
      | _ => simp only [toD, PyData.eqv, eqR]
    | cell _ => simp [plainR] at hx
    | scr _ => simp [plainR] at hx
    | exn _ _ _ _ => simp [plainR] at hx
    | _ => cases y with
      | cell _ => simp [plainR] at hy
      | scr _ => simp [plainR] at hy
      | exn _ _ _ _ => simp [plainR] at hy
      | _ => simp only [toD, PyData.eqv, eqR]
theorem eqRs_ok : ∀ (n : Nat) (xs ys : List R), plainRs n xs = true → plainRs n ys = true → PyData.eqvAll (toDs xs) (toDs ys) = eqRs xs ys
  | n, [], [], _, _ => by simp only [toDs, PyData.eqvAll, eqRs]
  | n, [], _ :: _, _, _ => by simp only [toDs, PyData.eqvAll, eqRs]
  | n, _ :: _, [], _, _ => by simp only [toDs, PyData.eqvAll, eqRs]
  | n, x :: xs, y :: ys, hx, hy => by
    simp only [plainRs, Bool.and_eq_true] at hx hy
    simp only [toDs, PyData.eqvAll, eqRs]
    rw [eqR_ok n x y hx.1 hy.1, eqRs_ok n xs ys hx.2 hy.2]
end
mutual
theorem plain_shape : ∀ (n : Nat) (x : R), plainR n x = true → (toD x).canLay0 = true ∧ (toD x).depth ≤ n
  | n, x, h => by
    cases x with
    | tup xs =>
      simp only [plainR, Bool.and_eq_true, decide_eq_true_eq] at h
      obtain ⟨a, b⟩ := plains_shape _ xs h.2
      simp only [toD, PyData.canLay0, PyData.depth]
      exact ⟨a, by omega⟩
    | lst xs =>
      simp only [plainR, Bool.and_eq_true, decide_eq_true_eq] at h
      obtain ⟨a, b⟩ := plains_shape _ xs h.2
      simp only [toD, PyData.canLay0, PyData.depth]
      exact ⟨a, by omega⟩
    | str z =>
      simp only [plainR] at h
      simp only [toD, PyData.canLay0, PyData.depth]
      exact ⟨h, Nat.zero_le _⟩
    | cell _ => simp [plainR] at h
    | scr _ => simp [plainR] at h
    | exn _ _ _ _ => simp [plainR] at h
    | _ => simp only [toD, PyData.canLay0, PyData.depth]; exact ⟨trivial, Nat.zero_le _⟩
theorem plains_shape : ∀ (n : Nat) (xs : List R), plainRs n xs = true → PyData.canLayAll0 (toDs xs) = true ∧ PyData.depthAll (toDs xs) ≤ n
  | n, [], _ => by simp only [toDs, PyData.canLayAll0, PyData.depthAll]; exact ⟨trivial, Nat.zero_le _⟩
  | n, x :: xs, h => by
    simp only [plainRs, Bool.and_eq_true] at h
    obtain ⟨a, b⟩ := plain_shape n x h.1
    obtain ⟨c, d⟩ := plains_shape n xs h.2
    simp only [toDs, PyData.canLayAll0, PyData.depthAll]
    exact ⟨by rw [a, c]; rfl, by omega⟩
end
section
variable {K : PySem.W.Frag} {S : Wd} {H : Hp} {C : Cs}
theorem dp_all {n : Nat} (ih : ∀ {v : V} {r r' : R}, D K S v r → resN n C r = some r' → Dp K H v (toD r') ∧ plainR n r' = true) : ∀ {vs : List V} {xs ys : List R}, DL K S vs xs → xs.mapM (resN n C) = some ys → DpAll K H vs (toDs ys) ∧ plainRs n ys = true
  | _, _, ys, .nil, h => by
    simp at h
    subst h
    simp only [toDs, plainRs]
    exact ⟨.nil, trivial⟩
  | _, _, ys, .cons d t, h => by
    rw [List.mapM_cons] at h
    obtain ⟨y, hy, h⟩ := Option.bind_eq_some_iff.mp h
    obtain ⟨zs, hz, h⟩ := Option.bind_eq_some_iff.mp h
    cases h
    obtain ⟨a, b⟩ := ih d hy
    obtain ⟨c, e⟩ := dp_all ih t hz
    simp only [toDs, plainRs]
    exact ⟨.cons a c, by rw [b, e]; rfl⟩
theorem res_ok (rp : Rep K S H C) : ∀ (n : Nat) {v : V} {r r' : R}, D K S v r → resN n C r = some r' → Dp K H v (toD r') ∧ plainR n r' = true
  | 0, _, _, _, _, h => by cases h
  | n + 1, v, r, r', d, h => by
    have lists : ∀ {xs : List R} {a : Addr} {vs : List V} {g : List R → R}, (g = .lst ∧ SqL K H a vs ∨ g = .tup ∧ SqT K H a vs) → DL K S vs xs → (xs.mapM (resN n C)).map g = some r' → Dp K H (.ref a) (toD r') ∧ plainR (n + 1) r' = true := by
      intro xs a vs g hg t h
      obtain ⟨ys, hy, e⟩ := Option.map_eq_some_iff.mp h
      subst e
      obtain ⟨a1, b1⟩ := dp_all (res_ok rp n) t hy
      rcases hg with ⟨rfl, z⟩ | ⟨rfl, z⟩
      · simp only [toD, plainR]
        exact ⟨.lst z a1, by simpa using b1⟩
      · simp only [toD, plainR]
        exact ⟨.tup z a1, by simpa using b1⟩
    cases d with
    | non => cases h; simp only [toD, plainR]; exact ⟨.non, trivial⟩
    | bl b => cases h; simp only [toD, plainR]; exact ⟨.bl b, trivial⟩
    | int i => cases h; simp only [toD, plainR]; exact ⟨.int i, trivial⟩
    | str z =>
      unfold resN at h
      dsimp only at h
      split at h
      · cases h
        simp only [toD, plainR]
        exact ⟨.str z, by assumption⟩
      · cases h
    | tup q t => exact lists (.inr ⟨rfl, SqT.of (rp.sub _ _ q)⟩) t h
    | lst q t => exact lists (.inl ⟨rfl, SqL.of (rp.sub _ _ q)⟩) t h
    | scr _ _ => cases h
    | @cell a k q =>
      unfold resN at h
      dsimp only at h
      cases e : C[k]? with
      | none => rw [e] at h; cases h
      | some c =>
        rw [e] at h
        cases c with
        | lst xs =>
          obtain ⟨vs, z, t⟩ := cell_at rp q e
          exact lists (.inl ⟨rfl, SqL.of z⟩) t h
        | _ => cases h
    | exn _ _ => cases h
theorem shaped_of {r : R} (h : plainR 9 r = true) : SeqAt.shaped (toD r) = true := by
  obtain ⟨a, b⟩ := plain_shape 9 r h
  unfold SeqAt.shaped
  rw [a, decide_eq_true (by omega)]
  rfl
end
section
variable {X : Cx} {Z : Zx} {a b c e e2 o i tg iter elt : Expr} {es ifs : List Expr} {ma mb mc m m2 mo mi : ME} {mt mu : MT} {am : MA} {mg : MG} {mgs : MGs} {it : MI} {ms : MS} {pos apos cpos : Pos} {sts : List Stmt} {st : Stmt}
theorem str_dec (a b : Str) : decide (V.str a = V.str b) = decide (a.cps = b.cps) := by
  rw [decide_eq_decide]
  exact ⟨fun h => by cases h; rfl, fun h => by obtain ⟨a⟩ := a; obtain ⟨b⟩ := b; cases h; rfl⟩
theorem jo_eqA (hu : X.A.units + 64 < cLine) : JOp X Z (compareOp .Eq) (fun x y C Q => optP (resN 9 C x) fun a => optP (resN 9 C y) fun b => Q (.bl (eqR a b)) C) := ⟨_, op_eqD hu, fun S H C x y rx ry Qm Q rp dx dy k q => by
  obtain ⟨r1, e1, q⟩ := optP_ex q
  obtain ⟨r2, e2, q⟩ := optP_ex q
  obtain ⟨a1, b1⟩ := res_ok rp 9 dx e1
  obtain ⟨a2, b2⟩ := res_ok rp 9 dy e2
  refine ⟨_, _, a1, a2, shaped_of b1, shaped_of b2, ?_⟩
  rw [eqR_ok 9 r1 r2 b1 b2]
  exact k _ _ _ _ _ q rp (Le.refl _ _) (.bl _)⟩
theorem jo_eqS : JOp X Z (compareOp .Eq) (fun x y C Q => ∃ a b, x = .str a ∧ y = .str b ∧ Q (.bl (decide (a.cps = b.cps))) C) := ⟨_, op_eq, fun S H C x y rx ry Qm Q rp dx dy k q => by
  obtain ⟨a, b, rfl, rfl, q⟩ := q
  cases dx
  cases dy
  refine ⟨rfl, ?_⟩
  rw [str_dec]
  exact k _ _ _ _ _ q rp (Le.refl _ _) (.bl _)⟩
theorem jo_eq (hu : X.A.units + 64 < cLine) : JOp X Z (compareOp .Eq) oEq := by
  obtain ⟨r, h1, h2⟩ := JOp.or (X := X) (Z := Z) jo_eqS (jo_eqA hu)
  refine ⟨r, h1, fun S H C x y rx ry Qm Q rp dx dy k q => h2 S H C x y rx ry Qm Q rp dx dy k ?_⟩
  unfold oEq at q
  split at q
  · exact .inl ⟨_, _, rfl, rfl, q⟩
  · exact .inr q
theorem jo_neA (hu : X.A.units + 64 < cLine) : JOp X Z (compareOp .NotEq) (fun x y C Q => optP (resN 9 C x) fun a => optP (resN 9 C y) fun b => Q (.bl (!eqR a b)) C) := ⟨_, op_neD hu, fun S H C x y rx ry Qm Q rp dx dy k q => by
  obtain ⟨r1, e1, q⟩ := optP_ex q
  obtain ⟨r2, e2, q⟩ := optP_ex q
  obtain ⟨a1, b1⟩ := res_ok rp 9 dx e1
  obtain ⟨a2, b2⟩ := res_ok rp 9 dy e2
  refine ⟨_, _, a1, a2, shaped_of b1, shaped_of b2, ?_⟩
  rw [eqR_ok 9 r1 r2 b1 b2]
  exact k _ _ _ _ _ q rp (Le.refl _ _) (.bl _)⟩
theorem jo_neS : JOp X Z (compareOp .NotEq) (fun x y C Q => ∃ a b, x = .str a ∧ y = .str b ∧ Q (.bl (!decide (a.cps = b.cps))) C) := ⟨_, op_ne, fun S H C x y rx ry Qm Q rp dx dy k q => by
  obtain ⟨a, b, rfl, rfl, q⟩ := q
  cases dx
  cases dy
  refine ⟨rfl, ?_⟩
  rw [← str_dec] at q
  have e : (decide (V.str a ≠ V.str b)) = (!decide (V.str a = V.str b)) := by simp
  first
    | exact k _ _ _ _ _ q rp (Le.refl _ _) (.bl _)
    | (rw [e]; exact k _ _ _ _ _ q rp (Le.refl _ _) (.bl _))⟩
theorem jo_ne (hu : X.A.units + 64 < cLine) : JOp X Z (compareOp .NotEq) oNe := by
  obtain ⟨r, h1, h2⟩ := JOp.or (X := X) (Z := Z) jo_neS (jo_neA hu)
  refine ⟨r, h1, fun S H C x y rx ry Qm Q rp dx dy k q => h2 S H C x y rx ry Qm Q rp dx dy k ?_⟩
  unfold oNe at q
  split at q
  · exact .inl ⟨_, _, rfl, rfl, q⟩
  · exact .inr q
theorem jo_isB : JOp X Z (compareOp .Is) oIsB := ⟨_, op_isBl, fun S H C x y rx ry Qm Q rp dx dy k q => by
  cases dx <;> cases dy <;> first | exact q.elim | exact ⟨_, _, rfl, rfl, k _ _ _ _ _ q rp (Le.refl _ _) (.bl _)⟩⟩
theorem jo_isNotB : JOp X Z (compareOp .IsNot) oIsNotB := ⟨_, op_notBl, fun S H C x y rx ry Qm Q rp dx dy k q => by
  cases dx <;> cases dy <;> first | exact q.elim | exact ⟨_, _, rfl, rfl, k _ _ _ _ _ q rp (Le.refl _ _) (.bl _)⟩⟩
/-- truth of a value -/
theorem jt_tru (h : JE X Z e m) (he : ∀ whole, isTrue e X.env whole = (do let v ← whole; standAt e.pos; holding [v] (truthy v)) := by intro _; rfl) : JT X Z e (mTru m) := by
  obtain ⟨t, p, k⟩ := h
  refine ⟨_, pt_truth p he, fun S σ H Γ C Qm Q A l q => k S σ H Γ C _ _ A (fun r C1 v S1 H1 q1 rp1 l1 d1 => ?_) q⟩
  have main : ∀ {xs : List R}, seqOf C1 r = some xs → Qm (!xs.isEmpty) C1 → ∃ kk, TruV X.K v H1 kk ∧ Q kk H1 := fun {xs} hs q => by
    obtain ⟨a, vs, rfl, z, t⟩ := seq_of rp1 d1 hs
    have ee : (!vs.isEmpty) = !xs.isEmpty := by cases t <;> rfl
    refine ⟨!xs.isEmpty, ?_, l _ C1 S1 H1 q rp1 l1⟩
    rcases z with z | z
    · exact .inl ⟨vs, z, ee.symm⟩
    · exact .inr (.inl ⟨vs, z, ee.symm⟩)
  cases d1 with
  | non => exact ⟨false, rfl, l _ C1 S1 H1 q1 rp1 l1⟩
  | bl b => exact ⟨b, rfl, l _ C1 S1 H1 q1 rp1 l1⟩
  | int i => exact ⟨_, rfl, l _ C1 S1 H1 q1 rp1 l1⟩
  | str z => exact ⟨_, ⟨by rw [sizeLine_eq]; exact q1.1, rfl⟩, l _ C1 S1 H1 q1.2 rp1 l1⟩
  | tup _ _ => exact main rfl q1
  | lst _ _ => exact main rfl q1
  | scr _ _ => exact main rfl q1
  | @cell a kk h =>
    dsimp only at q1
    cases e : seqOf C1 (.cell kk) with
    | none => rw [e] at q1; exact q1.elim
    | some xs => rw [e] at q1; exact main e q1
  | exn _ _ => exact q1.elim

/-! ### enumerate, zip -/
theorem enum_len : ∀ (xs : List R) (n : Nat), (enumR n xs).length = xs.length
  | [], _ => rfl
  | _ :: xs, n => congrArg (· + 1) (enum_len xs (n + 1))
theorem enum_get : ∀ (xs : List R) (n i : Nat) (r : R), xs[i]? = some r → (enumR n xs)[i]? = some (.tup [.int ((n + i : Nat) : Int), r])
  | x :: xs, n, 0, r, h => by simp at h; subst h; simp [enumR]
  | x :: xs, n, i + 1, r, h => by
    have := enum_get xs (n + 1) i r (by simpa using h)
    simp only [enumR, List.getElem?_cons_succ, this]
    congr 5
    omega
theorem zip_get : ∀ (xs ys : List R) (i : Nat) (r s : R), xs[i]? = some r → ys[i]? = some s → (zipR xs ys)[i]? = some (.tup [r, s])
  | x :: xs, y :: ys, 0, r, s, h, h' => by simp at h h'; subst h h'; simp [zipR]
  | x :: xs, y :: ys, i + 1, r, s, h, h' => by
    simp only [zipR, List.getElem?_cons_succ]
    exact zip_get xs ys i r s (by simpa using h) (by simpa using h')
theorem zip_len : ∀ (xs ys : List R), (zipR xs ys).length = min xs.length ys.length
  | [], _ => by simp [zipR]
  | _ :: _, [] => by simp [zipR]
  | x :: xs, y :: ys => by simp only [zipR, List.length_cons, zip_len xs ys]; omega
theorem yl_enum {K : PySem.W.Frag} {S : Wd} {H : Hp} {a : Addr} {vs : List V} {xs : List R} (h : S.G a = some (.lst vs)) (t : DL K S vs xs) : Yl K S H (Ite K a) (enumR 0 xs) where
  go := fun i S' H' C rp l hi => by
    rw [enum_len] at hi
    exact ⟨vs, vs[i]'(by rw [t.length]; exact hi), SqL.of (rp.sub _ _ (l.g _ _ h)), List.getElem?_eq_getElem _⟩
  yl := fun i S' H' C x H2 rp l hi y => by
    obtain ⟨T, z, rfl, hT, rfl, y⟩ := y
    have e := y vs (SqL.of (rp.sub _ _ (l.g _ _ h)))
    obtain ⟨r, hr, d⟩ := t.get' e
    obtain ⟨rp2, l2⟩ := rp.freeze (o := .tup [.int (i : Nat), z]) hT
    refine ⟨_, _, enum_get xs 0 i r hr, rp2, l2, .tup (by exact upd_same) (.cons ?_ (.cons ((d.monoW l).mono l2) .nil))⟩
    rw [Nat.zero_add]
    exact .int _
  stop := fun i S' H' C rp l hi => by
    rw [enum_len] at hi
    exact ⟨vs, SqL.of (rp.sub _ _ (l.g _ _ h)), by rw [t.length]; exact hi⟩
theorem yl_zip {K : PySem.W.Frag} {S : Wd} {H : Hp} {a b : Addr} {vs us : List V} {xs ys : List R} (h : S.G a = some (.lst vs)) (t : DL K S vs xs) (h' : S.G b = some (.lst us)) (t' : DL K S us ys) : Yl K S H (Itz K a b) (zipR xs ys) where
  go := fun i S' H' C rp l hi => by
    rw [zip_len] at hi
    exact ⟨vs, us, vs[i]'(by rw [t.length]; omega), us[i]'(by rw [t'.length]; omega), SqL.of (rp.sub _ _ (l.g _ _ h)), SqL.of (rp.sub _ _ (l.g _ _ h')), List.getElem?_eq_getElem _, List.getElem?_eq_getElem _⟩
  yl := fun i S' H' C x H2 rp l hi y => by
    obtain ⟨T, z, z', rfl, hT, rfl, y, y'⟩ := y
    obtain ⟨r, hr, d⟩ := t.get' (y vs (SqL.of (rp.sub _ _ (l.g _ _ h))))
    obtain ⟨r', hr', d'⟩ := t'.get' (y' us (SqL.of (rp.sub _ _ (l.g _ _ h'))))
    obtain ⟨rp2, l2⟩ := rp.freeze (o := .tup [z, z']) hT
    exact ⟨_, _, zip_get xs ys i r r' hr hr', rp2, l2, .tup (by exact upd_same) (.cons ((d.monoW l).mono l2) (.cons ((d'.monoW l).mono l2) .nil))⟩
  stop := fun i S' H' C rp l hi => by
    rw [zip_len] at hi
    exact ⟨vs, us, SqL.of (rp.sub _ _ (l.g _ _ h)), SqL.of (rp.sub _ _ (l.g _ _ h')), by rw [t.length, t'.length]; omega⟩
theorem ji_enum {p tpos : Pos} {elts : List Expr} {kk : Nat} (hm : X.mg "enumerate" = none) (ha : JA X Z [e] am) (hg : Gl X "enumerate" := by rfl) (hs : starEach [e] X.env = [(false, eval e X.env)] := by rfl) : JI X Z (.Tuple elts kk tpos) (.Call (.Name "enumerate" p) [e] [] pos) (iEn am) := by
  obtain ⟨t, pa, k⟩ := ha
  refine ⟨_, pi_enum hg hm pa hs, fun S σ H Γ C Qm Q A l q => k S σ H Γ C _ _ A (fun r C1 v S1 H1 q1 rp1 l1 d1 => ?_) q⟩
  split at q1
  · cases d1 with
    | cons d t => cases t; cases d with
      | lst h t => exact ⟨_, _, rfl, SqL.of (rp1.sub _ _ h), l _ C1 S1 H1 _ q1 rp1 l1 (yl_enum h t)⟩
  · exact q1.elim
theorem ji_zip {p tpos : Pos} {elts : List Expr} {kk : Nat} (hm : X.mg "zip" = none) (ha : JA X Z [e, e2] am) (hg : Gl X "zip" := by rfl) (hs : starEach [e, e2] X.env = (false, eval e X.env) :: starEach [e2] X.env := by rfl) (hpl : (backTo pos (starEach [e2] X.env)).any (·.1) = false := by rfl) :
    JI X Z (.Tuple elts kk tpos) (.Call (.Name "zip" p) [e, e2] [] pos) (iZp am) := by
  obtain ⟨t, pa, k⟩ := ha
  refine ⟨_, pi_zip hg hm pa hs hpl, fun S σ H Γ C Qm Q A l q => k S σ H Γ C _ _ A (fun r C1 v S1 H1 q1 rp1 l1 d1 => ?_) q⟩
  split at q1
  · cases d1 with
    | cons d t => cases t with
      | cons d2 t => cases t; cases d with
        | lst h t => cases d2 with
          | lst h' t' => exact ⟨_, _, _, _, rfl, SqL.of (rp1.sub _ _ h), SqL.of (rp1.sub _ _ h'), l _ C1 S1 H1 _ q1 rp1 l1 (yl_zip h t h' t')⟩
  · exact q1.elim
end
end NB

set_option Elab.async false
set_option linter.all false
set_option maxRecDepth 100000
set_option maxHeartbeats 1000000
namespace NB
open PySem PySem.Spec L2
open PyProof.Rows (envOfC)
section
variable {X : Cx} {Z : Zx} {a b c e e2 o i tg iter elt : Expr} {es ifs : List Expr} {ma mb mc m m2 mo mi : ME} {mt mu : MT} {am : MA} {mg : MG} {mgs : MGs} {it : MI} {ms : MS} {pos apos cpos : Pos} {sts : List Stmt} {st : Stmt}
theorem je_revL (cell : Bool) {k : Nat} {p1 p2 p3 : Pos} (he : JE X Z e m) : JE X Z (.Subscript e (.Slice none none (some (.UnaryOp .USub (.Constant (.int 1) k p1) p2)) p3) pos) (mRevL cell m) := by
  obtain ⟨t, p, k⟩ := he
  refine ⟨_, pe_revL p, fun S σ H Γ C Qm Q A l q => k S σ H Γ C _ _ A (fun r C1 v S1 H1 q1 rp1 l1 d1 => ?_) q⟩
  cases e : lstOf C1 r with
  | none => rw [e] at q1; exact q1.elim
  | some xs =>
    rw [e] at q1
    obtain ⟨a, vs, rfl, z, t⟩ := lst_of rp1 d1 e
    exact ⟨a, vs, rfl, z, fun p hp => new_lst rp1 (l.go l1) t.reverse hp q1⟩
theorem js_par3 (n k j : Nat) {x y z : Str} {px py pz pt pt2 : Pos} {kt k2 : Nat} (hc : X.calm = true) (hN : X.N.Nodup) (ha : JA X Z [a, b, c] am) (hi : X.N[n]? = some x := by rfl) (hj : X.N[k]? = some y := by rfl) (hl : X.N[j]? = some z := by rfl) (h1 : n ≠ k := by decide) (h2 : n ≠ j := by decide) (h3 : k ≠ j := by decide)
    (hx : X.env.scope.names.lookup x = some .local := by rfl) (hy : X.env.scope.names.lookup y = some .local := by rfl) (hz : X.env.scope.names.lookup z = some .local := by rfl)
    (hsw : swappedStores [.Tuple [.Name x px, .Name y py, .Name z pz] kt pt] (.Tuple [a, b, c] k2 pt2) X.env = pure (some [x, y, z]) := by rfl)
    (hs : swapsWithSole [.Tuple [.Name x px, .Name y py, .Name z pz] kt pt] (.Tuple [a, b, c] k2 pt2) pos.line X.env = pure false := by rfl) :
    JS X Z (.Assign [.Tuple [.Name x px, .Name y py, .Name z pz] kt pt] (.Tuple [a, b, c] k2 pt2) pos) (mPar3 n k j am) := by
  obtain ⟨t, p, kk⟩ := ha
  refine ⟨_, ps_par3 hc hN hi hj hl h1 h2 h3 hx hy hz p hsw hs, fun S σ H Γ C Dm Ds A l q => kk S σ H Γ C _ _ A (fun r C1 v S1 H1 q1 rp1 l1 d1 => ?_) q⟩
  cases d1 with
  | nil => exact q1.elim
  | cons d1 t1 => cases t1 with
    | nil => exact q1.elim
    | cons d2 t2 => cases t2 with
      | nil => exact q1.elim
      | cons d3 t3 => cases t3 with
        | nil => exact ⟨_, _, _, rfl, l.nx _ C1 _ S1 H1 q1 rp1 l1 ((((A.sg.mono l1).set n d1).set k d2).set j d3)⟩
        | cons _ _ => exact q1.elim
/-- o[i] = e of a cell -/
theorem set_orD (hu : X.A.units + 1 < cLine) : PSet X (fun o i v H Q => rSetL o i v H Q ∨ rSetD o i v H Q) := by
  intro pins s σ H o i v ov iv u Q I ro ri rv h
  rcases h with h | h
  · exact set_list pins s σ H o i v ov iv u Q I ro ri rv h
  · exact set_dict hu pins s σ H o i v ov iv u Q I ro ri rv h
theorem put_dl {κ : Type} [DecidableEq κ] {K : PySem.W.Frag} {S : Wd} {v : V} {r : R} (d : D K S v r) (k : κ) {kv : List (κ × V)} {kvs : List (κ × R)} (e : kv.map (·.1) = kvs.map (·.1)) (t : DL K S (kv.map (·.2)) (kvs.map (·.2))) :
    (putK kv k v).map (·.1) = (putD kvs k r).map (·.1) ∧ DL K S ((putK kv k v).map (·.2)) ((putD kvs k r).map (·.2)) := by
  have ha : (kv.any fun x => decide (x.1 = k)) = (kvs.any fun x => decide (x.1 = k)) := by
    have : ∀ {α : Type} (l : List (κ × α)), (l.any fun x => decide (x.1 = k)) = (l.map (·.1)).any fun y => decide (y = k) := fun l => by rw [List.any_map]; rfl
    rw [this, this, e]
  unfold putK putD
  rw [ha]
  split
  · have go : ∀ {kv : List (κ × V)} {kvs : List (κ × R)}, kv.map (·.1) = kvs.map (·.1) → DL K S (kv.map (·.2)) (kvs.map (·.2)) →
        (kv.map (fun x => if x.1 = k then (x.1, v) else x)).map (·.1) = (kvs.map (fun x => if x.1 = k then (x.1, r) else x)).map (·.1) ∧
        DL K S ((kv.map (fun x => if x.1 = k then (x.1, v) else x)).map (·.2)) ((kvs.map (fun x => if x.1 = k then (x.1, r) else x)).map (·.2)) := by
      intro kv
      induction kv with
      | nil => intro kvs e t; cases kvs with
        | nil => exact ⟨rfl, .nil⟩
        | cons _ _ => cases e
      | cons p kv ih => intro kvs e t; cases kvs with
        | nil => cases e
        | cons q kvs =>
          simp only [List.map_cons, List.cons.injEq] at e
          cases t with
          | cons t1 t2 =>
            obtain ⟨a, b⟩ := ih e.2 t2
            simp only [List.map_cons, List.map_map] at a b ⊢
            rw [e.1]
            by_cases hk : q.1 = k
            · simp only [hk, if_true, List.cons.injEq, true_and]
              exact ⟨a, .cons d b⟩
            · simp only [hk, if_false, e.1, List.cons.injEq, true_and]
              exact ⟨a, .cons t1 b⟩
    exact go e t
  · simp only [List.map_append, List.map_cons, List.map_nil]
    exact ⟨by rw [e], t.append (.cons d .nil)⟩
theorem jg_sub (hu : X.A.units + 64 < cLine) (ho : JE X Z o mo) (hi : JE X Z i mi) (ha : ∀ v, assign (.Subscript o i pos) X.env v = (do
      let ov ← holding [v] (eval o X.env)
      let iv ← holding [v, ov] (eval i X.env)
      standAt pos
      holding [v, ov, iv] (setItem ov iv v)
      release [v, ov, iv] []) := by intro _; rfl) : JG X Z (.Subscript o i pos) (gIx mo mi) := by
  obtain ⟨t, p, k⟩ := ho
  obtain ⟨u, pu, ku⟩ := hi
  refine ⟨_, pg_sub p pu (set_orD (by omega)) ha, fun S σ H Γ C v r Qm Q A d l q => ?_⟩
  refine k S σ H Γ C _ _ A (fun x C1 y S1 H1 q1 rp1 l1 d1 => ?_) q
  refine ku S1 σ H1 Γ C1 _ _ (A.go l1 rp1) (fun n C2 w S2 H2 q2 rp2 l2 d2 => ?_) q1
  have l12 := l1.trans l2
  cases d1 with
  | @cell aa kk hp => cases d2 with
    | int n =>
      have hp2 := l2.ps kk aa hp
      obtain ⟨ys, e, q2⟩ := lstP_ex q2
      obtain ⟨j, ej, q2⟩ := optP_ex q2
      obtain ⟨us, z, t⟩ := cell_at rp2 hp2 e
      obtain ⟨rp3, l3⟩ := rp2.write (o := .lst (us.set j v)) (c := .lst (ys.set j r)) hp2 e (fun z => by cases z) ⟨_, upd_same, t.set j (d.mono l12)⟩
      exact .inl ⟨aa, us, n, j, rfl, rfl, z, by rw [t.length]; exact ej, l _ _ _ _ _ q2 rp3 (l12.trans l3) (A.sg.mono (l12.trans l3))⟩
    | str z =>
      have hp2 := l2.ps kk aa hp
      obtain ⟨kvs, e, q2⟩ := dctP_ex q2
      obtain ⟨b1, q2⟩ := q2
      obtain ⟨kv, z1, z2, z3⟩ := rp2.at_ kk aa _ hp2 e
      obtain ⟨c1, c2⟩ := put_dl (d.mono l12) (.inr z) z2 z3
      have hlen : kv.length = kvs.length := by have := congrArg List.length z2; simpa using this
      obtain ⟨rp3, l3⟩ := rp2.write (o := .dK (putK kv (.inr z) v)) (c := .dct (putD kvs (.inr z) r)) hp2 e (fun z => by cases z) ⟨_, upd_same, c1, by
        have : Le S2 H2 S2 (upd H2 aa (.dK (putK kv (.inr z) v))) := ⟨fun _ _ h => h, fun _ _ h => h, fun b u h hb => by rw [upd_ne (fun e => hb (by rw [e]; exact List.mem_of_getElem? hp2))]; exact h, fun _ h => .inl h, fun _ _ h => .inl h⟩
        exact c2.mono this⟩
      exact .inr ⟨aa, _, rfl, (show DPut H2 aa (kV (.inr z)) v _ from DPut.k z1 (by rw [sizeLine_eq]; omega)), l _ _ _ _ _ q2 rp3 (l12.trans l3) (A.sg.mono (l12.trans l3))⟩
    | _ => exact q2.elim
  | _ => cases d2 <;> exact q2.elim

/-! ### another way to see the same -/
theorem js_ice (n : Nat) (h : JS X Z st ms) : JS X Z st (mIce n ms) := by
  obtain ⟨t, p, k⟩ := h
  refine ⟨t, p, fun S σ H Γ C Dm Ds A l q => ?_⟩
  unfold mIce at q
  split at q
  · rename_i kk eg
    obtain ⟨xs, ec, q⟩ := lstP_ex q
    · obtain ⟨v, hv, dv⟩ := A.sg.at_ n _ eg
      cases dv with
      | @cell a _ hp =>
        obtain ⟨vs, z, t⟩ := cell_at A.rp hp ec
        obtain ⟨rp2, l2⟩ := A.rp.ice hp ec z
        refine k _ σ H _ _ Dm Ds ⟨rp2, ⟨by rw [List.length_set]; exact A.sg.len, fun j r hj => ?_⟩, A.le.trans l2⟩ (l.go l2) q
        rw [List.getElem?_set] at hj
        split at hj
        · rename_i e
          subst e
          split at hj
          · cases hj
            exact ⟨_, hv, .lst (by exact upd_same) (t.mono l2)⟩
          · cases hj
        · obtain ⟨w, h1, h2⟩ := A.sg.at_ j r hj
          exact ⟨w, h1, h2.mono l2⟩
  · exact q.elim
theorem okG_at {n : Nat} : ∀ {Γ : Gm} {i : Nat} {r : R}, okG n Γ → Γ[i]? = some (some r) → okR n r
  | none :: Γ, 0, _, _, h => by cases h
  | some s :: Γ, 0, _, o, h => by cases h; exact o.1
  | none :: Γ, i + 1, _, o, h => okG_at (Γ := Γ) (i := i) o (by simpa using h)
  | some s :: Γ, i + 1, _, o, h => okG_at (Γ := Γ) (i := i) o.2 (by simpa using h)
theorem subG_at : ∀ {a b : Gm} {i : Nat} {r : R}, subG a b → a[i]? = some (some r) → b[i]? = some (some r)
  | none :: a, s :: b, 0, _, _, h => by cases h
  | some s :: a, t :: b, 0, _, o, h => by cases h; rw [o.1]; rfl
  | none :: a, s :: b, i + 1, _, o, h => by simpa using subG_at (a := a) (b := b) (i := i) o (by simpa using h)
  | some s :: a, t :: b, i + 1, _, o, h => by simpa using subG_at (a := a) (b := b) (i := i) o.2 (by simpa using h)
theorem subG_len : ∀ {a b : Gm}, subG a b → a.length = b.length
  | [], [], _ => rfl
  | none :: a, _ :: b, h => congrArg (· + 1) (subG_len (a := a) (b := b) h)
  | some _ :: a, _ :: b, h => congrArg (· + 1) (subG_len (a := a) (b := b) h.2)
theorem jss_unb (n : Nat) (h : JSs X Z sts ms) : JSs X Z sts (mUnb n ms) := by
  obtain ⟨t, p, k⟩ := h
  refine ⟨t, p, fun S σ H Γ C Dm Ds A l q => ?_⟩
  unfold mUnb at q
  split at q
  · rename_i kk eg
    split at q
    · rename_i nn ec
      obtain ⟨v, hv, dv⟩ := A.sg.at_ n _ eg
      cases dv with
      | @cell a _ hp =>
        obtain ⟨a0, b0, c0, d0, z, h1, h2, h3, h4, h5⟩ := cell_at A.rp hp ec
        have q := q a0 b0 c0 d0 ⟨h1, h2, h3, h4, h5⟩
        have hk : kk < C.length := (List.getElem?_eq_some_iff.mp ec).1
        -- the same heap, the box seen as a list
        have view : ∀ {S' : Wd} {H' : Hp} {C' : Cs} {c1 c2 : Ct}, Rep X.K S' H' C' → C'[kk]? = some c1 → c1 ≠ .dead → (∀ pp, S'.ps[kk]? = some pp → CtOk X.K S' H' pp c2) → Rep X.K S' H' (C'.set kk c2) := by
          intro S' H' C' c1 c2 rp h0 hd hcc
          refine ⟨rp.sub, by rw [List.length_set]; exact rp.len, rp.nd, fun j qq c' e1 e2 hd2 => ?_, fun j qq c' e1 e2 => ?_⟩
          · by_cases ej : j = kk
            · subst ej; exact rp.off _ qq c1 e1 h0 hd
            · rw [List.getElem?_set_ne (Ne.symm ej)] at e2
              exact rp.off j qq c' e1 e2 hd2
          · by_cases ej : j = kk
            · subst ej
              rw [List.getElem?_set_self (List.getElem?_eq_some_iff.mp h0).1] at e2
              cases e2
              exact hcc qq e1
            · rw [List.getElem?_set_ne (Ne.symm ej)] at e2
              exact rp.at_ j qq c' e1 e2
        have rp2 : Rep X.K S H (C.set kk (.lst [.int a0, .bl b0, .int c0, .int d0])) := view A.rp ec (fun z => by cases z) fun pp hpp => by
          rw [hp] at hpp; cases hpp
          exact ⟨_, z, .cons (.int _) (.cons (.bl _) (.cons (.int _) (.cons (.int _) .nil)))⟩
        refine k S σ H Γ _ { nx := fun _ _ => False, rt := fun r C' => ∃ n', boxed kk n' C' ∧ Dm.rt r (C'.set kk (.box n')) } Ds ⟨rp2, A.sg, A.le⟩ ⟨fun _ _ _ _ _ z _ _ _ => z.elim, fun r C' v' S' H' z rp' l' d' => ?_, fun _ _ _ _ _ z _ _ _ => z.elim, fun _ _ _ _ _ z _ _ _ => z.elim⟩ q
        obtain ⟨n', ⟨a1, b1, c1, d1, ez, hb⟩, z⟩ := z
        refine l.rt r _ v' S' H' z (view rp' ez (fun z => by cases z) fun pp hpp => ?_) l' d'
        obtain ⟨us, zz, t⟩ := cell_at rp' hpp ez
        cases t with
        | cons x1 t => cases t with
          | cons x2 t => cases t with
            | cons x3 t => cases t with
              | cons x4 t => cases t; cases x1; cases x2; cases x3; cases x4; exact ⟨_, _, _, _, zz, hb⟩
    · exact q.elim
  · exact q.elim
theorem jss_box (n : Nat) (h : JSs X Z sts ms) : JSs X Z sts (mBox n ms) := by
  obtain ⟨t, p, k⟩ := h
  refine ⟨t, p, fun S σ H Γ C Dm Ds A l q => ?_⟩
  refine k S σ H Γ _ { nx := fun _ _ => False, rt := fun r C' => match r with
  | .cell k => boxed k n C' ∧ Dm.rt r (C'.set k (.box n))
  | _ => False } Ds A ⟨fun _ _ _ _ _ z _ _ _ => z.elim, fun r C' v' S' H' z rp' l' d' => ?_, fun _ _ _ _ _ z _ _ _ => z.elim, fun _ _ _ _ _ z _ _ _ => z.elim⟩ q
  dsimp only at z
  split at z
  · rename_i kk
    obtain ⟨⟨a1, b1, c1, d1, ez, hb⟩, z⟩ := z
    refine l.rt _ _ v' S' H' z ?_ l' d'
    refine ⟨rp'.sub, by rw [List.length_set]; exact rp'.len, rp'.nd, fun j q c' e1 e2 hd2 => ?_, fun j q c' e1 e2 => ?_⟩
    · by_cases ej : j = kk
      · subst ej; exact rp'.off j q _ e1 ez (fun z => by cases z)
      · rw [List.getElem?_set_ne (Ne.symm ej)] at e2
        exact rp'.off j q c' e1 e2 hd2
    · by_cases ej : j = kk
      · subst ej
        rw [List.getElem?_set_self (List.getElem?_eq_some_iff.mp ez).1] at e2
        cases e2
        obtain ⟨us, zz, t⟩ := cell_at rp' e1 ez
        cases t with
        | cons x1 t => cases t with
          | cons x2 t => cases t with
            | cons x3 t => cases t with
              | cons x4 t => cases t; cases x1; cases x2; cases x3; cases x4; exact ⟨_, _, _, _, zz, hb⟩
      · rw [List.getElem?_set_ne (Ne.symm ej)] at e2
        exact rp'.at_ j q c' e1 e2
  · exact z.elim
end

/-! ### a loop that lets its cells go -/
section
variable {X : Cx} {Z : Zx} {tg iter : Expr} {it : MI} {mg : MG} {ms : MS} {sts : List Stmt} {pos : Pos}
theorem cutSG {K : PySem.W.Frag} {S : Wd} {σ : L2.St} {Γ Γ' : Gm} {n : Nat} (g : SG K S σ Γ) (h : subG Γ' Γ) (o : okG n Γ') : SG K { S with ps := S.ps.take n } σ Γ' :=
  ⟨(subG_len h).trans g.len, fun i r e => by
    obtain ⟨v, h1, h2⟩ := g.at_ i r (subG_at h e)
    exact ⟨v, h1, cutD (okG_at o e) h2⟩⟩
theorem js_forK (hp : PassesOwn (model X.prog X.w) X.A X.env X.xe) (hc : X.calm = true) (hi : JI X Z tg iter it) (hg : JG X Z tg mg) (hb : JSs X Z sts ms) (hs : ∀ x, foldedSetIterable iter X.env x = pure x := by intro _; rfl) : JS X Z (.For tg iter sts [] pos) (mForK it mg ms) := by
  obtain ⟨wi, pi, ki⟩ := hi
  obtain ⟨g, pg, kg⟩ := hg
  obtain ⟨t, p, k⟩ := hb
  refine ⟨_, ps_for hp hc pi pg p hs, fun S σ H Γ C Dm Ds A l q => ki S σ H Γ C _ _ A (fun xs C1 S1 H1 J q1 rp1 l1 y => ?_) q⟩
  refine ⟨fun i m σ' H' => m = xs.length - i ∧ ∃ S' Γ' C', At X.K Z S' σ' H' Γ' C' ∧ Le S1 H1 S' H' ∧ forK C1.length mg ms Dm (xs.drop i) Γ' C', ⟨xs.length, by simp, S1, Γ, C1, A.go l1 rp1, Le.refl _ _, q1⟩, ?_⟩
  rintro i n σ2 H2 ⟨rfl, S2, Γ2, C2, A2, l2, w⟩
  by_cases hi : i < xs.length
  · refine .inr ⟨y.go i S2 H2 C2 A2.rp l2.w hi, fun σ' H' => ∃ S' Γ' C', At X.K Z S' σ' H' Γ' C' ∧ Le S1 H1 S' H' ∧ forK C1.length mg ms Dm (xs.drop (i + 1)) Γ' C', fun σ' H' h => ⟨xs.length - (i + 1), by omega, rfl, h⟩, fun x H3 hy => ?_⟩
    obtain ⟨S3, r, hr, rp3, l3, d3⟩ := y.yl i S2 H2 C2 x H3 A2.rp l2.w hi hy
    have e : xs.drop i = r :: xs.drop (i + 1) := by
      obtain ⟨h1, h2⟩ := List.getElem?_eq_some_iff.mp hr
      rw [← h2]
      exact List.drop_eq_getElem_cons h1
    rw [e] at w
    refine kg S3 σ2 H3 Γ2 C2 x r _ _ (A2.go l3 rp3) d3 (fun Γ4 C4 σ4 S4 H4 q4 rp4 l4 g4 => ?_) w
    have l14 := l2.trans (l3.trans l4)
    have cut : ∀ {Γ5 C5 σ5 S5 H5}, cutK C1.length (forK C1.length mg ms Dm (xs.drop (i + 1))) Γ5 C5 → Rep X.K S5 H5 C5 → Le S4 H4 S5 H5 → SG X.K S5 σ5 Γ5 → ∃ S' Γ' C', At X.K Z S' σ5 H5 Γ' C' ∧ Le S1 H1 S' H5 ∧ forK C1.length mg ms Dm (xs.drop (i + 1)) Γ' C' := by
      intro Γ5 C5 σ5 S5 H5 q5 rp5 l5 g5
      obtain ⟨nn, Γ6, h1, h2, h3, h4, h5⟩ := q5
      have lx : Le S1 H1 { S5 with ps := S5.ps.take nn } H5 := cutLe (l14.trans l5) (by rw [rp1.len]; exact h1)
      exact ⟨_, Γ6, _, ⟨cutRep rp5 h4, cutSG g5 h2 h3, (A.le.trans l1).trans lx⟩, lx, h5⟩
    exact k S4 σ4 H4 Γ4 C4 { Dm with nx := cutK C1.length (forK C1.length mg ms Dm (xs.drop (i + 1))), ct := cutK C1.length (forK C1.length mg ms Dm (xs.drop (i + 1))), bk := Dm.nx } _ (A2.to (l3.trans l4) rp4 g4)
      ⟨fun Γ5 C5 σ5 S5 H5 q5 rp5 l5 g5 => cut q5 rp5 l5 g5, (l.go (l1.trans l14)).rt, (l.go (l1.trans l14)).nx, fun Γ5 C5 σ5 S5 H5 q5 rp5 l5 g5 => cut q5 rp5 l5 g5⟩ q4
  · refine .inl ⟨y.stop i S2 H2 C2 A2.rp l2.w (by omega), ?_⟩
    rw [List.drop_eq_nil_of_le (by omega)] at w
    exact (l.go (l1.trans l2)).nx Γ2 C2 σ2 S2 H2 w A2.rp (Le.refl _ _) A2.sg
theorem jo_rep (cell : Bool) : JOp X Z (binaryOp .Mult) (oRep cell) := ⟨_, op_rep, fun S H C x y rx ry Qm Q rp dx dy k q => by
  unfold oRep at q
  split at q
  · exact q.elim
  · rename_i kk n1
    obtain ⟨xs, e1, q⟩ := optP_ex q
    · obtain ⟨a, vs, rfl, h1, t1⟩ := lst_ofH rp dx e1 n1
      cases dy
      have rl : ∀ n : Nat, DL X.K S (List.replicate n vs).flatten (List.replicate n xs).flatten := fun n => by
        induction n with
        | zero => exact .nil
        | succ n ih => rw [List.replicate_succ, List.replicate_succ, List.flatten_cons, List.flatten_cons]; exact t1.append ih
      exact ⟨a, kk, vs, rfl, rfl, h1, q.1.1, q.1.2.1, by rw [t1.length, sizeLine_eq]; exact q.1.2.2, fun p hp => new_lst rp k (rl _) hp q.2⟩
  · exact q.elim⟩
theorem tuple_mul1 (l : Addr) (items : Array Value) (n : Nat) (dd : Option Addr) (sl : Array (Option Value)) (u : Tok) :
    Meets (Builtin.«tuple.__mul__» ⟨[.ref l, .int 1 u], []⟩) (fun _ R s => s.heap.get? l = some { cls := .type "tuple", dict := dd, data := .seq items n, slots := sl } ∧ R (.ok (.ret (.ref l))) s) :=
  .of_wp fun prog w A R s h => by
    obtain ⟨hp, g, d, tk, os⟩ := s
    obtain ⟨hl, h⟩ := h
    have f1 := AutoSeq1.idx_int
    have c1 : (items.isEmpty || (1 : Int) == 1) = true := by simp
    have c0 : (decide ((1 : Int) < -(2 ^ 63)) || decide ((1 : Int) ≥ 2 ^ 63)) = false := by decide
    wp_walk using wpAny_loadPart' hl
    repeat (first
      | (refine wpAny_ite_false (decide_eq_false (by rw [c0]; exact Bool.false_ne_true)) ?_; wp_walk using wpAny_loadPart' hl)
      | (refine wpAny_ite_true (decide_eq_true c1) ?_; wp_walk using wpAny_loadPart' hl))
    exact ⟨_, rfl, h⟩
def rRep1 (K : PySem.W.Frag) : R2 := fun x y H Q => ∃ l xs, x = .ref l ∧ y = .int 1 ∧ SqT K H l xs ∧ Q (.ref l) H
theorem op_rep1 {X : Cx} : OpR X (binaryOp .Mult) (rRep1 X.K) := by
  intro pins s σ H x y v u Q I rx ry h
  obtain ⟨l, xs, rfl, rfl, hT, q⟩ := h
  cases rx
  obtain ⟨t, rfl⟩ := ry
  obtain ⟨its, r, ⟨⟨cls, dd, data, sl⟩, ho, hc, n, hd⟩, hs⟩ := I.tuple hT
  simp only at hc hd
  subst hc hd
  refine wpAny_binaryOp_repeat_ref (T := "tuple") (U := "int") (by decide) ⟨_, ho, rfl⟩ (fun s' => typeIs_int s' 1 t) noFill_tuple_mul PySem.F.fills_int_mul PySem.F.slot_int_rmul repeat_tuple PySem.F.slot_int_index.lookup
    (call_meets PySem.F.slot_int_rmul (typeIs_int s 1 t) PySem.F.entry_int_rmul (PySem.F.args_int_rmul_2 _ _) (int_rmul_tuple 1 t l its.toArray n dd sl)
      ⟨ho, rfl, ⟨_, ho, rfl⟩, call_meets PySem.F.slot_tuple_mul ⟨_, ho, rfl⟩ PySem.F.entry_tuple_mul (PySem.F.args_tuple_mul_2 _ _) (tuple_mul1 l its.toArray n dd sl t) ⟨ho, ?_⟩⟩)
  exact ⟨.ref l, H, I, rfl, q⟩
/-! a tuple, no times -/
theorem tuple_mul0 (l : Addr) (items : Array Value) (n : Nat) (dd : Option Addr) (sl : Array (Option Value)) (u : Tok) (hi : items.isEmpty = false) :
    Meets (Builtin.«tuple.__mul__» ⟨[.ref l, .int 0 u], []⟩) (fun _ R s => s.heap.get? l = some { cls := .type "tuple", dict := dd, data := .seq items n, slots := sl } ∧
      R (.ok (.ret (Value.ref s.heap.objs.size))) { s with heap := s.heap.push { cls := Value.type "tuple", data := Data.seq #[] }, toks := s.toks }) :=
  .of_wp fun prog w A R s h => by
    obtain ⟨hp, g, d, tk, os⟩ := s
    obtain ⟨hl, h⟩ := h
    have f1 := AutoSeq1.idx_int
    have c0 : (decide ((0 : Int) < -(2 ^ 63)) || decide ((0 : Int) ≥ 2 ^ 63)) = false := by decide
    have c1 : (items.isEmpty || (0 : Int) == 1) = false := by rw [hi]; rfl
    have c2 : (decide ((0 : Int) ≤ 0) || items.isEmpty) = true := by simp
    wp_walk using wpAny_loadPart' hl
    repeat (first
      | (refine wpAny_ite_false (decide_eq_false (by rw [c0]; exact Bool.false_ne_true)) ?_; wp_walk using wpAny_loadPart' hl)
      | (refine wpAny_ite_false (decide_eq_false (by rw [c1]; exact Bool.false_ne_true)) ?_; wp_walk using wpAny_loadPart' hl)
      | (refine wpAny_ite_true (decide_eq_true c2) ?_; wp_walk using wpAny_loadPart' hl))
    exact ⟨_, rfl, h⟩
def rRep0 (K : PySem.W.Frag) : R2 := fun x y H Q => ∃ l xs, x = .ref l ∧ y = .int 0 ∧ SqT K H l xs ∧ xs ≠ [] ∧ ∀ p, H p = none → Q (.ref p) (upd H p (.tup []))
theorem op_rep0 {X : Cx} : OpR X (binaryOp .Mult) (rRep0 X.K) := by
  intro pins s σ H x y v u Q I rx ry h
  obtain ⟨l, xs, rfl, rfl, hT, hne, q⟩ := h
  cases rx
  obtain ⟨t, rfl⟩ := ry
  obtain ⟨its, r, ⟨⟨cls, dd, data, sl⟩, ho, hc, n, hd⟩, hs⟩ := I.tuple hT
  simp only at hc hd
  subst hc hd
  have hle : its.length = xs.length := r.length.symm
  have hn : its ≠ [] := fun e => hne (by
    rw [e] at hle
    exact List.eq_nil_of_length_eq_zero hle.symm)
  have hi : its.toArray.isEmpty = false := by
    cases its with
    | nil => exact absurd rfl hn
    | cons a b => rfl
  refine wpAny_binaryOp_repeat_ref (T := "tuple") (U := "int") (by decide) ⟨_, ho, rfl⟩ (fun s' => typeIs_int s' 0 t) noFill_tuple_mul PySem.F.fills_int_mul PySem.F.slot_int_rmul repeat_tuple PySem.F.slot_int_index.lookup
    (call_meets PySem.F.slot_int_rmul (typeIs_int s 0 t) PySem.F.entry_int_rmul (PySem.F.args_int_rmul_2 _ _) (int_rmul_tuple 0 t l its.toArray n dd sl)
      ⟨ho, rfl, ⟨_, ho, rfl⟩, call_meets PySem.F.slot_tuple_mul ⟨_, ho, rfl⟩ PySem.F.entry_tuple_mul (PySem.F.args_tuple_mul_2 _ _) (tuple_mul0 l its.toArray n dd sl t hi) ⟨ho, ?_⟩⟩)
  refine ⟨.ref s.heap.objs.size, _, I.laid (t' := s.toks) (o := .tup []) (fun b ob q => Heap.get?_push_of_some _ q) (Nat.le_refl _) ?_, rfl, q _ (I.hok.fresh (Nat.le_refl _))⟩
  exact ⟨Nat.zero_le _, [], .nil, PyProof.Rows.IsTup.new _ _⟩
theorem jo_repT : JOp X Z (binaryOp .Mult) (fun x y C Q => match x, y with
  | .tup xs, .int k => (xs ≠ [] ∧ 0 ≤ k ∧ k ≤ 1000 ∧ xs.length ≤ 1000) ∧ Q (.tup (List.replicate k.toNat xs).flatten) C
  | _, _ => False) := ⟨_, OpR.or op_rep0 (OpR.or op_repT op_rep1), fun S H C x y rx ry Qm Q rp dx dy k q => by
  cases dx with
  | tup h t => cases dy with
    | int i =>
      obtain ⟨⟨n1, n2, n3, n4⟩, q⟩ := q
      have rl : ∀ n : Nat, DL X.K S (List.replicate n _).flatten (List.replicate n _).flatten := fun n => by
        induction n with
        | zero => exact .nil
        | succ n ih => rw [List.replicate_succ, List.replicate_succ, List.flatten_cons, List.flatten_cons]; exact t.append ih
      rcases (by omega : i = 0 ∨ i = 1 ∨ 2 ≤ i) with rfl | rfl | n2
      · refine .inl ⟨_, _, rfl, rfl, SqT.of (rp.sub _ _ h), fun z => n1 ?_, fun p hp => ?_⟩
        · rw [z] at t; cases t; rfl
        · obtain ⟨rp2, l2⟩ := rp.freeze (o := .tup _) hp
          exact k _ C _ _ _ q rp2 l2 (.tup (by exact upd_same) .nil)
      · refine .inr (.inr ⟨_, _, rfl, rfl, SqT.of (rp.sub _ _ h), ?_⟩)
        have e : ∀ l : List R, (List.replicate (Int.toNat 1) l).flatten = l := fun l => List.append_nil l
        rw [e] at q
        exact k _ C _ _ _ q rp (Le.refl _ _) (.tup h t)
      · refine .inr (.inl ⟨_, _, _, rfl, rfl, SqT.of (rp.sub _ _ h), fun z => n1 ?_, n2, n3, by rw [t.length]; exact n4, fun p hp => ?_⟩)
        · rw [z] at t; cases t; rfl
        · obtain ⟨rp2, l2⟩ := rp.freeze (o := .tup _) hp
          exact k _ C _ _ _ q rp2 l2 (.tup (by exact upd_same) ((rl _).mono l2))
    | _ => exact q.elim
  | _ => exact q.elim⟩
theorem jo_times (cell : Bool) : JOp X Z (binaryOp .Mult) (oTimes cell) := by
  obtain ⟨r, h1, h2⟩ := JOp.or (X := X) (Z := Z) jo_mul (JOp.or jo_repT (jo_rep cell))
  refine ⟨r, h1, fun S H C x y rx ry Qm Q rp dx dy k q => h2 S H C x y rx ry Qm Q rp dx dy k ?_⟩
  unfold oTimes at q
  split at q
  · exact .inl q
  · exact .inr (.inl q)
  · exact .inr (.inr q)
theorem jo_str : JOp X Z (binaryOp .Add) (fun x y C Q => match x, y with
  | .str i, .str j => i.length + j.length ≤ 16777216 ∧ Q (.str (i ++ j)) C
  | _, _ => False) := ⟨_, op_add_str, fun S H C x y rx ry Qm Q rp dx dy k q => by
  cases dx <;> cases dy <;> first | exact q.elim | exact ⟨_, _, rfl, rfl, by rw [sizeLine_eq]; exact q.1, k _ _ _ _ _ q.2 rp (Le.refl _ _) (.str _)⟩⟩
theorem jo_tup : JOp X Z (binaryOp .Add) (fun x y C Q => match x, y with
  | .tup xs, .tup ys => xs.length + ys.length ≤ 16777216 ∧ Q (.tup (xs ++ ys)) C
  | _, _ => False) := ⟨_, op_catA, fun S H C x y rx ry Qm Q rp dx dy k q => by
  cases dx with
  | tup h t => cases dy with
    | tup h' t' =>
      obtain ⟨n2, q⟩ := q
      refine ⟨_, _, _, _, rfl, rfl, SqT.of (rp.sub _ _ h), SqT.of (rp.sub _ _ h'), by rw [t.length, t'.length, sizeLine_eq]; exact n2, fun z => ?_, fun _ z => ?_, fun _ z p hp => ?_⟩
      · rw [z] at t
        cases t
        exact k _ C _ S H q rp (Le.refl _ _) (.tup h' t')
      · rw [z] at t'
        cases t'
        rw [List.append_nil] at q
        exact k _ C _ S H q rp (Le.refl _ _) (.tup h t)
      · obtain ⟨rp2, l2⟩ := rp.freeze (o := .tup _) hp
        exact k _ C _ _ _ q rp2 l2 (.tup (by exact upd_same) ((t.append t').mono l2))
    | _ => exact q.elim
  | _ => exact q.elim⟩
theorem jo_plus (cell : Bool) : JOp X Z (binaryOp .Add) (oPlus cell) := by
  obtain ⟨r, h1, h2⟩ := JOp.or (X := X) (Z := Z) jo_add (JOp.or jo_str (JOp.or jo_tup (jo_cat cell)))
  refine ⟨r, h1, fun S H C x y rx ry Qm Q rp dx dy k q => h2 S H C x y rx ry Qm Q rp dx dy k ?_⟩
  unfold oPlus at q
  split at q
  · exact .inl q
  · exact .inr (.inl q)
  · exact .inr (.inr (.inl q))
  · exact .inr (.inr (.inr q))
end

/-! ### the law's end -/
theorem law_end {l : PySem.W.OpenLaw} {q : Program} {loose : List Str} {XP : (Str → Option Value) → Heap → Prop} {YP : World → Heap → Prop} {d : DefRec} {K : Params → PySem.W.Frag} {x : Str} {lv : Nat} {cl : PySem.W.Frag → String → Addr} {wt : Wt}
    (hn : l.most = some 63) (hdf : d.params.defaults = []) (hr : RG lv callerA) (hY : ∀ (w : World) (h : Heap), YP w h → (K w.params).In h)
    (hw : ∀ (ns : List Int) (Q : Qe), ns.length ≤ 63 → (∀ C, Q (.bl true) C) → wt [.scr (ns.map .int)] [] Q noX)
    (F : ∀ (w : World) (mg : Str → Option Value) (fa : Addr) (h : Heap), (K w.params).In h → h.Ns mainGlobals mg → mg d.name = some (.ref fa) →
      ∃ fd : FuncData, (∀ (s : Shared) (u : Value), BindsTo s fd ⟨[u], []⟩ [(x, u)]) ∧
        ∀ base : Heap, (K w.params).In base → base.Ns mainGlobals mg → FnG l.prog w (K w.params) mg base lv fa fd [x] (spM (K w.params) (cl (K w.params)) 1 wt)) :
    PySem.W.WalkO q loose XP YP l.row.toRowW d [] (fun f vs => PySem.call f vs) :=
  walkG (n := 63) (lv := lv) (x := x) (sp := fun w => spM (K w.params) (cl (K w.params)) 1 wt) hn (by decide) hdf hr hY F
    (fun w H a ns hl hO hS => ⟨rfl, { G := H, ps := [] }, [], [.scr (ns.map .int)], fun r C => r = .bl true, noX, ⟨fun _ _ h => h, rfl, List.nodup_nil, fun k p c h _ _ => by simp at h, fun k p c h _ => by simp at h⟩,
      .cons (.scr hS (dl_int ns)) .nil, hw ns _ hl (fun _ => rfl), fun r C' v S' H' h _ _ d => by subst h; cases d; rfl, fun _ _ _ _ _ _ _ z _ _ _ _ => z.elim⟩)
    fun w H s e s' h => by
      obtain ⟨_, _, _, _, _, _, _, _, _, _, _, _, z⟩ := h
      exact z.elim
end NB

set_option Elab.async false
set_option linter.all false
set_option maxRecDepth 100000
set_option maxHeartbeats 1000000
namespace NB
open PySem PySem.Spec L2
open PyProof.Rows (envOfC)
/-- one clause: the class's value, the slot of its name, the suite's reading -/
structure Cla where
  c : Value
  i : Nat
  ts : Addr → Value → Option Addr → TS
/-- what the clauses, one behind the other, want of an exception; each names it -/
def wAsm (K : PySem.W.Frag) (Wo : WX) (De : Ends) : List Cla → WX
  | [] => Wo
  | q :: r => fun cls d σ H => ∃ yes, PySem.W.exmOne K cls q.c = some yes ∧
      (yes = true → ∀ ea, H ea = none → q.ts ea cls d { nx := fun σ1 H1 => De.nx (σ1.set q.i none) H1, rt := De.rt, bk := fun σ1 H1 => De.bk (σ1.set q.i none) H1, ct := fun σ1 H1 => De.ct (σ1.set q.i none) H1 } (σ.set q.i (some (.ref ea))) H) ∧
      (yes = false → wAsm K Wo De r cls d σ H)
inductive HdA (X : Cx) : List ExceptHandler → List Cla → Prop
  | nil : HdA X [] []
  | cons {x n : Str} {q : Cla} {b₀ : Stmt} {su : List Stmt} {np pp : Pos} {hds : List ExceptHandler} {l : List Cla} (hc : Names X x q.c) (hi : X.N[q.i]? = some n) (hln : X.env.kindOf n = some .local)
      (hsu : ∀ (ea : Addr) (oe : Obj) (cls : Value) (d : Option Addr) (pn : List (Addr × Obj)), L2.Zc cls d oe → (∃ fv, oe.data = .fields fv) → PSs (X.suite ea ((ea, oe) :: pn)) (b₀ :: su) (q.ts ea cls d)) (r : HdA X hds l) :
      HdA X (.ExceptHandler (some (.Name x np)) (some n) (b₀ :: su) pp :: hds) (q :: l)
  | bare {x : Str} {q : Cla} {b₀ : Stmt} {su : List Stmt} {np pp : Pos} {hds : List ExceptHandler} {l : List Cla} (hc : Names X x q.c)
      (hsu : ∀ ea cls d De σ H, ¬ q.ts ea cls d De σ H) (r : HdA X hds l) :
      HdA X (.ExceptHandler (some (.Name x np)) none (b₀ :: su) pp :: hds) (q :: l)
section
variable {X : Cx} {body : List Stmt} {hd1 : ExceptHandler} {hds : List ExceptHandler} {l : List Cla} {pos : Pos} {tb : WX → TS} {Wo : WX}
theorem ps_try_asm (hst : X.stack = X.env :: X.outer) (hfe : X.env.frame = some X.env.locals) (hN : X.N.Nodup) (tk : Takes X Wo)
    (hb : ∀ (W1 : WX) (pn : List (Addr × Obj)) (xe : Value → Shared → Prop), Takes (X.tr pn xe) W1 → PassesOwn (model X.prog X.w) X.A X.env xe → PSs (X.tr pn xe) body (tb W1)) (hh : HdA X (hd1 :: hds) l) :
    PS X (.Try body (hd1 :: hds) [] [] pos) (fun De σ H => tb (wAsm X.K Wo De l) De σ H) := by
  refine ⟨fun pins s σ H De I hrd => ?_⟩
  have okX := I.ok
  have hfrs : X.A.frames = some (X.env :: X.outer) := by rw [okX.frames, hst]
  refine wpAny_Try_except ?_
  refine wpAny_mono ((hb (wAsm X.K Wo De l) (X.pn ++ pins)
    (fun er sa => wpAny (model X.prog X.w) X.A (noteFrame er X.env) (fun _ sb => wpAny (model X.prog X.w) X.A (setFlight er none) (fun _ sc => wpAny (model X.prog X.w) X.A (handleBy er X.env (hd1 :: hds)) (SP X pins De) X.xe sc) X.xe sb) X.xe sa)
    (fun ux st xx => ?_) PassesOwn.looking).run [] s σ H De (I.toTry _) hrd) (fun fl st hsp => ?_) (fun er st he => he)
  · obtain ⟨ea, gr, s0, pinz, σz, Hz, cls, dd, rfl, Jt, nogr, upz, skyz, nea, osz, agz, wz⟩ := xx
    have Jz : Inv X pins σz Hz s0 := Jt.ofTry okX
    have sky2 : Sky gr (X.env :: X.outer) ea (L2.Zc cls dd) X.env.locals st.heap := by rw [← hst]; exact skyz
    show wpAny (model X.prog X.w) X.A (noteFrame (.ref ea) X.env) _ _ _
    refine Sky.land L2.Zc.steady hfrs hfe sky2 fun hp3 fly3 upp3 => ?_
    have Jl : Inv X pins σz Hz { st with heap := hp3 } := Jz.landed nogr fly3.1 (upz.trans upp3) osz agz
    obtain ⟨oe3, fv3, he3, hz3, hd3⟩ := fly3.there
    have noFrame : ∀ {hh : Heap} {oo : Obj} {fv : Array Value}, hh.FunFrames gr (X.env :: X.outer) → hh.get? ea = some oo → oo.data = .fields fv → ea ∉ frs (X.env :: X.outer) := fun {hh oo fv} ff e1 e2 hm => by
      obtain ⟨_, o2, e3, hnf⟩ := ff.mem hm
      rw [e1] at e3; cases e3
      exact hnf _ e2
    have nfr := noFrame fly3.2.2.1 he3 hd3
    have nLoc : ea ≠ X.env.locals := fun z => nfr (List.mem_filterMap.mpr ⟨X.env, List.mem_cons_self, by rw [hfe, z]⟩)
    have nFs : ea ∉ X.fs := fun hm => by
      obtain ⟨e1, he1, q1⟩ := List.mem_filterMap.mp hm
      exact nfr (List.mem_filterMap.mpr ⟨e1, List.mem_cons_of_mem _ he1, q1⟩)
    have Jsu := Jl.suite he3 hd3 nea nLoc nFs
    have go : ∀ {hs2 : List ExceptHandler} {l2 : List Cla}, HdA X hs2 l2 → wAsm X.K Wo De l2 cls dd σz Hz → wpAny (model X.prog X.w) X.A (handleBy (.ref ea) X.env hs2) (SP X pins De) X.xe { st with heap := hp3 } := by
      intro hs2 l2 hk
      induction hk with
      | nil =>
        intro w
        refine wpAny_handleBy_nil ?_
        obtain ⟨k1, k2, k3, o4, fv4, T4, oT4, t4, he4, hz4, hd4, h14, hr4⟩ := id fly3
        unfold PySem.passOn
        refine wpAny_bind (wpAny_field he4 hd4 h14 ?_)
        rw [if_neg (show ¬ ((Value.ref T4 == Value.none) = true) from by simp)]
        have fin : wpAny (model X.prog X.w) X.A (setFlight (.ref ea) X.env.frame) (fun _ sz => wpAny (model X.prog X.w) X.A (throw (.ref ea) : Sem Flow) (SP X pins De) X.xe sz) X.xe { st with heap := hp3 } := by
          rw [hfe]
          refine HandSPX.setFlight_upZ fly3 fun hp4 held4 upp4 => wpAny_throw (tk _ _ ?_)
          exact ⟨ea, gr, s0, pins, σz, Hz, cls, dd, rfl, Jz, nogr, (upz.trans upp3).trans upp4, .inr (.inr (by rw [hst]; exact held4)), nea, osz, agz, w⟩
        first
          | exact wpAny_bind (wpAny_pure (wpAny_bind fin))
          | exact wpAny_bind fin
      | @cons x n q b₀ su np pp hds2 l3 hc hi hln hsu r ih =>
        intro w
        obtain ⟨yes, hyn, hyes, hno⟩ := w
        refine wpAny_handleBy_cons (codeAny_handlers_test ?_) (by intro z; cases z)
        have LkT1 : PySem.W.Looks (model X.prog X.w) hp3 (typeOf (.ref ea)) cls := fun A1 Q1 E1 s1 k1 q1 => wpAny_typeOf_ref (k1 _ _ he3) (by rw [hz3.1]; exact q1)
        have LkM1 := PySem.W.exm_one (M := model X.prog X.w) (Jl.kIn) LkT1 hyn
        have tst : ∀ {Q1 : Value → Shared → Prop} {E1 : Value → Shared → Prop}, Q1 q.c { st with heap := hp3 } → wpAny (model X.prog X.w) (X.A.mark (some (.ref ea))) (eval (.Name x np) X.env) Q1 E1 { st with heap := hp3 } := fun {Q1 E1} z => by
          obtain ⟨hg1, hdb1, hm1 | ⟨hm1, hv1, hn1⟩⟩ := hc
          · exact ld_glob (X := X.suite ea ((ea, oe3) :: (X.pn ++ pins))) Jsu hg1 hm1 z hdb1
          · exact ld_blt (X := X.suite ea ((ea, oe3) :: (X.pn ++ pins))) Jsu hg1 hm1 hv1 z hn1 hdb1
        refine tst (LkM1.here ?_)
        cases yes with
        | true =>
          refine codeAny_handlers_suite_as ?_
          refine HandSPX.lands_againZ fly3 fun hp4 fly4 upp4 => ?_
          have J4 : Inv X pins σz Hz { st with heap := hp4 } := Jz.landed nogr fly4.1 ((upz.trans upp3).trans upp4) osz agz
          obtain ⟨oe4, fv4, he4, hz4, hd4⟩ := fly4.there
          have S4 := J4.suite he4 hd4 nea nLoc nFs
          refine store_ok (X := X.suite ea ((ea, oe4) :: (X.pn ++ pins))) (v := .ref ea) S4 hN hi (Or.inl hln) rfl (fun s5 S5 => ?_) (.inr hln)
          refine wpAny_mono ((hsu ea oe4 cls dd (X.pn ++ pins) hz4 ⟨_, hd4⟩).run [] s5 _ Hz _ S5 (hyes rfl ea nea)) (fun fl s6 hs6 => ?_) (fun _ _ z => False.elim z)
          have fin : ∀ {σ6 : L2.St} {H6 : Hp} {Q6 : Shared → Prop}, Inv (X.suite ea ((ea, oe4) :: (X.pn ++ pins))) [] σ6 H6 s6 → (∀ s7, Inv X pins (σ6.set q.i none) H6 s7 → Q6 s7) →
              wpAny (model X.prog X.w) X.A (do bindName X.env n .none; unbindBehindTheSuite X.env n pp) (fun _ s7 => Q6 s7) X.xe s6 := fun {σ6 H6 Q6} S6 hq => gone_ok (S6.unsuite okX) hN hi hln hq
          cases fl with
          | next => obtain ⟨σ6, H6, S6, q6⟩ := hs6; exact fin S6 fun s7 J7 => ⟨_, _, J7, q6⟩
          | brk => obtain ⟨σ6, H6, S6, q6⟩ := hs6; exact fin S6 fun s7 J7 => ⟨_, _, J7, q6⟩
          | cont => obtain ⟨σ6, H6, S6, q6⟩ := hs6; exact fin S6 fun s7 J7 => ⟨_, _, J7, q6⟩
          | ret u6 => obtain ⟨v6, σ6, H6, S6, r6, q6⟩ := hs6; exact fin S6 fun s7 J7 => ⟨_, _, _, J7, r6, q6⟩
        | false =>
          show wpAny _ X.A (handleBy (.ref ea) X.env hds2) _ _ _
          exact ih (hno rfl)
      | @bare x q b₀ su np pp hds2 l3 hc hsu r ih =>
        intro w
        obtain ⟨yes, hyn, hyes, hno⟩ := w
        refine wpAny_handleBy_cons (codeAny_handlers_test ?_) (by intro z; cases z)
        have LkT1 : PySem.W.Looks (model X.prog X.w) hp3 (typeOf (.ref ea)) cls := fun A1 Q1 E1 s1 k1 q1 => wpAny_typeOf_ref (k1 _ _ he3) (by rw [hz3.1]; exact q1)
        have LkM1 := PySem.W.exm_one (M := model X.prog X.w) (Jl.kIn) LkT1 hyn
        have tst : ∀ {Q1 : Value → Shared → Prop} {E1 : Value → Shared → Prop}, Q1 q.c { st with heap := hp3 } → wpAny (model X.prog X.w) (X.A.mark (some (.ref ea))) (eval (.Name x np) X.env) Q1 E1 { st with heap := hp3 } := fun {Q1 E1} z => by
          obtain ⟨hg1, hdb1, hm1 | ⟨hm1, hv1, hn1⟩⟩ := hc
          · exact ld_glob (X := X.suite ea ((ea, oe3) :: (X.pn ++ pins))) Jsu hg1 hm1 z hdb1
          · exact ld_blt (X := X.suite ea ((ea, oe3) :: (X.pn ++ pins))) Jsu hg1 hm1 hv1 z hn1 hdb1
        refine tst (LkM1.here ?_)
        cases yes with
        | true => exact (hsu _ _ _ _ _ _ (hyes rfl ea nea)).elim
        | false =>
          show wpAny _ X.A (handleBy (.ref ea) X.env hds2) _ _ _
          exact ih (hno rfl)
    exact go hh wz
  · cases fl with
    | next => obtain ⟨σ1, H1, J1, q1⟩ := hsp; exact wpAny_execs_nil ⟨σ1, H1, J1.ofTry okX, q1⟩
    | brk => obtain ⟨σ1, H1, J1, q1⟩ := hsp; exact ⟨σ1, H1, J1.ofTry okX, q1⟩
    | cont => obtain ⟨σ1, H1, J1, q1⟩ := hsp; exact ⟨σ1, H1, J1.ofTry okX, q1⟩
    | ret u1 => obtain ⟨v1, σ1, H1, J1, r1, q1⟩ := hsp; exact ⟨v1, σ1, H1, J1.ofTry okX, r1, q1⟩
end

/-! ### the same by trees -/
def claOf (K : PySem.W.Frag) (Z : Zx) (kn : List String) (h : Hdr) : Cla := ⟨.ref (Z.cl h.c), h.i, tSy K Z kn h.s⟩
/-- the handlers' derivations -/
inductive HdJ (X : Cx) (Z : Zx) (kn : List String) (sub : String → String → Bool) : List ExceptHandler → List Hdr → Prop
  | nil : HdJ X Z kn sub [] []
  | cons {x n : Str} {c : String} {k : Nat} {ms : Nat → Nat → String → MS} {b₀ : Stmt} {suite : List Stmt} {np pos' : Pos} {hds : List ExceptHandler} {l : List Hdr} (hc : X.mg x = some (.ref (Z.cl c))) (hex : ∀ c1 ∈ kn, PySem.W.exmOne X.K (.ref (Z.cl c1)) (.ref (Z.cl c)) = some (sub c1 c))
      (hsu : ∀ (a : Addr) (oe : Obj) (c1 : String) (d : Addr) (pn : List (Addr × Obj)), c1 ∈ kn → L2.Zc (.ref (Z.cl c1)) (some d) oe → (∃ vs, oe.data = .fields vs) → JSs (X.suite a ((a, oe) :: pn)) Z.calm (b₀ :: suite) (ms a d c1)) (r : HdJ X Z kn sub hds l)
      (hi : X.N[k]? = some n := by rfl) (hln : X.env.kindOf n = some .local := by rfl) (hg : Gl X x := by rfl) (hdb : (x == ("__debug__" : Str)) = false := by decide) :
      HdJ X Z kn sub (.ExceptHandler (some (.Name x np)) (some n) (b₀ :: suite) pos' :: hds) (⟨c, k, ms⟩ :: l)
  | bare {x : Str} {c : String} {b₀ : Stmt} {suite : List Stmt} {np pos' : Pos} {hds : List ExceptHandler} {l : List Hdr} (hc : X.mg x = some (.ref (Z.cl c))) (hex : ∀ c1 ∈ kn, PySem.W.exmOne X.K (.ref (Z.cl c1)) (.ref (Z.cl c)) = some (sub c1 c))
      (r : HdJ X Z kn sub hds l) (hg : Gl X x := by rfl) (hdb : (x == ("__debug__" : Str)) = false := by decide) :
      HdJ X Z kn sub (.ExceptHandler (some (.Name x np)) none (b₀ :: suite) pos' :: hds) (⟨c, 0, fun _ _ _ => mNeverS⟩ :: l)
section
variable {X : Cx} {Z : Zx} {kn : List String} {sub : String → String → Bool} {hd1 : ExceptHandler} {hds : List ExceptHandler} {l : List Hdr} {pos : Pos} {body : List Stmt} {mb : (Gm → MX) → MS}
theorem HdJ.hda {hds : List ExceptHandler} {l : List Hdr} (h : HdJ X Z kn sub hds l) : HdA X hds (l.map (claOf X.K Z kn)) := by
  induction h with
  | nil => exact .nil
  | @cons x n c k ms b₀ suite np pos' hds l hc hex hsu r hi hln hg hdb ih =>
    refine .cons (q := claOf X.K Z kn ⟨c, k, ms⟩) ⟨hg, hdb, .inl hc⟩ hi hln (fun a oe cls d pn hz hfl => ?_) ih
    refine ⟨fun pins s σ H Ds I q => ?_⟩
    obtain ⟨S, Γ, C, Dm, c1, dd, hk, rfl, rfl, A, lk, q⟩ := q
    obtain ⟨t, pt, kt⟩ := hsu a oe c1 dd pn hk hz hfl
    exact pt.run pins s σ H Ds I (kt S σ H Γ C Dm Ds ⟨A.rp, A.sg, A.le⟩ ⟨lk.nx, lk.rt, lk.bk, lk.ct⟩ q)
  | @bare x c b₀ suite np pos' hds l hc hex r hg hdb ih =>
    refine .bare (q := claOf X.K Z kn ⟨c, 0, fun _ _ _ => mNeverS⟩) ⟨hg, hdb, .inl hc⟩ (fun ea cls d De σ H q => ?_) ih
    obtain ⟨S, Γ, C, Dm, c1, dd, hk, _, _, A, lk, q⟩ := q
    exact q
theorem disp_ok {S0 : Wd} {H0 : Hp} {Dm : MEnds} {Ds : Ends} (ok : ZOk X Z) (lk : LkS X.K Z S0 H0 Dm Ds) (le0 : Le Z.S0 Z.H0 S0 H0) {hds : List ExceptHandler} {l : List Hdr} (h : HdJ X Z kn sub hds l) {S' : Wd} {σ' : L2.St} {H' : Hp} {Γ' : Gm} {C' : Cs} {c1 : String} {fs : List (String × R)} {d : Addr} {fv : List (Str × V)}
    (rp : Rep X.K S' H' C') (sg : SG X.K S' σ' Γ') (le : Le S0 H0 S' H') (hk : c1 ∈ kn) (hd : S'.G d = some (.xd fv)) (hf : DF X.K S' fv fs) : dispM sub Z.e Dm l Γ' c1 fs C' → wAsm X.K Z.W Ds (l.map (claOf X.K Z kn)) (.ref (Z.cl c1)) (some d) σ' H' := by
  induction h with
  | nil => exact fun hE => ok.link S' σ' H' Γ' C' c1 fs d fv ⟨rp, sg, le0.trans le⟩ hE hd hf
  | @cons x n c k ms b₀ suite np pos' hds l hc hex hsu r hi hln hg hdb ih =>
    intro hE
    refine ⟨sub c1 c, hex c1 hk, fun hb' a na => ?_, fun hb' => ?_⟩
    · unfold dispM at hE
      rw [ifP_t hb'] at hE
      have l' := lk.go le
      refine ⟨S', _, C', { nx := fun Γ2 C2 => Dm.nx (Γ2.set k none) C2, rt := Dm.rt, bk := fun Γ2 C2 => Dm.bk (Γ2.set k none) C2, ct := fun Γ2 C2 => Dm.ct (Γ2.set k none) C2 }, c1, d, hk, rfl, rfl, ⟨rp, sg.set k (.exn hd hf), le0.trans le⟩, ⟨fun Γ2 C2 σ2 S2 H2 q2 rp2 l2 g2 => ?_, l'.rt, fun Γ2 C2 σ2 S2 H2 q2 rp2 l2 g2 => ?_, fun Γ2 C2 σ2 S2 H2 q2 rp2 l2 g2 => ?_⟩, hE a d⟩
      · exact l'.nx _ C2 _ S2 H2 q2 rp2 l2 (g2.wipe k none)
      · exact l'.bk _ C2 _ S2 H2 q2 rp2 l2 (g2.wipe k none)
      · exact l'.ct _ C2 _ S2 H2 q2 rp2 l2 (g2.wipe k none)
    · unfold dispM at hE
      rw [ifP_f hb'] at hE
      exact ih hE
  | @bare x c b₀ suite np pos' hds l hc hex r hg hdb ih =>
    intro hE
    refine ⟨sub c1 c, hex c1 hk, fun hb' a na => ?_, fun hb' => ?_⟩
    · unfold dispM at hE
      rw [ifP_t hb'] at hE
      exact (hE a d : False).elim
    · unfold dispM at hE
      rw [ifP_f hb'] at hE
      exact ih hE
theorem js_try (ok : ZOk X Z) (hN : X.N.Nodup) (hb : ∀ (pn : List (Addr × Obj)) (xe : Value → Shared → Prop) (Z' : Zx), Z'.cl = Z.cl → ZOk (X.tr pn xe) Z' → PassesOwn (model X.prog X.w) X.A X.env xe → JSs (X.tr pn xe) Z' body (mb Z'.e)) (hj : HdJ X Z kn sub (hd1 :: hds) l)
    (hs : X.stack = X.env :: X.outer := by rfl) (hf : X.env.frame = some X.env.locals := by rfl) : JS X Z (.Try body (hd1 :: hds) [] [] pos) (mTry kn sub mb l Z.e) := by
  refine ⟨_, ps_try_asm (tb := tSx X.K Z mb) hs hf hN ok.tk (fun W pn xe tk hp => ?_) hj.hda, ?_⟩
  · refine ⟨fun pins s σ H Ds I q => ?_⟩
    obtain ⟨S, Γ, C, Dm, e', A, lk, lx, q⟩ := q
    obtain ⟨t, pt, kt⟩ := hb pn xe { cl := Z.cl, S0 := S, H0 := H, W := W, e := e' } rfl ⟨tk, fun S' σ' H' Γ' C' c fs d fv a => lx S' σ' H' Γ' C' c fs d fv ⟨a.rp, a.sg, a.le⟩⟩ hp
    exact pt.run pins s σ H Ds I (kt S σ H Γ C Dm Ds ⟨A.rp, A.sg, Le.refl _ _⟩ ⟨lk.nx, lk.rt, lk.bk, lk.ct⟩ q)
  · intro S σ H Γ C Dm Ds A lk q
    exact ⟨S, Γ, C, Dm, _, A, lk, fun S' σ' H' Γ' C' c1 fs d fv A' hE hd hf => disp_ok ok lk A.le hj A'.rp A'.sg A'.le hE.1 hd hf hE.2, q⟩
end
end NB

set_option Elab.async false
set_option linter.all false
set_option maxRecDepth 100000
set_option maxHeartbeats 1000000
namespace NB
open PySem PySem.Spec L2
open PyProof.Rows (envOfC)
section
variable {X : Cx} {Z : Zx} {a b c e e2 o i tg iter elt : Expr} {es ifs : List Expr} {ma mb mc m m2 mo mi : ME} {mt mu : MT} {am : MA} {mg : MG} {mgs : MGs} {it : MI} {ms : MS} {pos apos cpos : Pos} {sts : List Stmt} {st : Stmt}
theorem je_gI {x : Str} {n : Int} {p : Pos} (h : ∃ t, X.mg x = some (.int n t)) (hg : Gl X x := by rfl) (hdb : (x == ("__debug__" : Str)) = false := by decide) : JE X Z (.Name x p) (mC (.int n)) := by
  obtain ⟨t, ht⟩ := h
  exact je_gC (v := .int n) (fun _ => .int n) ht ⟨t, rfl⟩ hg hdb
theorem je_never : JE X Z e mNever := ⟨fun _ _ _ => False, ⟨fun _ _ _ _ _ _ h => h.elim⟩, fun _ _ _ _ _ _ _ _ _ h => h.elim⟩
theorem js_never : JS X Z st mNeverS := ⟨fun _ _ _ => False, ⟨fun _ _ _ _ _ _ h => h.elim⟩, fun _ _ _ _ _ _ _ _ _ h => h.elim⟩
theorem jt_never : JT X Z e mNeverT := ⟨fun _ _ _ => False, ⟨fun _ _ _ _ _ _ h => h.elim⟩, fun _ _ _ _ _ _ _ _ _ h => h.elim⟩
/-- a tuple's or a list's places -/
theorem jg_seq {k n : Nat} (hc : X.calm = true) (h : JGs X Z es mgs) (hn : (assignEach es X.env).length = n := by rfl) (hst : (assignEach es X.env).findIdx? (·.1) = none := by rfl) : JG X Z (.Tuple es k pos) (gSq n mgs) := by
  obtain ⟨t1, p1, k1⟩ := jg_tup (k := k) (pos := pos) (n := n) hc h hn hst
  obtain ⟨t2, p2, k2⟩ := jg_lst (k := k) (pos := pos) (n := n) hc h hn hst
  refine ⟨fun v σ H Q => t1 v σ H Q ∨ t2 v σ H Q, ⟨fun pins s σ H v u Q I r h => h.elim (p1.run pins s σ H v u Q I r) (p2.run pins s σ H v u Q I r)⟩, fun S σ H Γ C v r Qm Q A d l q => ?_⟩
  unfold gSq at q
  split at q
  · exact .inl (k1 S σ H Γ C v _ Qm Q A d l q)
  · refine .inr (k2 S σ H Γ C v _ Qm Q A d l ?_)
    unfold gLs
    exact q
theorem je_dct0 : JE X Z (.Dict [] [] pos) mDct0 := ⟨_, pe_dnewK, fun S σ H Γ C Qm Q A l q p hp => by
  obtain ⟨rp2, l2⟩ := A.rp.grow (o := .dK []) (c := .dct []) hp fun S' _ => ⟨[], upd_same, rfl, .nil⟩
  exact l _ _ _ _ _ q rp2 l2 (.cell (by show (S.ps ++ [p])[C.length]? = some p; rw [← A.rp.len]; simp))⟩
theorem je_dct1 {k : String} {kj : Nat} {kp : Pos} (he : JE X Z e m) : JE X Z (.Dict [some (.Constant (.str (Str.ofString k)) kj kp)] [e] pos) (mDct1 k m) := by
  obtain ⟨t, p, kk⟩ := he
  refine ⟨_, pe_disp (pps_cons pe_str p pps_nil) rfl rfl (by simp) (by simp), fun S σ H Γ C Qm Q A l q d hd => ?_⟩
  have hps : d ∉ S.ps := A.rp.nps hd
  have hpg : S.G d = none := by
    cases e : S.G d with
    | none => rfl
    | some o => have := A.rp.sub d o e; rw [hd] at this; cases this
  show t σ (upd H d (.dK [])) _
  refine kk S σ (upd H d (.dK [])) Γ C _ _ ⟨A.rp.side hps hpg, A.sg, A.le.side ?_⟩ (fun r C1 v S1 H1 q1 rp1 l1 d1 => ?_) q
  · cases e : Z.H0 d with
    | none => rfl
    | some o =>
      by_cases hz : d ∈ Z.S0.ps
      · obtain ⟨kx, hk, ek⟩ := List.getElem_of_mem hz
        have := A.le.ps kx d (by rw [List.getElem?_eq_getElem hk, ek])
        exact absurd (List.mem_of_getElem? this) hps
      · have := A.le.fr d o e hz
        rw [hd] at this; cases this
  · have h1 : H1 d = some (.dK []) := l1.fr d _ upd_same hps
    have n1 : d ∉ S1.ps := fun z => (l1.nw d z).elim hps (fun z => by rw [upd_same] at z; cases z)
    have n2 : S1.G d = none := by
      cases e : S1.G d with
      | none => rfl
      | some o =>
        rcases l1.gn d o e with z | z | z
        · rw [hpg] at z; cases z
        · exact absurd z hps
        · rw [upd_same] at z; cases z
    have lx : Le S H S1 H1 := ⟨l1.g, l1.ps, fun b u hb hn => l1.fr b u (by rw [upd_ne (ne_of_none hb hd)]; exact hb) hn, fun p hp => (l1.nw p hp).elim .inl (fun z => .inr (by
        by_cases hb : p = d
        · rw [hb]; exact hd
        · rw [upd_ne hb] at z; exact z)), fun b u hb => (l1.gn b u hb).elim .inl (fun z => .inr (z.elim .inl (fun z => .inr (by
        by_cases hb : b = d
        · rw [hb]; exact hd
        · rw [upd_ne hb] at z; exact z))))⟩
    refine ⟨h1, [(Sum.inr (Str.ofString k), v)], rfl, by simp, ?_⟩
    have e2 : mergeK [] [(Sum.inr (Str.ofString k), v)] = [((Sum.inr (Str.ofString k) : Key), v)] := rfl
    rw [e2]
    have rp2 := (rp1.side (o := .dK [((Sum.inr (Str.ofString k) : Key), v)]) n1 n2).adoptC (c := .dct [(.inr (Str.ofString k), r)]) n1 n2 ⟨_, upd_same, rfl, .cons d1 .nil⟩
    refine l _ _ _ _ _ q1 rp2 ((lx.side hd).adoptC hd) (.cell ?_)
    show (S1.ps ++ [d])[C1.length]? = some d
    rw [← rp1.len]; simp
end
/-! ### a def that calls itself: by a depth -/
section
variable {P : Program} {w : World} {K : PySem.W.Frag} {mg : Str → Option Value} {base : Heap} {qual x : Str} {st : Stmt} {N ps : List Str} {np : Nat} {f : Addr} {fd : FuncData} {cl : String → Addr}
theorem fn_rec {m : Wt → (Gm → MX) → MS} (WS : Nat → Wt) (F : Fun K x qual st f fd) (Sc : FnScope N ps (defScope st)) (hn : ps.length = np) (hmg : mg x = some (.ref f)) (har : ∀ n rs C Q E, WS n rs C Q E → rs.length = np)
    (hder : ∀ (lvR : Nat) (WR : Wt), Fn P w K mg base cl lvR x np WR f fd ps → ∀ (cdv : Value) (A : Around) (outer : List Env) (s : Shared) (H : Hp) (E : XK) (Z : Zx), Z.cl = cl → RG lvR (A.deeper (envOfC qual (defScope st) s.heap.objs.size f cdv)) →
      ZOk (cxOf (L2.CX P w) P w K mg base N qual (defScope st) f cdv A outer s H E) Z → JSs (cxOf (L2.CX P w) P w K mg base N qual (defScope st) f cdv A outer s H E) Z (defBody st) (m WR Z.e))
    (hm : ∀ n, Keeps N.length (m (prevW WS n)) np (WS n)) : ∀ n, Fn P w K mg base cl (n + 1) x np (WS n) f fd ps
  | 0 => fn_M F Sc hn hmg (har 0) (hder 0 _ ⟨⟨fun vs H Q E h => by obtain ⟨_, _, _, _, _, _, _, _, z, _⟩ := h; exact z.elim, fun _ _ _ _ _ _ _ _ _ _ _ _ _ h => by obtain ⟨_, _, _, _, _, _, _, _, z, _⟩ := h; exact z.elim⟩, hmg, F.kp, fun _ _ _ _ z => z.elim⟩) (hm 0)
  | n + 1 => fn_M F Sc hn hmg (har (n + 1)) (hder (n + 1) _ (fn_rec WS F Sc hn hmg har hder hm n)) (hm (n + 1))
end
def nons : Nat → List V
  | 0 => []
  | n + 1 => .non :: nons n
theorem vals_non1 : Vals [V.non] [Value.none] := .cons rfl .nil
theorem vals_non2 : Vals [V.non, V.non] [Value.none, Value.none] := .cons rfl (.cons rfl .nil)
theorem dls_non1 {K : PySem.W.Frag} (S : Wd) : DL K S [V.non] [R.non] := .cons .non .nil
theorem dls_non2 {K : PySem.W.Frag} (S : Wd) : DL K S [V.non, V.non] [R.non, R.non] := .cons .non (.cons .non .nil)
end NB

set_option Elab.async false
set_option linter.all false
set_option maxRecDepth 100000
set_option maxHeartbeats 1000000
/-! MDflt: defs whose last parameters have None as default. -/
namespace NB
open PySem PySem.Spec PyProof.Rows L2
/-! ### a def's body -/
section
variable {P : Program} {w : World} {K : PySem.W.Frag} {mg : Str → Option Value} {base : Heap} {qual : Str} {st : Stmt} {N : List Str} {k : Nat}
/-- THE RULE for a def: its body's derivation, and that the body keeps w -/
theorem fn_MD {cl : String → Addr} {m : (Gm → MX) → MS} {dvs : List V} (F : FunD K x qual (defArgs st) (defBody st) (defScope st) dvs [] f fd) (Sc : FnScope N ps (defScope st)) (hn : ps.length = n) (hmg : mg x = some (.ref f)) (har : ∀ rs C Q E, wt rs C Q E → rs.length = n)
    (hder : ∀ (cdv : Value) (A : Around) (outer : List Env) (s : Shared) (H : Hp) (E : XK) (Z : Zx), Z.cl = cl → RG k (A.deeper (envOfC qual (defScope st) s.heap.objs.size f cdv)) →
      ZOk (cxOf (L2.CX P w) P w K mg base N qual (defScope st) f cdv A outer s H E) Z → JSs (cxOf (L2.CX P w) P w K mg base N qual (defScope st) f cdv A outer s H E) Z (defBody st) (m Z.e))
    (hm : Keeps N.length m n wt) : Fn P w K mg base cl (k + 1) x n wt f fd ps := by
  refine ⟨fnG_ofD F Sc (fun vs H Q E h => h.1.trans hn.symm) fun cdv A outer s H vs Q E hr hsp => ?_, hmg, F.kp, har⟩
  obtain ⟨hl, S, C, rs, Qm, Em, rp, d, hw, hq, hx⟩ := hsp
  let Z : Zx := { cl := cl, S0 := S, H0 := H, W := fun c d _ H => E c d H, e := fun _ => endX C.length Em }
  have ok : ZOk (cxOf (L2.CX P w) P w K mg base N qual (defScope st) f cdv A outer s H E) Z := ⟨takes_of rfl rfl rfl rfl, fun S' σ' H' Γ' C' c fs dd fv a hE hd hf => by
    replace hE : endX C.length Em c fs C' := hE; unfold endX at hE; rcases hE with h4 | ⟨n', h1, h2, h3, h4⟩
    · exact hx c fs C' S' H' dd fv h4 a.rp a.le hd hf
    exact hx c fs (C'.take n') { S' with ps := S'.ps.take n' } H' dd fv h4 (cutRep a.rp h3) (cutLe a.le (by rw [rp.len]; exact h1)) hd (cutF h2 hf)⟩
  obtain ⟨t, pt, kt⟩ := hder cdv A outer s H E Z rfl hr ok
  refine ⟨t, pt, kt S (L2.start N vs) H (NB.start N.length rs) C { nx := fun _ C' => endD C.length Qm .non C', rt := endD C.length Qm } _ ⟨rp, ?_, Le.refl _ _⟩ ⟨?_, ?_, fun _ _ _ _ _ z _ _ _ => z.elim, fun _ _ _ _ _ z _ _ _ => z.elim⟩ (hm rs C Qm Em (d.length.symm.trans hl) hw)⟩
  · have hle : vs.length ≤ N.length := by
      have := Sc.pre
      have h2 : (N.take ps.length).length = ps.length := by rw [this]
      rw [List.length_take] at h2
      omega
    refine ⟨by unfold L2.start NB.start; simp only [List.length_append, List.length_map, List.length_replicate]; rw [d.length], fun i r h => ?_⟩
    unfold NB.start at h
    by_cases hi : i < rs.length
    · rw [List.getElem?_append_left (by simpa using hi), List.getElem?_map] at h
      cases e : rs[i]? with
      | none => rw [e] at h; cases h
      | some y =>
        rw [e] at h
        cases h
        obtain ⟨v, hv, dv⟩ := d.get e
        refine ⟨v, ?_, dv⟩
        unfold L2.start
        rw [List.getElem?_append_left (by simpa using (List.getElem?_eq_some_iff.mp hv).1), List.getElem?_map, hv] <;> rfl
    · rw [List.getElem?_append_right (by simpa using hi), List.getElem?_replicate] at h
      split at h <;> cases h
  · intro Γ C' σ S' H' z rp' l _
    unfold endD at z; rcases z with h4 | ⟨n', h1, h2, h3, h4⟩
    · exact hq _ _ _ _ _ h4 rp' l .non
    exact hq _ _ _ _ _ h4 (cutRep rp' h3) (cutLe l (by rw [rp.len]; exact h1)) .non
  · intro r C' v S' H' z rp' l d'
    unfold endD at z; rcases z with h4 | ⟨n', h1, h2, h3, h4⟩
    · exact hq _ _ _ _ _ h4 rp' l d'
    exact hq _ _ _ _ _ h4 (cutRep rp' h3) (cutLe l (by rw [rp.len]; exact h1)) (cutD h2 d')
end
def nonV : Nat → List V
  | 0 => []
  | n + 1 => .non :: nonV n
theorem vals_none : ∀ n, Vals (nonV n) (List.replicate n Value.none)
  | 0 => .nil
  | n + 1 => .cons rfl (vals_none n)
theorem vals_non : ∀ (n : Nat) (ds : List Value), Vals (nonV n) ds → ds = List.replicate n Value.none
  | 0, _, h => by cases h; rfl
  | n + 1, _, h => by
    cases h with
    | cons r t => cases r; rw [vals_non n _ t]; rfl
theorem nonV_len : ∀ n, (nonV n).length = n
  | 0 => rfl
  | n + 1 => by rw [nonV, List.length_cons, nonV_len n]
section
variable {K : PySem.W.Frag} {x qual : Str} {st : Stmt} {f : Addr} {fd : FuncData} {ps : List Str}
theorem fund_mk (n : Nat) {D : Addr} {oc : Value} {od an od2 : Option Addr} {osl sd : Array (Option Value)} {kV doc pm cdv ct : Value} {nd : Nat} {oc2 : Value}
    (l : K.lookup f = some ⟨oc, od, .func (PySem.W.fnOf x qual (defArgs st) (defBody st) (defScope st) (.ref D) kV doc pm an cdv ct), osl⟩)
    (c : PySem.W.codeIn K cdv qual = true) (k : PySem.W.keepIn K (.ref f) = true) (d : K.lookup D = some ⟨oc2, od2, .seq (List.replicate (n + 1) Value.none).toArray nd, sd⟩) :
    FunD K x qual (defArgs st) (defBody st) (defScope st) (nonV (n + 1)) [] f (PySem.W.fnOf x qual (defArgs st) (defBody st) (defScope st) (.ref D) kV doc pm an cdv ct) :=
  ⟨⟨oc, od, _, kV, doc, pm, an, cdv, ct, osl, rfl, l, c, .inr ⟨by simp [nonV], D, _, _, nd, rfl, d, rfl, vals_none (n + 1)⟩, .inl rfl⟩, k⟩
theorem bindsD_all {n : Nat} (F : FunD K x qual (defArgs st) (defBody st) (defScope st) (nonV (n + 1)) [] f fd) (ps : List Str)
    (h : ∀ (T : Addr) (kV doc pm : Value) (an : Option Addr) (cdv ct : Value) (us its : List Value), us.length = ps.length → its.length = n + 1 →
      ∃ k, bindArgs (PySem.W.fnOf x qual (defArgs st) (defBody st) (defScope st) (.ref T) kV doc pm an cdv ct) ⟨us, []⟩ = seqItems? (.ref T) >>= k ∧ k (some its.toArray) = pure (ps.zip us)) : Binds K fd ps [] := by
  obtain ⟨ds, hv, hb⟩ := F.binds1 (ps := ps) ps.length (n + 1) (by simp [nonV]) (by rw [nonV_len]; omega) (fun T kV doc pm an cdv ct us its h1 h2 => by
    rw [nonV_len] at h2
    obtain ⟨k, e1, e2⟩ := h T kV doc pm an cdv ct us its h1 h2
    refine ⟨k, e1, ?_⟩
    rw [e2, List.drop_of_length_le (by omega), List.append_nil])
  have : ds = [] := by
    have e : (nonV (n + 1)).drop (n + 1) = [] := List.drop_of_length_le (by rw [nonV_len]; omega)
    rw [e] at hv
    cases hv
    rfl
  rw [this] at hb
  exact hb
/-- the last d parameters are left out -/
theorem bindsD_ (d : Nat) {n : Nat} (F : FunD K x qual (defArgs st) (defBody st) (defScope st) (nonV (n + 1)) [] f fd) (m : Nat) (hd : d ≤ n + 1) (hn : m + d = ps.length)
    (h : ∀ (T : Addr) (kV doc pm : Value) (an : Option Addr) (cdv ct : Value) (us its : List Value), us.length = m → its.length = n + 1 →
      ∃ k, bindArgs (PySem.W.fnOf x qual (defArgs st) (defBody st) (defScope st) (.ref T) kV doc pm an cdv ct) ⟨us, []⟩ = seqItems? (.ref T) >>= k ∧ k (some its.toArray) = pure (ps.zip (us ++ its.drop (n + 1 - d)))) : Binds K fd ps (List.replicate d Value.none) := by
  obtain ⟨ds, hv, hb⟩ := F.binds1 (ps := ps) m (n + 1 - d) (by simp [nonV]) (by rw [nonV_len]; omega) (fun T kV doc pm an cdv ct us its h1 h2 => h T kV doc pm an cdv ct us its h1 (by rw [nonV_len] at h2; exact h2))
  have e : ∀ (a b : Nat), (nonV (a + b)).drop a = nonV b := fun a b => by
    induction a with
    | zero => rw [Nat.zero_add]; rfl
    | succ a ih => rw [Nat.add_right_comm]; exact ih
  have e2 : (nonV (n + 1)).drop (n + 1 - d) = nonV d := by
    have := e (n + 1 - d) d
    rwa [show n + 1 - d + d = n + 1 by omega] at this
  rw [e2] at hv
  rw [vals_non d ds hv] at hb
  exact hb
end
end NB

set_option Elab.async false
set_option linter.all false
set_option maxRecDepth 100000
set_option maxHeartbeats 1000000
/-! MMore: starred displays, in, & with 2 ** k - 1, list(range(..)). -/
namespace NB
open PySem PySem.Spec PyProof.Rows L2
/-! ### the trees -/
/-! ### and their rules -/
section
variable {X : Cx} {Z : Zx} {e : Expr} {es : List Expr} {m : ME} {am : MA} {p : Pos} {K : PySem.W.Frag}
theorem ja_star (ha : JE X Z e m) (hr : JA X Z es am) (hs : starEach (.Starred e p :: es) X.env = (true, eval e X.env) :: starEach es X.env := by rfl) : JA X Z (.Starred e p :: es) (mStar m am) := by
  obtain ⟨t, pt, k⟩ := ha
  obtain ⟨u, pu, ku⟩ := hr
  refine ⟨_, StX.pa_star pt pu hs, fun S σ H Γ C Qm Q A l q => ?_⟩
  refine k S σ H Γ C _ _ A (fun r C1 v S1 H1 q1 rp1 l1 d1 => ?_) q
  cases hx : seqOf C1 r with
  | none => rw [hx] at q1; exact q1.elim
  | some xs =>
    rw [hx] at q1
    obtain ⟨a, vs, rfl, z, t⟩ := seq_of rp1 d1 hx
    refine ⟨a, vs, rfl, z.symm, ku S1 σ H1 Γ C1 _ _ (A.go l1 rp1) (fun rs C2 ws S2 H2 q2 rp2 l2 d2 => ?_) q1⟩
    exact l _ C2 _ S2 H2 q2 rp2 (l1.trans l2) ((t.mono l2).append d2)
theorem flat_v {S : Wd} {v : V} {r : R} (d : D K S v r) (h : flatR r = true) : flatV v = true := by cases d <;> first | rfl | cases h
theorem flat_vs {S : Wd} : ∀ {vs : List V} {rs : List R}, DL K S vs rs → rs.all flatR = true → vs.all flatV = true
  | _, _, .nil, _ => rfl
  | _, _, .cons d t, h => by
    simp only [List.all_cons, Bool.and_eq_true] at h ⊢
    exact ⟨flat_v d h.1, flat_vs t h.2⟩
theorem flat_eq {S : Wd} {v w : V} {r q : R} (d : D K S v r) (e : D K S w q) (h : flatR r = true) (k : flatR q = true) : eqV v w = eqR r q := by
  cases d <;> first | (cases h; done) | (cases e <;> first | (cases k; done) | rfl | exact strs_eq _ _)
theorem flat_in {S : Wd} {w : V} {q : R} (e : D K S w q) (k : flatR q = true) : ∀ {vs : List V} {rs : List R}, DL K S vs rs → rs.all flatR = true → inV w vs = rs.any fun z => eqR z q
  | _, _, .nil, _ => rfl
  | _, _, .cons d t, h => by
    simp only [List.all_cons, Bool.and_eq_true] at h
    unfold inV
    simp only [List.any_cons]
    rw [flat_eq d e h.1 k]
    congr 1
    exact flat_in e k t h.2
theorem jo_in : JOp X Z (compareOp .In) (oIn false) := ⟨_, op_in_seq, fun S H C x y rx ry Qm Q rp dx dy k q => by
  unfold oIn at q
  cases hx : seqOf C ry with
  | none => rw [hx] at q; exact q.elim
  | some xs =>
    rw [hx] at q
    obtain ⟨a, vs, rfl, z, t⟩ := seq_of rp dy hx
    refine ⟨a, vs, rfl, z, flat_v dx q.1.1, flat_vs t q.1.2, ?_⟩
    rw [if_neg (by decide), flat_in dx q.1.1 t q.1.2]
    exact k _ _ _ _ _ q.2 rp (Le.refl _ _) (.bl _)⟩
theorem jo_notIn : JOp X Z (compareOp .NotIn) (oIn true) := ⟨_, op_notIn_seq, fun S H C x y rx ry Qm Q rp dx dy k q => by
  unfold oIn at q
  cases hx : seqOf C ry with
  | none => rw [hx] at q; exact q.elim
  | some xs =>
    rw [hx] at q
    obtain ⟨a, vs, rfl, z, t⟩ := seq_of rp dy hx
    refine ⟨a, vs, rfl, z, flat_v dx q.1.1, flat_vs t q.1.2, ?_⟩
    rw [if_pos rfl, flat_in dx q.1.1 t q.1.2]
    exact k _ _ _ _ _ q.2 rp (Le.refl _ _) (.bl _)⟩
theorem jo_and : JOp X Z (binaryOp .BitAnd) oAnd := ⟨_, op_andM, fun S H C x y rx ry Qm Q rp dx dy k q => by
  cases dx <;> cases dy <;> first
    | exact q.elim
    | (obtain ⟨j, rfl, q⟩ := q
       exact ⟨_, j, rfl, rfl, k _ _ _ _ _ q rp (Le.refl _ _) (.int _)⟩)⟩
end
end NB

set_option Elab.async false
set_option linter.all false
set_option maxRecDepth 100000
set_option maxHeartbeats 1000000
/-! MMore2: range with a step, gcd of math. -/
namespace NB
open PySem PySem.Spec PyProof.Rows L2
theorem stepsR_len : ∀ (n : Nat) (lo c : Int), (stepsR lo c n).length = n
  | 0, _, _ => rfl
  | n + 1, lo, c => congrArg (· + 1) (stepsR_len n (lo + c) c)
theorem stepsR_get : ∀ (n : Nat) (lo c : Int) (i : Nat), i < n → (stepsR lo c n)[i]? = some (.int (lo + (i : Nat) * c))
  | n + 1, lo, c, 0, _ => by simp [stepsR]
  | n + 1, lo, c, i + 1, h => by
    have := stepsR_get n (lo + c) c i (by omega)
    simp only [stepsR, List.getElem?_cons_succ, this]
    congr 2
    push_cast
    rw [Int.add_mul, Int.one_mul]
    omega
theorem yl_step {K : PySem.W.Frag} {S : Wd} {H : Hp} (lo c : Int) (n : Nat) : Yl K S H (Itc lo c n) (stepsR lo c n) where
  go := fun i S' H' C rp l hi => by rw [stepsR_len] at hi; exact hi
  yl := fun i S' H' C x H2 rp l hi y => by
    obtain ⟨rfl, rfl⟩ := y
    rw [stepsR_len] at hi
    exact ⟨S', _, stepsR_get n lo c i hi, rp, Le.refl _ _, .int _⟩
  stop := fun i S' H' C rp l hi => by rw [stepsR_len] at hi; exact hi
section
variable {X : Cx} {Z : Zx} {tg a b c e : Expr} {es : List Expr} {am : MA} {p pos : Pos}
theorem ji_rngD (hm : X.mg "range" = none) (ha : JA X Z [a, b, c] am) (hg : Gl X "range" := by rfl) (hs : starEach [a, b, c] X.env = (false, eval a X.env) :: starEach [b, c] X.env := by rfl)
    (hpl : (backTo pos (starEach [b, c] X.env)).any (·.1) = false := by rfl) : JI X Z tg (.Call (.Name "range" p) [a, b, c] [] pos) (iRgD am) := by
  obtain ⟨t, pa, k⟩ := ha
  refine ⟨_, pi_range3 hg hm pa hs hpl, fun S σ H Γ C Qm Q A l q => k S σ H Γ C _ _ A (fun r C1 v S1 H1 q1 rp1 l1 d1 => ?_) q⟩
  split at q1
  · cases d1 with
    | cons d t => cases t with
      | cons d2 t => cases t with
        | cons d3 t =>
          cases t; cases d; cases d2; cases d3
          obtain ⟨⟨rfl, h1, h2, h3, h4⟩, q1⟩ := q1
          exact ⟨_, _, _, _, rfl, RgC.neg h1 h2 h3 h4, l _ C1 S1 H1 _ q1 rp1 l1 (yl_step _ _ _)⟩
  · exact q1.elim
theorem jf_gcd : JF X Z (.builtin "math.gcd") fGcd := ⟨_, cr_gcd, fun S H C xs rs Qm Q rp d k q => by
  unfold fGcd at q
  split at q
  · cases d with
    | cons d t => cases t with
      | cons d2 t => cases t; cases d; cases d2; exact ⟨_, _, rfl, k _ _ _ _ _ q rp (Le.refl _ _) (.int _)⟩
  · exact q.elim⟩
/-- f(e, ..), f a name of the module for a built-in function -/
theorem je_bfun {x : Str} {id : String} {f : List R → Cs → Qe → Prop} (hf : JF X Z (.builtin id) f) (hm : X.mg x = some (.builtin id)) (ha : JA X Z (e :: es) am) (hg : Gl X x := by rfl) (hdb : (x == ("__debug__" : Str)) = false := by decide)
    (he : starEach (e :: es) X.env = (false, eval e X.env) :: starEach es X.env := by rfl) (hpl : (backTo pos (starEach es X.env)).any (·.1) = false := by rfl) : JE X Z (.Call (.Name x p) (e :: es) [] pos) (mFn f am) := by
  obtain ⟨r, h1, h2⟩ := hf
  obtain ⟨t, pa, ka⟩ := ha
  exact ⟨_, pe_callBfun h1 hg hm pa hdb he hpl, tr_fn h2 ka⟩
end
end NB

set_option Elab.async false
set_option linter.all false
set_option maxRecDepth 100000
set_option maxHeartbeats 2000000
/-! MRepr: repr of data, of dicts with flat values. -/
namespace NB
open PySem PySem.Spec L2
open PyProof.Rows
def toPs : List R → List (PyData × PyData)
  | k :: v :: l => (toD k, toD v) :: toPs l
  | _ => []
def toP : R → PyData
  | .scr xs => .dict (toPs xs)
  | r => toD r
def shwP (r : R) : Str := (toP r).shown
theorem noDict_hsm' {d : PyData} {as : List Addr} (h : d.hasDict = false) : d.hasDict = true → sysModules ∉ as := fun z => by rw [h] at z; cases z
theorem str_app (a b : Str) : (a ++ b).length = a.length + b.length := strLen_append a b
/-! ### no more signs than wR -/
theorem int_len (i : Int) : (Str.ofString (toString i)).length ≤ i.natAbs.log2 + 4 := by
  have h := int_text_length_le (a := i) (k := i.natAbs.log2 + 1) (by omega) (by omega)
  have e : (Str.ofString (toString i)).length = (toString i).length := by
    exact PySem.ofString_length _
  omega
mutual
theorem shown_len : ∀ (n : Nat) (r : R), plainR n r = true → (toD r).shown.length ≤ wR r
  | n, r, h => by
    cases r with
    | non => simp only [toD, PyData.shown, wR]; decide
    | bl b => simp only [toD, PyData.shown, wR]; cases b <;> decide
    | int i => simp only [toD, PyData.shown, wR]; exact int_len i
    | str z =>
      simp only [toD, PyData.shown, wR]
      refine StrLaws.reprText_len z fun c hc => ?_
      simp only [plainR] at h
      have := Array.all_eq_true'.mp h c (by simpa using hc)
      simp only [decide_eq_true_eq] at this
      omega
    | tup xs =>
      simp only [plainR, Bool.and_eq_true] at h
      have h1 := showns_len _ xs h.2
      have h2 := tupleText_len_le (PyData.shownAll (toDs xs))
      have h3 := PyData.shownAll_length (toDs xs)
      simp only [toD, PyData.shown, wR]
      omega
    | lst xs =>
      simp only [plainR, Bool.and_eq_true] at h
      have h1 := showns_len _ xs h.2
      have h2 := listText_len_le (PyData.shownAll (toDs xs))
      have h3 := PyData.shownAll_length (toDs xs)
      simp only [toD, PyData.shown, wR]
      omega
    | cell _ => simp [plainR] at h
    | scr _ => simp [plainR] at h
    | exn _ _ _ _ => simp [plainR] at h
theorem showns_len : ∀ (n : Nat) (xs : List R), plainRs n xs = true → ((PyData.shownAll (toDs xs)).map (·.length)).sum + 2 * (toDs xs).length ≤ wRs xs
  | n, [], _ => by simp [toDs, PyData.shownAll, wRs]
  | n, x :: xs, h => by
    simp only [plainRs, Bool.and_eq_true] at h
    have h1 := shown_len n x h.1
    have h2 := showns_len n xs h.2
    simp only [toDs, PyData.shownAll, wRs, List.map_cons, List.sum_cons, List.length_cons]
    omega
end
mutual
theorem showable_of : ∀ (r : R), shwOk r = true → (toD r).showable = true
  | r, h => by
    cases r with
    | int i => simp only [shwOk, decide_eq_true_eq] at h; simp only [toD, PyData.showable, decide_eq_true_eq]; omega
    | tup xs => simp only [shwOk] at h; simp only [toD, PyData.showable]; exact showables_of xs h
    | lst xs => simp only [shwOk] at h; simp only [toD, PyData.showable]; exact showables_of xs h
    | scr xs => simp only [shwOk] at h; simp only [toD, PyData.showable]; exact showables_of xs h
    | _ => simp only [toD, PyData.showable]
theorem showables_of : ∀ (xs : List R), shwOks xs = true → PyData.showableAll (toDs xs) = true
  | [], _ => by simp only [toDs, PyData.showableAll]
  | x :: xs, h => by
    simp only [shwOks, Bool.and_eq_true] at h
    simp only [toDs, PyData.showableAll, showable_of x h.1, showables_of xs h.2, Bool.and_self]
end
/-! ### a dict of flat values -/
def flatP (x : R) : Bool := reprN.flatR0 x && strOk x
theorem flat_len {x : R} (h : flatP x = true) : (toD x).shown.length ≤ wR x ∧ (toD x).depth = 0 := by
  have h0 : plainR 0 x = true := by
    unfold flatP at h
    cases x with
    | str z => simpa [reprN.flatR0, strOk, plainR] using h
    | non => simp [plainR]
    | bl _ => simp [plainR]
    | int _ => simp [plainR]
    | _ => simp [reprN.flatR0] at h
  exact ⟨shown_len 0 x h0, by have := (plain_shape 0 x h0).2; omega⟩
/-- x is what v is -/
theorem flat_rel {K : PySem.W.Frag} {S : Wd} {v : V} {x : R} (d : D K S v x) (h : flatP x = true) {hp : Heap} {u : Value} (r : RelV v u) : Reads hp u (toD x) [] := by
  unfold flatP at h
  cases d with
  | non => cases r; exact .none
  | bl b => cases r; exact .bool b
  | int i => obtain ⟨t, rfl⟩ := r; exact .int i t
  | str z => obtain ⟨t, rfl⟩ := r; exact .str z t
  | _ => simp [reprN.flatR0] at h
theorem key_reads {hp : Heap} {k : Key} {u : Value} (h : keyIs k u = true) : Reads hp u (toD (keyR k)) [] := by
  rcases keyIs_shape h with ⟨i, t, rfl, rfl⟩ | ⟨z, t, rfl, rfl⟩
  · exact .int i t
  · exact .str z t
theorem flatD_facts : ∀ {kvs : List (Key × R)}, ((flatD kvs).all flatP) = true → shwOks (flatD kvs) = true →
    ((PyData.shownKv (toPs (flatD kvs))).map (·.length)).sum + 2 * (toPs (flatD kvs)).length ≤ wRs (flatD kvs) ∧ PyData.showableKv (toPs (flatD kvs)) = true ∧ PyData.depthKv (toPs (flatD kvs)) = 0
  | [], _, _ => by simp [flatD, toPs, PyData.shownKv, wRs, PyData.showableKv, PyData.depthKv]
  | (k, v) :: l, h, h2 => by
    simp only [flatD, List.all_cons, Bool.and_eq_true] at h
    simp only [flatD, shwOks, Bool.and_eq_true] at h2
    obtain ⟨a, b, c⟩ := flatD_facts h.2.2 h2.2.2
    obtain ⟨k1, k2⟩ := flat_len h.1
    obtain ⟨v1, v2⟩ := flat_len h.2.1
    refine ⟨?_, ?_, ?_⟩
    · simp only [flatD, toPs, PyData.shownKv, wRs, List.map_cons, List.sum_cons, List.length_cons, str_app]
      have : (Str.ofString ": ").length = 2 := rfl
      omega
    · simp only [flatD, toPs, PyData.showableKv, showable_of _ h2.1, showable_of _ h2.2.1, b, Bool.and_self]
    · simp only [flatD, toPs, PyData.depthKv, k2, v2, c]; rfl
theorem flatD_reads {P : Program} {w : World} {K : PySem.W.Frag} {S : Wd} {hp : Heap} : ∀ {kvs : List (Key × R)} {kv : List (Key × V)} {va : List (Key × Value)} {es : List DictEntry}, kv.map (·.1) = kvs.map (·.1) → DL K S (kv.map (·.2)) (kvs.map (·.2)) → KV kv va →
    Pairs (mixKind P w) es va → ((flatD kvs).all flatP) = true → ReadsAll hp (es.map (·.key)) ((toPs (flatD kvs)).map (·.1)) [] ∧ ReadsAll hp (es.map (·.val)) ((toPs (flatD kvs)).map (·.2)) []
  | [], kv, va, es, e1, dl, hkv, hp2, _ => by
    cases kv with
    | nil => cases hkv; cases hp2; exact ⟨.nil, .nil⟩
    | cons _ _ => cases e1
  | (k, v) :: l, kv, va, es, e1, dl, hkv, hp2, h => by
    cases kv with
    | nil => cases e1
    | cons p kv =>
      simp only [List.map_cons, List.cons.injEq] at e1
      cases dl with
      | cons d dl =>
        cases hkv with
        | @cons _ q _ va h1 hkv =>
          cases hp2 with
          | cons ki vi hp2 =>
            simp only [flatD, List.all_cons, Bool.and_eq_true] at h
            obtain ⟨a, b⟩ := flatD_reads e1.2 dl hkv hp2 h.2.2
            have kk : p.1 = k := e1.1
            have r1 := key_reads (hp := hp) ki
            rw [← h1.1, kk] at r1
            have r2 := flat_rel (hp := hp) d h.2.1 h1.2
            rw [← vi] at r2
            exact ⟨.cons r1 a, .cons r2 b⟩
section
variable {X : Cx} {Z : Zx}
def rRepr (K : PySem.W.Frag) : List V → Hp → VK → Prop := fun xs H Q => ∃ x, xs = [x] ∧ ∃ d : PyData, ((d.hasDict = false ∧ Dp K H x d) ∨
    ∃ (a : Addr) (kv : List (Key × V)) (kvs : List (Key × R)) (S : Wd), x = .ref a ∧ H a = some (.dK kv) ∧ kv.map (·.1) = kvs.map (·.1) ∧ DL K S (kv.map (·.2)) (kvs.map (·.2)) ∧ (flatD kvs).all flatP = true ∧ d = .dict (toPs (flatD kvs))) ∧
  d.showable = true ∧ d.depth ≤ 20 ∧ d.shown.length ≤ sizeLine ∧ Q (.str d.shown) H
theorem call_reprD (hu : X.A.units + 64 < cLine) (hg : X.A.guards = some []) : CallR X (.builtin "repr") (rRepr X.K) := by
  intro pins s σ H xs us Q I r h
  obtain ⟨x, rfl, d, hd, hs, hdep, hz, q⟩ := h
  obtain ⟨u, rfl, ru⟩ := vals1 r
  have rd : ∃ as, Reads s.heap u d as ∧ (d.hasDict = true → sysModules ∉ as) := by
    rcases hd with ⟨nd, hd⟩ | ⟨a, kv, kvs, S, rfl, ha, e1, dl, hf, rfl⟩
    · obtain ⟨as, rd⟩ := Dp.reads I d x u hd ru
      exact ⟨as, rd, noDict_hsm' nd⟩
    · obtain rfl : u = .ref a := ru
      obtain ⟨_, hm, va, hkv, o, es, ep, h1, h2, h3, _, h5, _⟩ := (show ObjOk X.prog X.w H s.heap a (.dK kv) from I.hok a _ ha)
      obtain ⟨r1, r2⟩ := flatD_reads (hp := s.heap) e1 dl hkv h5 hf
      refine ⟨_, .dict h1 h2.1 h3 r1 r2, fun _ z => ?_⟩
      have z' : sysModules ∈ [a] := by simpa using z
      rw [List.mem_singleton] at z'
      rw [← z'] at hm
      simp at hm
  obtain ⟨as, rd, hsm⟩ := rd
  cases rd with
  | none => exact PySem.P.repr_of_none ⟨.str _, H, I.tok _, ⟨_, rfl⟩, q⟩
  | bool b => exact PySem.P.repr_of_bool ⟨.str _, H, I.tok _, ⟨_, rfl⟩, q⟩
  | int i t =>
    simp only [PyData.showable, decide_eq_true_eq] at hs
    exact PySem.P.repr_of_int hs ⟨.str _, H, I.tok _, ⟨_, rfl⟩, q⟩
  | str z t =>
    simp only [PyData.shown] at hz
    exact PySem.P.repr_of_str ⟨.str _, H, I.tok _, ⟨_, rfl⟩, q⟩ hz
  | list g1 g2 g3 g4 => exact PySem.repr_of_reads' (.list g1 g2 g3 g4) hs hsm hg (by omega) (fun _ _ h => h) (fun h' u tk hk => ⟨.str _, H, I.kept hk, ⟨_, rfl⟩, q⟩) hz
  | tuple g1 g2 g3 g4 => exact PySem.repr_of_reads' (.tuple g1 g2 g3 g4) hs hsm hg (by omega) (fun _ _ h => h) (fun h' u tk hk => ⟨.str _, H, I.kept hk, ⟨_, rfl⟩, q⟩) hz
  | dict g1 g2 g3 g4 g5 => exact PySem.repr_of_reads' (.dict g1 g2 g3 g4 g5) hs hsm hg (by omega) (fun _ _ h => h) (fun h' u tk hk => ⟨.str _, H, I.kept hk, ⟨_, rfl⟩, q⟩) hz
theorem jf_repr (hu : X.A.units + 64 < cLine) (hg : X.A.guards = some []) : JF X Z (.builtin "repr") (fRepr shwP) := ⟨_, call_reprD hu hg, fun S H C xs rs Qm Q rp d k q => by
  unfold fRepr at q
  split at q
  · rename_i r
    cases d with
    | @cons v _ _ _ d t =>
      cases t
      obtain ⟨t, ht, ⟨w1, w2⟩, q⟩ := optP_ex q
      have res : resN 9 C r = some t → rRepr X.K [v] H Q := fun e => by
        obtain ⟨a1, b1⟩ := res_ok rp 9 d e
        have pt : toP t = toD t := by
          cases t with
          | scr _ => simp [plainR] at b1
          | _ => rfl
        obtain ⟨c1, c2⟩ := plain_shape 9 t b1
        have c3 := shown_len 9 t b1
        refine ⟨v, rfl, toD t, .inl ⟨PyData.hasDict_of_canLay _ c1, a1⟩, showable_of t w2, by omega, ?_, ?_⟩
        · rw [sizeLine_eq]; omega
        · have q' : Qm (.str (toP t).shown) C := q
          rw [pt] at q'
          exact k _ _ _ _ _ q' rp (Le.refl _ _) (.str _)
      cases r with
      | cell kk =>
        unfold reprN at ht
        dsimp only at ht
        cases d with
        | @cell a _ hp =>
          cases e : C[kk]? with
          | none => rw [e] at ht; exact res ht
          | some c =>
            rw [e] at ht
            cases c with
            | dct kvs =>
              dsimp only at ht
              split at ht
              · rename_i hf
                cases ht
                obtain ⟨kv, z1, z2, z3⟩ := rp.at_ kk a _ hp e
                have hf' : (flatD kvs).all flatP = true := hf
                simp only [shwOk] at w2
                obtain ⟨f1, f2, f3⟩ := flatD_facts hf' w2
                have f4 := dictText_len_le (PyData.shownKv (toPs (flatD kvs)))
                have f5 := PyData.shownKv_length (toPs (flatD kvs))
                simp only [wR] at w1
                refine ⟨_, rfl, .dict (toPs (flatD kvs)), .inr ⟨a, kv, kvs, S, rfl, z1, z2, z3, hf', rfl⟩, by simpa only [PyData.showable] using f2, by simp only [PyData.depth]; omega, ?_, ?_⟩
                · simp only [PyData.shown]; rw [sizeLine_eq]; omega
                · exact k _ _ _ _ _ q rp (Le.refl _ _) (.str _)
              · cases ht
            | _ => exact res ht
      | _ => exact res ht
  · exact q.elim⟩
end
end NB

set_option Elab.async false
set_option linter.all false
set_option maxRecDepth 100000
set_option maxHeartbeats 1000000
/-! MMore3: list(range(..)), .. -/
namespace NB
open PySem PySem.Spec PyProof.Rows L2
theorem upto_map : ∀ (n : Nat) (lo : Int), upto lo n = (List.range n).map fun i => .int (lo + (i : Nat))
  | 0, _ => rfl
  | n + 1, lo => by
    rw [upto, upto_map n (lo + 1), List.range_succ_eq_map, List.map_cons, List.map_map]
    congr 1
    · simp
    · apply List.map_congr_left
      intro i _
      show R.int _ = R.int _
      congr 1
      show lo + 1 + (i : Int) = lo + ((i + 1 : Nat) : Int)
      omega
theorem dl_rg {K : PySem.W.Frag} {S : Wd} (a b : Int) : DL K S (rgV a b) (upto a (b - a).toNat) := by
  rw [upto_map]
  unfold rgV
  generalize List.range (b - a).toNat = l
  induction l with
  | nil => exact .nil
  | cons i l ih => exact .cons (.int _) ih
theorem kit_ref {K : PySem.W.Frag} {C D : Addr} (h1 : PySem.W.isClsIn K D = true) (h2 : PySem.W.typeIn K (.ref D) = some (.type "type")) (h3 : PySem.W.subIn K (.ref C) (.ref D) = some true) : PySem.W.kitOne K (.ref C) (.ref D) = some true := by
  have e : ((PySem.W.clsIn K D).isSome && PySem.W.typeIn K (.ref D) == some (Value.type "type")) = true := by
    rw [h2]
    have h1' : (PySem.W.clsIn K D).isSome = true := h1
    rw [h1']; rfl
  show (if _ then some true else (if ((PySem.W.clsIn K D).isSome && PySem.W.typeIn K (.ref D) == some (Value.type "type")) = true then PySem.W.subIn K (.ref C) (.ref D) else none)) = some true
  rw [if_pos e, h3]
  split <;> rfl
section
variable {X : Cx} {Z : Zx} {a b e : Expr} {es : List Expr} {m ma mb : ME} {am : MA} {p q pos : Pos}
theorem je_listRange1 (cell : Bool) (hc : X.calm = true) (hm : X.mg "list" = none) (hr : X.mg "range" = none) (ha : JE X Z a ma) (hg : Gl X "list" := by rfl) (hgr : Gl X "range" := by rfl) {rp : Pos}
    (na : starEach [a] X.env = (false, eval a X.env) :: starEach [] X.env := by rfl) (nb : starEach [.Call (.Name "range" q) [a] [] rp] X.env = (false, eval (.Call (.Name "range" q) [a] [] rp) X.env) :: starEach [] X.env := by rfl) :
    JE X Z (.Call (.Name "list" p) [.Call (.Name "range" q) [a] [] rp] [] pos) (mLRg cell (mCons ma mNil)) := by
  obtain ⟨t, pa, ka⟩ := ha
  refine ⟨_, pe_listRg hc hg hm (prg_1 hgr hr pa na) nb, fun S σ H Γ C Qm Q A k q => ?_⟩
  refine ka S σ H Γ C _ _ A (fun r C1 v S1 H1 q1 rp1 l1 d1 => ?_) q
  cases d1 with
  | int j =>
    obtain ⟨⟨b1, b2⟩, q1⟩ := q1
    refine ⟨j, rfl, ⟨by omega, by omega, by omega, by omega, by omega⟩, fun p hp => ?_⟩
    have d := dl_rg (K := X.K) (S := S1) 0 j
    rw [Int.sub_zero] at d
    exact new_lst rp1 (k.go l1) d hp q1
  | _ => exact q1.elim
theorem je_listRange2 (cell : Bool) (hc : X.calm = true) (hm : X.mg "list" = none) (hr : X.mg "range" = none) (ha : JE X Z a ma) (hb : JE X Z b mb) (hg : Gl X "list" := by rfl) (hgr : Gl X "range" := by rfl) {rp : Pos}
    (na : starEach [a, b] X.env = (false, eval a X.env) :: starEach [b] X.env := by rfl) (nb : starEach [b] X.env = (false, eval b X.env) :: starEach [] X.env := by rfl) (hp : (backTo rp (starEach [b] X.env)).any (·.1) = false := by rfl)
    (nc : starEach [.Call (.Name "range" q) [a, b] [] rp] X.env = (false, eval (.Call (.Name "range" q) [a, b] [] rp) X.env) :: starEach [] X.env := by rfl) :
    JE X Z (.Call (.Name "list" p) [.Call (.Name "range" q) [a, b] [] rp] [] pos) (mLRg cell (mCons ma (mCons mb mNil))) := by
  obtain ⟨t, pa, ka⟩ := ha
  obtain ⟨u, pb, kb⟩ := hb
  refine ⟨_, pe_listRg hc hg hm (prg_2 hgr hr pa pb na nb hp) nc, fun S σ H Γ C Qm Q A k q => ?_⟩
  refine ka S σ H Γ C _ _ A (fun r C1 v S1 H1 q1 rp1 l1 d1 => ?_) q
  refine kb S1 σ H1 Γ C1 _ _ (A.go l1 rp1) (fun r2 C2 v2 S2 H2 q2 rp2 l2 d2 => ?_) q1
  cases d1 with
  | int i =>
    cases d2 with
    | int j =>
      obtain ⟨⟨b1, b2, b3, b4, b5⟩, q2⟩ := q2
      exact ⟨i, j, rfl, rfl, ⟨by omega, by omega, by omega, by omega, by omega⟩, fun p hp => new_lst rp2 (k.go (l1.trans l2)) (dl_rg i j) hp q2⟩
    | _ => exact q2.elim
  | _ => cases d2 <;> exact q2.elim
end
end NB

set_option Elab.async false
set_option linter.all false
set_option maxRecDepth 100000
set_option maxHeartbeats 4000000
/-! MMore4: a tuple turned round -/
namespace NB
open PySem PySem.Spec PyProof.Rows L2
section
variable {prog : Program} {w : World} {A : Around} {E : Value → Shared → Prop} {s : Shared}
theorem rev_adj (n : Nat) : Builtin.Slice.sliceAdjust none none (-1) (n : Int) = ((n : Int) - 1, -1) := by
  unfold Builtin.Slice.sliceAdjust
  have h : ((-1 : Int) < 0) := by decide
  simp only [h, if_true]
theorem rev_places (n : Nat) : Builtin.Slice.slicePlaces ((n : Int) - 1) (-1) (-1) = n := by
  unfold Builtin.Slice.slicePlaces
  have h : ¬ ((-1 : Int) > 0) := by decide
  simp only [h, if_false]
  have e : (- -1 : Int) = 1 := by decide
  rw [e, Int.ediv_one]
  split <;> omega
theorem rev_applied {sl : Addr} {vs : Value} {n : Nat} {Q : Int × Int × Nat → Shared → Prop} (hs : s.heap.IsSliceOf sl .none .none vs) (ps : IsPart vs (some (-1)))
    (h : Q ((n : Int) - 1, -1, n) s) : wpAny (model prog w) A (Builtin.Slice.sliceApplied (.ref sl) (pure (n : Int))) Q E s := by
  obtain ⟨os, hos, hcs, hds⟩ := id hs
  unfold Builtin.Slice.sliceApplied Builtin.Slice.sliceFields
  refine wpAny_bind (wpAny_bind (wpAny_field hos hds (x := .none) rfl (wpAny_bind (wpAny_field hos hds (x := .none) rfl (wpAny_bind (wpAny_field hos hds (x := vs) rfl (wpAny_pure ?_)))))))
  refine wpAny_bind (HT.slicePart_ ps ?_)
  show wpAny _ _ (if ((-1 : Int) == 0) = true then _ else _) _ _ s
  rw [if_neg (by decide)]
  refine wpAny_bind (slicePart_none (wpAny_bind (slicePart_none (wpAny_bind (wpAny_pure ?_)))))
  show wpAny _ _ (match Builtin.Slice.sliceAdjust none none (-1) (n : Int) with | (lo, hi) => pure (lo, (-1 : Int), Builtin.Slice.slicePlaces lo hi (-1))) _ _ s
  rw [rev_adj n]
  show wpAny _ _ (pure ((n : Int) - 1, (-1 : Int), Builtin.Slice.slicePlaces ((n : Int) - 1) (-1) (-1))) _ _ s
  rw [rev_places]
  exact wpAny_pure h
theorem rev_pick (xs : Array Value) : ((List.range xs.size).filterMap fun (m : Nat) => xs[(((xs.size : Int) - 1) + (m : Int) * (-1)).toNat]?).toArray = xs.toList.reverse.toArray := by
  have e : (fun (m : Nat) => xs[(((xs.size : Int) - 1) + (m : Int) * (-1)).toNat]?) = (fun j => xs[j]?) ∘ fun m => xs.size - 1 - m := by
    funext m
    show xs[_]? = xs[_]?
    by_cases h : m ≤ xs.size - 1
    · have : (((xs.size : Int) - 1) + (m : Int) * (-1)).toNat = xs.size - 1 - m := by omega
      rw [this]
    · have : (((xs.size : Int) - 1) + (m : Int) * (-1)).toNat = xs.size - 1 - m := by omega
      rw [this]
  rw [e, ← List.filterMap_map, PySem.W.krv_range, List.filterMap_reverse]
  have := PySem.W.krv_all xs
  rw [this]
theorem getItem_tuple_rev {t sl : Addr} {items : Array Value} {vs : Value} {Q : Value → Shared → Prop} (ht : IsTup s.heap t items) (hs : s.heap.IsSliceOf sl .none .none vs) (ps : IsPart vs (some (-1)))
    (h : Q (.ref s.heap.objs.size) { s with heap := s.heap.push { cls := .type "tuple", data := .seq items.toList.reverse.toArray } })
    (hsz : items.size ≤ sizeLine) : wpAny (model prog w) A (getItem (.ref t) (.ref sl)) Q E s := by
  have htake : sizeOk (.seq items.toList.reverse.toArray) := by
    show items.toList.reverse.toArray.size ≤ sizeLine
    rw [List.size_toArray, List.length_reverse, Array.length_toList]
    exact hsz
  obtain ⟨os, hos, hcs, hds⟩ := id hs
  have hTs : s.TypeIs (.ref sl) "slice" := ⟨os, hos, hcs⟩
  unfold getItem
  try with_reducible refine wpAny_holding ?_
  first | refine wpAny_bind (wpAny_pure ?_) | skip
  refine wpAny_bind (wpAny_sequenceKey ht.typeIs (by decide) ?_)
  refine wpAny_bind (wpAny_callSpecial?_slot (name := Str.ofString "__getitem__") ht.typeIs PyProof.Rows.slot_tuple_getitem
    (wpAny_call_entry PyProof.Rows.slot_tuple_getitem ht.typeIs entry_tuple_getitem ?_ (args_tuple_getitem _ _)))
  show wpAny _ _ (Builtin.Tuple.tupleItemsOf (.ref t) >>= _) _ _ s
  refine wpAny_bind (tupleItemsOf_ ht ?_)
  refine wpAny_bind (wpAny_typeOf hTs ?_)
  rw [if_pos (by decide)]
  refine wpAny_bind (rev_applied hs ps ?_)
  have hno : ¬ ((((items.size : Int) - 1) == 0 && (-1 : Int) == 1 && items.size == items.size) = true) := by
    intro q
    rw [Bool.and_eq_true, Bool.and_eq_true] at q
    exact absurd q.1.2 (by decide)
  show wpAny _ _ (if (((items.size : Int) - 1) == 0 && (-1 : Int) == 1 && items.size == items.size) = true then _ else _) _ _ s
  rw [if_neg hno, rev_pick]
  first
    | exact wpAny_bind (m := Builtin.Tuple.tupleExact _) (wpAny_newObj_type (wpAny_pure ⟨_, rfl, wpAny_pure h⟩) htake)
    | exact wpAny_bind (m := Builtin.Tuple.tupleExact _) (wpAny_newObj_type (wpAny_bind (wpAny_pure (wpAny_pure ⟨_, rfl, wpAny_pure h⟩))) htake)
    | exact wpAny_bind (wpAny_bind (m := Builtin.Tuple.tupleExact _) (wpAny_newObj_type (wpAny_pure (wpAny_pure ⟨_, rfl, wpAny_pure h⟩)) htake))
    | exact wpAny_bind (wpAny_bind (m := Builtin.Tuple.tupleExact _) (wpAny_newObj_type (wpAny_pure ⟨_, rfl, wpAny_pure h⟩) htake))
end
def tRevT (K : PySem.W.Frag) (te : TE) : TE := fun σ H Q => te σ H fun x H1 => ∃ a xs, x = .ref a ∧ SqT K H1 a xs ∧ ∀ p, H1 p = none → Q (.ref p) (upd H1 p (.tup xs.reverse))
theorem pe_revT {X : Cx} {e : Expr} {te : TE} {k : Nat} {p1 p2 p3 pos : Pos} (he : PE X e te) : PE X (.Subscript e (.Slice none none (some (.UnaryOp .USub (.Constant (.int 1) k p1) p2)) p3) pos) (tRevT X.K te) := by
  refine ⟨fun pins s σ H Q I h => ?_⟩
  refine Subscript_ (thn (he.run pins s σ H _ I h) fun v s1 ⟨x, H1, I1, r1, q1⟩ => ?_)
  obtain ⟨a, xs, ex, hx, q⟩ := q1
  subst ex
  cases r1
  have hst : PO X (some (.UnaryOp .USub (.Constant (.int 1) k p1) p2)) (tPart (tUn (rU fun i => .int (-i)) (tC (.int 1)))) := po_some (pe_un un_neg pe_int)
  refine wpAny_Slice (thn (po_none.run pins s1 σ H1 (fun o H2 => o = none ∧ H2 = H1) I1 ⟨rfl, rfl⟩) fun vl s2 ⟨l, H2, I2, pl, el, e2⟩ => ?_)
  subst el e2
  refine thn (po_none.run pins s2 σ H2 (fun o H3 => o = none ∧ H3 = H2) I2 ⟨rfl, rfl⟩) fun vu s3 ⟨u, H3, I3, pu, eu, e3⟩ => ?_
  subst eu e3
  refine thn (hst.run pins s3 σ H3 (fun o H4 => o = some (-1) ∧ H4 = H3) I3 ⟨1, rfl, -1, rfl, rfl, rfl⟩) fun vs s4 ⟨o, H4, I4, ps, eo, e4⟩ => ?_
  subst eo e4
  have I5 : Inv X pins σ H4 { s4 with heap := s4.heap.push { cls := .type "slice", data := .fields #[vl, vu, vs] } } := I4.kept (t' := s4.toks) fun b ob q => Heap.get?_push_of_some _ q
  obtain ⟨its, r, ht, hz⟩ := I5.tuple hx
  have hlen := r.length
  cases pl
  cases pu
  show wpAny (model X.prog X.w) X.A (subscriptTail e (.Slice none none (some (.UnaryOp .USub (.Constant (.int 1) k p1) p2)) p3) (.ref a) (.ref s4.heap.objs.size)) (EP X pins σ Q) X.xe { s4 with heap := s4.heap.push { cls := .type "slice", data := .fields #[.none, .none, vs] } }
  refine tail_any (ops := [.ref a, .ref s4.heap.objs.size]) ht.typeIs (PyProof.Rows.slot_tuple_getitem.lookup) ?_ (by with_unfolding_all rfl)
  refine getItem_tuple_rev ht (Heap.IsSliceOf.new _ .none .none vs) ps ?_ (by rw [List.size_toArray]; omega)
  refine ⟨.ref _, _, I5.laid (t' := s4.toks) (o := .tup xs.reverse) (fun b ob q => Heap.get?_push_of_some _ q) (Nat.le_refl _) ?_, rfl, q _ (I5.hok.fresh (Nat.le_refl _))⟩
  exact ⟨by rw [List.length_reverse]; omega, _, r.reverse, IsTup.new _ _⟩
section
variable {X : Cx} {Z : Zx} {e : Expr} {m : ME} {pos : Pos}
theorem je_revT {k : Nat} {p1 p2 p3 : Pos} (he : JE X Z e m) : JE X Z (.Subscript e (.Slice none none (some (.UnaryOp .USub (.Constant (.int 1) k p1) p2)) p3) pos) (mRevT m) := by
  obtain ⟨t, p, k⟩ := he
  refine ⟨_, pe_revT p, fun S σ H Γ C Qm Q A l q => k S σ H Γ C _ _ A (fun r C1 v S1 H1 q1 rp1 l1 d1 => ?_) q⟩
  cases d1 with
  | @tup _ _ xs h t =>
    obtain ⟨a, vs, e, z, t⟩ := tup_of rp1 (D.tup h t)
    refine ⟨a, vs, e, z, fun p hp => ?_⟩
    obtain ⟨rp4, l4⟩ := rp1.freeze (o := .tup vs.reverse) hp
    exact l _ C1 _ _ _ q1 rp4 (l1.trans l4) (.tup (by exact upd_same) (t.reverse.mono l4))
  | _ => exact q1.elim
end
section
variable {X : Cx} {Z : Zx} {e : Expr} {m : ME} {pos : Pos}
theorem je_isi2 (c c2 : String) {p pa2 pb2 pt : Pos} {kt : Nat} {y y2 : Str} (hk : kitM X.K c) (hk2 : kitM X.K c2) (hm : X.mg "isinstance" = none) (hmy : X.mg y = none) (hmy2 : X.mg y2 = none) (ha : JE X Z e m) (hg : Gl X "isinstance" := by rfl) (hgy : Gl X y := by rfl) (hgy2 : Gl X y2 := by rfl)
    (hv : bootBuiltins "isinstance" = some (.builtin "isinstance") := by decide +kernel)
    (hvy : bootBuiltins y = some (.type c) := by decide +kernel) (hvy2 : bootBuiltins y2 = some (.type c2) := by decide +kernel) (hn : y ≠ "__name__" := by decide) (hn2 : y2 ≠ "__name__" := by decide) (hdb : (y == ("__debug__" : Str)) = false := by decide) (hdb2 : (y2 == ("__debug__" : Str)) = false := by decide)
    (hi : starEach [.Name y pa2, .Name y2 pb2] X.env = (false, eval (.Name y pa2) X.env) :: starEach [.Name y2 pb2] X.env := by rfl) (hi2 : starEach [.Name y2 pb2] X.env = (false, eval (.Name y2 pb2) X.env) :: starEach [] X.env := by rfl)
    (he : starEach [e, .Tuple [.Name y pa2, .Name y2 pb2] kt pt] X.env = (false, eval e X.env) :: starEach [.Tuple [.Name y pa2, .Name y2 pb2] kt pt] X.env := by rfl) (he2 : starEach [.Tuple [.Name y pa2, .Name y2 pb2] kt pt] X.env = (false, eval (.Tuple [.Name y pa2, .Name y2 pb2] kt pt) X.env) :: starEach [] X.env := by rfl) (hpl : (backTo pos (starEach [.Tuple [.Name y pa2, .Name y2 pb2] kt pt] X.env)).any (·.1) = false := by rfl) :
    JE X Z (.Call (.Name "isinstance" p) [e, .Tuple [.Name y pa2, .Name y2 pb2] kt pt] [] pos) (mFn (fIsi2 c c2) (mCons m mNil)) := by
  obtain ⟨t, pa, ka⟩ := ha
  have pt : PE X (.Tuple [.Name y pa2, .Name y2 pb2] kt pt) _ := pe_tup (pa_cons (pe_bltn hgy hmy hvy (v := .ty c) rfl hn hdb) (pa_cons (pe_bltn hgy2 hmy2 hvy2 (v := .ty c2) rfl hn2 hdb2) pa_nil hi2) hi)
  refine ⟨_, pe_callB call_isiT hg hm hv (pa_cons pa (pa_cons pt pa_nil he2) he) (by decide) (by decide) he hpl, fun S σ H Γ C Qm Q A l q => ka S σ H Γ C _ _ A (fun r C1 v S1 H1 q1 rp1 l1 d1 => ?_) q⟩
  unfold fIsi2 mNil at q1
  dsimp only at q1
  cases et : tyOf C1 r with
  | none => rw [et] at q1; exact q1.elim
  | some t =>
    rw [et] at q1
    simp only [optP] at q1
    cases eb : isiM t c with
    | none => rw [eb] at q1; exact q1.elim
    | some b =>
      rw [eb] at q1
      dsimp only at q1
      cases eb2 : isiM t c2 with
      | none => rw [eb2] at q1; exact q1.elim
      | some b2 =>
        rw [eb2] at q1
        dsimp only at q1
        refine ⟨by show 2 ≤ sizeLine; rw [sizeLine_eq]; omega, fun p hp => ?_⟩
        obtain ⟨rp2, l2⟩ := rp1.freeze (o := .tup [.ty c, .ty c2]) hp
        refine ⟨v, p, [.ty c, .ty c2], .type t, [.type c, .type c2], b || b2, rfl, upd_same, .cons (.ty c) (.cons (.ty c2) .nil), tyX_of rp2 (d1.mono l2) et, ?_, l _ C1 _ _ _ q1 rp2 (l1.trans l2) (.bl _)⟩
        refine kitAny_cons ((hk t (tyOf_mem et)).trans eb) (fun hb => ?_) (fun hb => by rw [hb]; rfl)
        refine kitAny_cons (b := b2) ((hk2 t (tyOf_mem et)).trans eb2) (fun hb2 => ?_) (fun hb2 => by rw [hb2, hb]; rfl)
        rw [hb, hb2]; rfl
/-- a text constant of the module -/
theorem je_gS {x : Str} {z : Str} {p : Pos} (h : ∃ t, X.mg x = some (.str z t)) (hg : Gl X x := by rfl) (hdb : (x == ("__debug__" : Str)) = false := by decide) : JE X Z (.Name x p) (mC (.str z)) := by
  obtain ⟨t, ht⟩ := h
  exact je_gC (v := .str z) (fun _ => .str z) ht ⟨t, rfl⟩ hg hdb
end
/-! ### dicts -/
section
variable {K : PySem.W.Frag} {S : Wd} {H : Hp} {C : Cs} {v w : V} {r : R}
theorem ky_v {v : V} {r : R} {k : Key} (d : D K S v r) (h : kyR r = some k) : v = kV k := by
  cases d <;> first | (cases h; done) | (cases h; rfl)
theorem kys_v : ∀ {vs : List V} {rs : List R} {ks : List Key}, DL K S vs rs → kysR rs = some ks → vs = ks.map kV
  | _, _, _, .nil, h => by cases h; rfl
  | _, r :: rs, _, .cons d t, h => by
    unfold kysR at h
    cases e1 : kyR r with
    | none => rw [e1] at h; cases h
    | some k =>
      cases e2 : kysR rs with
      | none => rw [e1, e2] at h; cases h
      | some ks =>
        rw [e1, e2] at h
        cases h
        rw [ky_v d e1, kys_v t e2]; rfl
theorem val_dl {κ : Type} [DecidableEq κ] (k : κ) : ∀ {kv : List (κ × V)} {kvs : List (κ × R)}, kv.map (·.1) = kvs.map (·.1) → DL K S (kv.map (·.2)) (kvs.map (·.2)) →
    (valD kvs k = none ∧ valV kv k = none) ∨ ∃ r v, valD kvs k = some r ∧ valV kv k = some v ∧ D K S v r
  | [], [], _, _ => .inl ⟨rfl, rfl⟩
  | [], _ :: _, e, _ => by cases e
  | _ :: _, [], e, _ => by cases e
  | p :: kv, q :: kvs, e, t => by
    simp only [List.map_cons, List.cons.injEq] at e
    cases t with
    | cons d t =>
      by_cases h : q.1 = k
      · refine .inr ⟨q.2, p.2, ?_, valV_pos (e.1.trans h), d⟩
        simp [valD, List.find?_cons, h]
      · have h' : ¬ p.1 = k := fun z => h (e.1.symm.trans z)
        rw [valV_neg h', show valD (q :: kvs) k = valD kvs k by simp [valD, List.find?_cons, h]]
        exact val_dl k e.2 t
theorem dget_of (rp : Rep K S H C) {x y : R} {o : Option R} (dx : D K S v x) (dy : D K S w y) (h : dGet C x y = some o) :
    ∃ a o', v = .ref a ∧ DGet H a w o' ∧ ((o = none ∧ o' = none) ∨ ∃ r u, o = some r ∧ o' = some u ∧ D K S u r) := by
  unfold dGet at h
  cases dx with
  | @cell a k hp =>
    dsimp only at h
    cases e : C[k]? with
    | none => rw [e] at h; cases h
    | some c =>
      rw [e] at h
      cases c with
      | dct kvs =>
        obtain ⟨ky, ek, h⟩ := Option.map_eq_some_iff.mp h
        obtain ⟨kv, z1, z2, z3⟩ := rp.at_ k a _ hp e
        have := ky_v dy ek
        subst this
        refine ⟨a, valV kv ky, rfl, DGet.k z1, ?_⟩
        rcases val_dl ky z2 z3 with ⟨h1, h2⟩ | ⟨r, u, h1, h2, d⟩
        · exact .inl ⟨h.symm.trans h1, h2⟩
        · exact .inr ⟨r, u, h.symm.trans h1, h2, d⟩
      | dtt kvs =>
        dsimp only at h
        cases dy with
        | tup ht t =>
          obtain ⟨ky, ek, h⟩ := Option.map_eq_some_iff.mp h
          obtain ⟨kv, z1, z2, z3⟩ := rp.at_ k a _ hp e
          have := kys_v t ek
          subst this
          refine ⟨a, valV kv ky, rfl, DGet.t z1 (rp.sub _ _ ht), ?_⟩
          rcases val_dl ky z2 z3 with ⟨h1, h2⟩ | ⟨r, u, h1, h2, d⟩
          · exact .inl ⟨h.symm.trans h1, h2⟩
          · exact .inr ⟨r, u, h.symm.trans h1, h2, d⟩
        | _ => cases h
      | _ => cases h
  | _ => cases h
end
section
variable {X : Cx} {Z : Zx} {e o i : Expr} {m mo mi : ME} {pos : Pos}
theorem je_dctT0 : JE X Z (.Dict [] [] pos) mDctT0 := ⟨_, pe_dnewT, fun S σ H Γ C Qm Q A l q p hp => by
  obtain ⟨rp2, l2⟩ := A.rp.grow (o := .dT []) (c := .dtt []) hp fun S' _ => ⟨[], upd_same, rfl, .nil⟩
  exact l _ _ _ _ _ q rp2 l2 (.cell (by
    show (S.ps ++ [p])[C.length]? = _
    rw [← A.rp.len, List.getElem?_append_right (Nat.le_refl _), Nat.sub_self]; rfl))⟩
theorem je_ixD (hu : X.A.units + 64 < cLine) (ho : JE X Z o mo) (hi : JE X Z i mi) (hs : NoSl i := by intro _ _; rfl) : JE X Z (.Subscript o i pos) (mOp oIxD mo mi) := by
  obtain ⟨t, p, k⟩ := ho
  obtain ⟨u, pu, ku⟩ := hi
  refine ⟨_, pe_dget (by omega) p pu hs, fun S σ H Γ C Qm Q A l q => ?_⟩
  refine k S σ H Γ C _ _ A (fun x C1 y S1 H1 q1 rp1 l1 d1 => ?_) q
  refine ku S1 σ H1 Γ C1 _ _ (A.go l1 rp1) (fun n C2 w S2 H2 q2 rp2 l2 d2 => ?_) q1
  unfold oIxD at q2
  obtain ⟨og, eg, q2⟩ := optP_ex q2
  obtain ⟨r, er, q2⟩ := optP_ex q2
  subst er
  obtain ⟨a, o', rfl, g, h⟩ := dget_of rp2 (d1.mono l2) d2 eg
  rcases h with ⟨h, _⟩ | ⟨r', u', h1, rfl, d⟩
  · cases h
  · cases h1
    exact ⟨a, u', rfl, g, l _ _ _ _ _ q2 rp2 (l1.trans l2) d⟩
theorem op_dIn (hu : X.A.units + 1 < cLine) : OpR X (compareOp .In) (fun x y H Q => ∃ a o, y = .ref a ∧ DGet H a x o ∧ Q (.bl o.isSome) H) := by
  intro pins s σ H x y v u Q I rx ry h
  obtain ⟨a, o, rfl, g, q⟩ := h
  cases ry
  exact d_in hu I g rx fun s' I' => ⟨.bl o.isSome, H, I', rfl, q⟩
theorem op_dNotIn (hu : X.A.units + 1 < cLine) : OpR X (compareOp .NotIn) (fun x y H Q => ∃ a o, y = .ref a ∧ DGet H a x o ∧ Q (.bl (!o.isSome)) H) := by
  intro pins s σ H x y v u Q I rx ry h
  obtain ⟨a, o, rfl, g, q⟩ := h
  cases ry
  exact d_notIn hu I g rx fun s' I' => ⟨.bl (!o.isSome), H, I', rfl, q⟩
theorem jo_inD (hu : X.A.units + 64 < cLine) : JOp X Z (compareOp .In) (oInD false) := ⟨_, op_dIn (by omega), fun S H C x y rx ry Qm Q rp dx dy k q => by
  unfold oInD at q
  obtain ⟨og, eg, q⟩ := optP_ex q
  obtain ⟨a, o', rfl, g, h⟩ := dget_of rp dy dx eg
  refine ⟨a, o', rfl, g, ?_⟩
  rw [if_neg (by decide)] at q
  rcases h with ⟨rfl, rfl⟩ | ⟨r', u', rfl, rfl, d⟩
  · exact k _ _ _ _ _ q rp (Le.refl _ _) (.bl _)
  · exact k _ _ _ _ _ q rp (Le.refl _ _) (.bl _)⟩
theorem jo_notInD (hu : X.A.units + 64 < cLine) : JOp X Z (compareOp .NotIn) (oInD true) := ⟨_, op_dNotIn (by omega), fun S H C x y rx ry Qm Q rp dx dy k q => by
  unfold oInD at q
  obtain ⟨og, eg, q⟩ := optP_ex q
  obtain ⟨a, o', rfl, g, h⟩ := dget_of rp dy dx eg
  refine ⟨a, o', rfl, g, ?_⟩
  rw [if_pos rfl] at q
  rcases h with ⟨rfl, rfl⟩ | ⟨r', u', rfl, rfl, d⟩
  · exact k _ _ _ _ _ q rp (Le.refl _ _) (.bl _)
  · exact k _ _ _ _ _ q rp (Le.refl _ _) (.bl _)⟩
theorem jg_subD (hu : X.A.units + 64 < cLine) (ho : JE X Z o mo) (hi : JE X Z i mi) (ha : ∀ v, assign (.Subscript o i pos) X.env v = (do
      let ov ← holding [v] (eval o X.env)
      let iv ← holding [v, ov] (eval i X.env)
      standAt pos
      holding [v, ov, iv] (setItem ov iv v)
      release [v, ov, iv] []) := by intro _; rfl) : JG X Z (.Subscript o i pos) (gIxD mo mi) := by
  obtain ⟨t, p, k⟩ := ho
  obtain ⟨u, pu, ku⟩ := hi
  refine ⟨_, pg_sub p pu (set_dict (by omega)) ha, fun S σ H Γ C v r Qm Q A d l q => ?_⟩
  refine k S σ H Γ C _ _ A (fun x C1 y S1 H1 q1 rp1 l1 d1 => ?_) q
  refine ku S1 σ H1 Γ C1 _ _ (A.go l1 rp1) (fun n C2 w S2 H2 q2 rp2 l2 d2 => ?_) q1
  have l12 := l1.trans l2
  obtain ⟨C3, e3, q2⟩ := optP_ex q2
  unfold dPut at e3
  cases d1 with
  | @cell aa kk hp =>
    have hp2 := l2.ps kk aa hp
    dsimp only at e3
    cases e : C2[kk]? with
    | none => rw [e] at e3; cases e3
    | some c =>
      rw [e] at e3
      have le : ∀ u, Le S2 H2 S2 (upd H2 aa u) := fun u => ⟨fun _ _ h => h, fun _ _ h => h, fun b u' h hb => by rw [upd_ne (fun e => hb (by rw [e]; exact List.mem_of_getElem? hp2))]; exact h, fun _ h => .inl h, fun _ _ h => .inl h⟩
      cases c with
      | dct kvs =>
        dsimp only at e3
        split at e3
        · rename_i hlt
          obtain ⟨ky, ek, rfl⟩ := Option.map_eq_some_iff.mp e3
          have := ky_v d2 ek
          subst this
          obtain ⟨kv, z1, z2, z3⟩ := rp2.at_ kk aa _ hp2 e
          obtain ⟨c1, c2⟩ := put_dl (d.mono l12) ky z2 z3
          have hlen : kv.length = kvs.length := by have := congrArg List.length z2; simpa using this
          obtain ⟨rp3, l3⟩ := rp2.write (o := .dK (putK kv ky v)) (c := .dct (putD kvs ky r)) hp2 e (fun z => by cases z) ⟨_, upd_same, c1, c2.mono (le (.dK (putK kv ky v)))⟩
          exact ⟨aa, _, rfl, (show DPut H2 aa (kV ky) v _ from DPut.k z1 (by rw [sizeLine_eq]; omega)), l _ _ _ _ _ q2 rp3 (l12.trans l3) (A.sg.mono (l12.trans l3))⟩
        · cases e3
      | dtt kvs =>
        dsimp only at e3
        cases d2 with
        | tup ht t =>
          dsimp only at e3
          split at e3
          · rename_i hlt
            obtain ⟨ky, ek, rfl⟩ := Option.map_eq_some_iff.mp e3
            have := kys_v t ek
            subst this
            obtain ⟨kv, z1, z2, z3⟩ := rp2.at_ kk aa _ hp2 e
            obtain ⟨c1, c2⟩ := put_dl (d.mono l12) ky z2 z3
            have hlen : kv.length = kvs.length := by have := congrArg List.length z2; simpa using this
            obtain ⟨rp3, l3⟩ := rp2.write (o := .dT (putK kv ky v)) (c := .dtt (putD kvs ky r)) hp2 e (fun z => by cases z) ⟨_, upd_same, c1, c2.mono (le (.dT (putK kv ky v)))⟩
            exact ⟨aa, _, rfl, (show DPut H2 aa _ v _ from DPut.t z1 (rp2.sub _ _ ht) (by rw [sizeLine_eq]; omega)), l _ _ _ _ _ q2 rp3 (l12.trans l3) (A.sg.mono (l12.trans l3))⟩
          · cases e3
        | _ => cases e3
      | _ => cases e3
  | _ => cases e3
end
end NB

set_option Elab.async false
set_option linter.all false
set_option maxRecDepth 100000
set_option maxHeartbeats 4000000
/-! MMore5: enumerate of a tuple, zip of tuples -/
namespace NB
open PySem PySem.Spec PyProof.Rows L2
theorem meets_enum1 {v : Value} {o : Obj} {H : Heap → Prop} (B : Begins v o H) :
    Meets (Builtin.«enumerate.__new__» ⟨[.type "enumerate", v], []⟩) (fun _ R s => H s.heap ∧
      R (.ok (.ret (.ref (s.heap.push o).objs.size))) { s with heap := (s.heap.push o).push { cls := .type "enumerate", data := .fields #[.none, .bool false, .ref s.heap.objs.size, rawInt 0, .none, .none] } }) :=
  .of_wp fun prog w A R s h => by
    obtain ⟨hp, g, d, tk, os⟩ := s; obtain ⟨h1, h⟩ := h
    have hsub := sub_enumerate
    have q1 : ∀ {A' : Around} {E : Value → Shared → Prop} {Q : Value → Shared → Prop}, Q (.ref hp.objs.size) ⟨hp.push o, g, d, tk, os⟩ → wpAny (model prog w) A' (pyIter v) Q E ⟨hp, g, d, tk, os⟩ :=
      fun q => B.iter prog w _ _ ⟨hp, g, d, tk, os⟩ _ h1 q
    wp_walk using q1
    refine wpAny_stack_any fun st => wpAny_pure ?_
    split
    · rename_i c _ _ _ _ _
      cases (c == Value.type "enumerate")
      · wp_walk using q1
        exact ⟨_, rfl, h⟩
      · wp_walk using q1
        exact ⟨_, rfl, h⟩
    · wp_walk using q1
      exact ⟨_, rfl, h⟩
section
variable {prog : Program} {w : World} {A : Around} {E : Value → Shared → Prop} {s : Shared}
theorem call_enumT {v : Value} {o : Obj} {H : Heap → Prop} {Q : Value → Shared → Prop} (B : Begins v o H) (h1 : H s.heap)
    (h : ∀ h', IsEnum h' (s.heap.objs.size + 1) s.heap.objs.size 0 .none → h'.get? s.heap.objs.size = some o → h'.objs.size = s.heap.objs.size + 2 →
      (∀ b o, s.heap.get? b = some o → h'.get? b = some o) → Q (.ref (s.heap.objs.size + 1)) { s with heap := h' }) :
    wpAny (model prog w) A (call (.type "enumerate") [v]) Q E s := by
  refine callType_new F.called_enumerate (by decide) (F.typeCall_enumerate_1 _) (F.newCall_enumerate_1 _) (fun obj => F.args_object_init_2 obj _) F.entry_enumerate_new
    (meets_enum1 B) ⟨h1, ?_⟩
  have hz : (s.heap.push o).objs.size = s.heap.objs.size + 1 := Heap.size_push ..
  show _ ∧ _
  rw [hz]
  have he : IsEnum ((s.heap.push o).push { cls := .type "enumerate", data := .fields #[.none, .bool false, .ref s.heap.objs.size, rawInt 0, .none, .none] }) (s.heap.objs.size + 1) s.heap.objs.size 0 .none := by
    have := Heap.get?_push_size (s.heap.push o) (o := { cls := .type "enumerate", data := .fields #[.none, .bool false, .ref s.heap.objs.size, rawInt 0, .none, .none] }) rfl
    rw [hz] at this; exact this
  refine ⟨⟨_, he, rfl⟩, h _ he (Heap.get?_push_of_some _ (Heap.get?_push_size _ B.free)) (by rw [Heap.size_push, hz]) fun b o x => Heap.get?_push_of_some _ (Heap.get?_push_of_some _ x)⟩
end
theorem enumT_end {prog : Program} {w : World} {A : Around} {E : Value → Shared → Prop} {s : Shared} {e it l : Addr} {i : Nat} {items : Array Value} {old : Value} {Q : Option Value → Shared → Prop} (hh : A.handled = none)
    (he : IsEnum s.heap e it i old) (hit : s.heap.IsTupleIter it l i) (hl : s.heap.IsTuple l items) (hx : items[i]? = none)
    (hQ : ∀ h', Heap.ExtBut it s.heap h' → Q none { s with heap := h' }) : wpAny (model prog w) A (pyNext (.ref e)) Q E s := by
  have hT : s.TypeIs (.ref e) "enumerate" := ⟨_, he, rfl⟩
  unfold pyNext
  refine wpAny_bind (wpAny_attempt (wpAny_callSpecial?_slot (name := Str.ofString "__next__") hT F.slot_enumerate_next
    (wpAny_call_entry F.slot_enumerate_next hT F.entry_enumerate_next ?_ (F.args_enumerate_next_1 _))))
  show wpAny _ _ (field (.ref e) 2 >>= _) _ _ _
  refine wpAny_bind (wpAny_field he rfl (x := .ref it) rfl ?_)
  refine wpAny_bind (wpAny_nextOf_tuple_end hh hit hl hx fun h' x he' hx' => ?_)
  obtain ⟨o, ho, hc⟩ := hx'
  refine wpAny_bind (wpAny_isInstance (T := "StopIteration") (b := true) ⟨o, ho, hc⟩ isSubtype_stop ?_)
  exact wpAny_pure (hQ _ he')
/-- the tuple at a, each item in a new pair -/
def IteT (K : PySem.W.Frag) (a : Addr) : It :=
  ⟨fun i H => ∃ (xs : List V) (x : V), SqT K H a xs ∧ xs[i]? = some x, fun i H v H' => ∃ T x, v = .ref T ∧ H T = none ∧ H' = upd H T (.tup [.int (i : Nat), x]) ∧ ∀ xs, SqT K H a xs → xs[i]? = some x, fun i H => ∃ xs : List V, SqT K H a xs ∧ xs.length ≤ i⟩
theorem turn_enumT {P : Program} {w : World} {K : PySem.W.Frag} {elts : List Expr} {kk : Nat} {tpos : Pos} (a e it : Addr) :
    Turn P w K (.Tuple elts kk tpos) (IteT K a) [e, it] e (fun i h => (∃ old, IsEnum h e it ((i : Nat) : Int) old) ∧ h.IsTupleIter it a i ∧ e ≠ it ∧ e ≠ a ∧ a ≠ it) where
  mem := by simp
  obj := fun i h st b hb => by
    obtain ⟨⟨old, he⟩, ⟨o, ho, hc, hd⟩, _⟩ := st
    have e' : b = e ∨ b = it := by simpa using hb
    rcases e' with z | z
    · rw [z]; exact ⟨_, he, fun v q => nomatch q⟩
    · rw [z]; exact ⟨o, ho, fun v q => by rw [hd] at q; cases q⟩
  keep := fun i h h' st k => let ⟨⟨old, he⟩, hi, hne⟩ := st; ⟨⟨old, k e (by simp) _ he⟩, hi.at fun o q => k it (by simp) o q, hne⟩
  item := by
    intro X hP hw hK hc i pins s σ H E I hf st hg
    subst hP hw hK
    obtain ⟨⟨old, he⟩, hit, hne, hea, hai⟩ := st
    obtain ⟨xs, x, hq, hx⟩ := hg
    obtain ⟨its, rv, p, hz⟩ := I.tuple hq
    obtain ⟨u, hu, ru⟩ := rv.get hx
    have hel : e < s.heap.objs.size := Heap.lt_size he
    have hil : it < s.heap.objs.size := by obtain ⟨_, q, _⟩ := hit; exact Heap.lt_size q
    have D := Draws.tuple (prog := X.prog) (w := X.w) (A := X.A.in1) (I.ok.hd hc) it a hai its.toArray
    have hlt : i < its.toArray.size := by
      rw [List.size_toArray]
      exact (List.getElem?_eq_some_iff.mp hu).1
    refine wpAny_pyNext_enum_itemD D he ⟨hit, (show s.heap.IsTuple a its.toArray from p)⟩ hlt hne (by simp [hne, hea]) fun x' h' tk hP ho hst' hT hsz hk => ?_
    have hx' : x' = u := by
      have h1 : its.toArray[i]? = some x' := hP
      rw [List.getElem?_toArray, hu] at h1
      exact (Option.some.inj h1).symm
    subst hx'
    have hit' := hst'.1
    refine ⟨_, rfl, wpAny_letOwnedTupleGo_enum (s := { s with heap := h', toks := tk + 1 }) ho fun h'' he' sb => ?_⟩
    have hT2 : h''.get? s.heap.objs.size = some { cls := .type "tuple", data := .seq #[.int i tk, x'] } := (sb.2 _ (Nat.ne_of_gt hel)).trans hT
    have new : ObjOk X.prog X.w (upd H s.heap.objs.size (.tup [.int (i : Nat), x])) h'' s.heap.objs.size (.tup [.int (i : Nat), x]) :=
      ⟨by show 2 ≤ sizeLine; decide, [.int i tk, x'], .cons ⟨_, rfl⟩ (.cons ru .nil), ⟨_, hT2, rfl, _, rfl⟩⟩
    have I1 : Inv X pins σ (upd H s.heap.objs.size (.tup [.int (i : Nat), x])) { s with heap := h'', toks := tk + 1 } :=
      I.turnedNew (ch := [e, it]) (fun b ob hb q => (sb.2 b (fun z => hb (by simp [z]))).trans (hk b ob (fun z => hb (by simp [z])) (fun z => hb (by simp [z])) q)) hf (Nat.le_refl _) new
    refine ⟨.ref s.heap.objs.size, _, I1, rfl, ⟨_, x, rfl, I.hok.fresh (Nat.le_refl _), rfl, fun ys hy => by rw [I.tuple_inj hy hq]; exact hx⟩, ⟨⟨x', ?_⟩, hit'.at fun o q => (sb.2 it (Ne.symm hne)).trans q, hne, hea, hai⟩, fun b hb => ?_⟩
    · have e1 : ((i + 1 : Nat) : Int) = (i : Int) + 1 := by omega
      rw [e1]; exact he'
    · have hb' : b < s.heap.objs.size := by
        have e' : b = e ∨ b = it := by simpa using hb
        rcases e' with z | z
        · rw [z]; exact hel
        · rw [z]; exact hil
      rw [upd_ne (Nat.ne_of_lt hb')]
      exact (hf b hb).1
  done := by
    intro X hP hw hK hc i pins s σ H E I hf st hg
    subst hP hw hK
    obtain ⟨⟨old, he⟩, hit, hne, hea, hai⟩ := st
    obtain ⟨xs, hq, hx⟩ := hg
    obtain ⟨its, rv, p, hz⟩ := I.tuple hq
    obtain ⟨f0, f1, f2, f3, f4, f5⟩ := hf it (by simp)
    have hl := rv.length
    have ht : s.heap.IsTuple a its.toArray := p
    exact enumT_end (I.ok.hd hc) he hit ht (by simp; omega) fun h' eb => ⟨rfl, I.turned (t' := s.toks) (fun b o hb q => eb b o hb q) f0 f1 f3 f4 f5⟩
  self := fun A i s Q E st h => let ⟨⟨_, he⟩, _⟩ := st; wpAny_pyIter_enum he h
def iEnumT (K : PySem.W.Frag) (ta : TA) : TI := fun σ H R => ta σ H fun vs H1 => ∃ a xs, vs = [.ref a] ∧ SqT K H1 a xs ∧ R (IteT K a) H1
theorem pi_enumT {X : Cx} {e : Expr} {ta : TA} {p pos tpos : Pos} {elts : List Expr} {kk : Nat} (hg : Gl X "enumerate") (hm : X.mg "enumerate" = none) (ha : PA X [e] ta) (hs : starEach [e] X.env = [(false, eval e X.env)] := by rfl) :
    PI X (.Tuple elts kk tpos) (.Call (.Name "enumerate" p) [e] [] pos) (iEnumT X.K ta) := by
  refine ⟨fun pins s σ H R I h => ?_⟩
  refine Call_ (ld_blt I hg hm boot_enumerate (PyProof.Rows.callWith_type1 (thn (ha.run pos pins s σ H _ I h) fun us s1 ⟨vs, H1, I1, r1, q1⟩ => ?_) hs rfl))
  obtain ⟨a, xs, ex, hq, q⟩ := q1
  subst ex
  cases r1 with
  | cons r rr =>
    cases rr
    cases r
    obtain ⟨its, rv, p', hz⟩ := I1.tuple hq
    have ht : s1.heap.IsTuple a its.toArray := p'
    refine call_enumT (begins_tuple a its.toArray) ht fun h' he hit hsz hk => wpAny_pyIter_enum he ?_
    have I2 : Inv X pins σ H1 { s1 with heap := h' } := I1.kept (t' := s1.toks) hk
    have hal : a < s1.heap.objs.size := p'.lt
    refine ⟨s1.heap.objs.size + 1, [s1.heap.objs.size + 1, s1.heap.objs.size], _, _, H1, rfl, I2, turn_enumT a (s1.heap.objs.size + 1) s1.heap.objs.size, ⟨⟨.none, he⟩, ⟨_, hit, rfl, rfl⟩, Nat.succ_ne_self _, Nat.ne_of_gt (Nat.lt_succ_of_lt hal), Nat.ne_of_lt hal⟩, fun b hb => ?_, q⟩
    have e' : b = s1.heap.objs.size + 1 ∨ b = s1.heap.objs.size := by simpa using hb
    have hle : s1.heap.objs.size ≤ b := by
      rcases e' with z | z
      · rw [z]; exact Nat.le_add_right _ _
      · rw [z]; exact Nat.le_refl _
    exact I1.fpOk hle (I1.hok.fresh hle)
theorem yl_enumT {K : PySem.W.Frag} {S : Wd} {H : Hp} {a : Addr} {vs : List V} {xs : List R} (h : S.G a = some (.tup vs)) (t : DL K S vs xs) : Yl K S H (IteT K a) (enumR 0 xs) where
  go := fun i S' H' C rp l hi => by
    rw [enum_len] at hi
    exact ⟨vs, vs[i]'(by rw [t.length]; exact hi), SqT.of (rp.sub _ _ (l.g _ _ h)), List.getElem?_eq_getElem _⟩
  yl := fun i S' H' C x H2 rp l hi y => by
    obtain ⟨T, z, rfl, hT, rfl, y⟩ := y
    have e := y vs (SqT.of (rp.sub _ _ (l.g _ _ h)))
    obtain ⟨r, hr, d⟩ := t.get' e
    obtain ⟨rp2, l2⟩ := rp.freeze (o := .tup [.int (i : Nat), z]) hT
    refine ⟨_, _, enum_get xs 0 i r hr, rp2, l2, .tup (by exact upd_same) (.cons ?_ (.cons ((d.monoW l).mono l2) .nil))⟩
    rw [Nat.zero_add]
    exact .int _
  stop := fun i S' H' C rp l hi => by
    rw [enum_len] at hi
    exact ⟨vs, SqT.of (rp.sub _ _ (l.g _ _ h)), by rw [t.length]; exact hi⟩
theorem yl_zipT {K : PySem.W.Frag} {S : Wd} {H : Hp} {a b : Addr} {vs us : List V} {xs ys : List R} (h : S.G a = some (.tup vs)) (t : DL K S vs xs) (h' : S.G b = some (.tup us)) (t' : DL K S us ys) : Yl K S H (RZ.ItzT K a b) (zipR xs ys) where
  go := fun i S' H' C rp l hi => by
    rw [zip_len] at hi
    exact ⟨vs, us, vs[i]'(by rw [t.length]; omega), us[i]'(by rw [t'.length]; omega), SqT.of (rp.sub _ _ (l.g _ _ h)), SqT.of (rp.sub _ _ (l.g _ _ h')), List.getElem?_eq_getElem _, List.getElem?_eq_getElem _⟩
  yl := fun i S' H' C x H2 rp l hi y => by
    obtain ⟨T, z, z', rfl, hT, rfl, y, y'⟩ := y
    obtain ⟨r, hr, d⟩ := t.get' (y vs (SqT.of (rp.sub _ _ (l.g _ _ h))))
    obtain ⟨r', hr', d'⟩ := t'.get' (y' us (SqT.of (rp.sub _ _ (l.g _ _ h'))))
    obtain ⟨rp2, l2⟩ := rp.freeze (o := .tup [z, z']) hT
    exact ⟨_, _, zip_get xs ys i r r' hr hr', rp2, l2, .tup (by exact upd_same) (.cons ((d.monoW l).mono l2) (.cons ((d'.monoW l).mono l2) .nil))⟩
  stop := fun i S' H' C rp l hi => by
    rw [zip_len] at hi
    exact ⟨vs, us, SqT.of (rp.sub _ _ (l.g _ _ h)), SqT.of (rp.sub _ _ (l.g _ _ h')), by rw [t.length, t'.length]; omega⟩
section
variable {X : Cx} {Z : Zx} {e e2 : Expr} {am : MA} {pos : Pos}
theorem ji_enumT {p tpos : Pos} {elts : List Expr} {kk : Nat} (hm : X.mg "enumerate" = none) (ha : JA X Z [e] am) (hg : Gl X "enumerate" := by rfl) (hs : starEach [e] X.env = [(false, eval e X.env)] := by rfl) : JI X Z (.Tuple elts kk tpos) (.Call (.Name "enumerate" p) [e] [] pos) (iEnT am) := by
  obtain ⟨t, pa, k⟩ := ha
  refine ⟨_, pi_enumT hg hm pa hs, fun S σ H Γ C Qm Q A l q => k S σ H Γ C _ _ A (fun r C1 v S1 H1 q1 rp1 l1 d1 => ?_) q⟩
  split at q1
  · cases d1 with
    | cons d t => cases t; cases d with
      | tup h t => exact ⟨_, _, rfl, SqT.of (rp1.sub _ _ h), l _ C1 S1 H1 _ q1 rp1 l1 (yl_enumT h t)⟩
  · exact q1.elim
theorem ji_zipT {p tpos : Pos} {elts : List Expr} {kk : Nat} (hm : X.mg "zip" = none) (ha : JA X Z [e, e2] am) (hg : Gl X "zip" := by rfl) (hs : starEach [e, e2] X.env = (false, eval e X.env) :: starEach [e2] X.env := by rfl) (hpl : (backTo pos (starEach [e2] X.env)).any (·.1) = false := by rfl) :
    JI X Z (.Tuple elts kk tpos) (.Call (.Name "zip" p) [e, e2] [] pos) (iZpT am) := by
  obtain ⟨t, pa, k⟩ := ha
  refine ⟨_, RZ.pi_zipA hg hm pa hs hpl, fun S σ H Γ C Qm Q A l q => k S σ H Γ C _ _ A (fun r C1 v S1 H1 q1 rp1 l1 d1 => ?_) q⟩
  split at q1
  · cases d1 with
    | cons d t => cases t with
      | cons d2 t => cases t; cases d with
        | tup h t => cases d2 with
          | tup h' t' => exact ⟨_, _, _, _, rfl, .inr ⟨SqT.of (rp1.sub _ _ h), SqT.of (rp1.sub _ _ h'), l _ C1 S1 H1 _ q1 rp1 l1 (yl_zipT h t h' t')⟩⟩
  · exact q1.elim
/-! a product with a short factor -/
def CMulS (i _ : Int) : Prop := -(2 ^ 64) < i ∧ i < 2 ^ 64
theorem op_mulS : OpR X (binaryOp .Mult) (rI CMulS fun i j => .int (i * j)) := opI fun _ _ _ _ _ _ _ hc q => mul_int q (IntMulOk.of_left (intBits_le_64 hc.1 hc.2))
theorem jo_timesS : JOp X Z (binaryOp .Mult) oTimesS := ⟨_, op_mulS, fun S H C x y rx ry Qm Q rp dx dy k q => by
  cases dx <;> cases dy <;> first | exact q.elim | exact ⟨_, _, rfl, rfl, q.1, k _ _ _ _ _ q.2 rp (Le.refl _ _) (.int _)⟩⟩
end
end NB

set_option Elab.async false
set_option linter.all false
set_option maxRecDepth 100000
set_option maxHeartbeats 4000000
/-! MMore6: comprehensions of two clauses -/
namespace NB
open PySem PySem.Spec PyProof.Rows L2
section
variable {X : Cx} {Z : Zx}
def tIz (K : PySem.W.Frag) (Z : Zx) (it : MI) : TI := fun σ H R => ∃ S Γ C Qm, At K Z S σ H Γ C ∧ (∀ xs C' S' H' J, Qm xs C' → Rep K S' H' C' → Le S H S' H' → Yl K S' H' J xs → R J H') ∧ it Γ C Qm
theorem JI.can {tg iter : Expr} {it : MI} (h : JI X Z tg iter it) : PI X tg iter (tIz X.K Z it) := by
  obtain ⟨wi, p, k⟩ := h
  refine ⟨fun pins s σ H R I q => p.run pins s σ H R I ?_⟩
  obtain ⟨S, Γ, C, Qm, A, l, q⟩ := q
  exact k S σ H Γ C Qm R A l q
theorem SG.monoW {K : PySem.W.Frag} {S S' : Wd} {σ : L2.St} {Γ : Gm} (l : Lw S S') (g : SG K S σ Γ) : SG K S' σ Γ := ⟨g.len, fun i r h => let ⟨v, e, d⟩ := g.at_ i r h; ⟨v, e, d.monoW l⟩⟩
theorem Lw.trans {S S1 S2 : Wd} (a : Lw S S1) (b : Lw S1 S2) : Lw S S2 := ⟨fun c o h => b.g c o (a.g c o h), fun k p h => b.ps k p (a.ps k p h)⟩
theorem keepP {S S' : Wd} {H H' : Hp} {p : Addr} {vs : List V} (h3 : H p = some (.lst vs)) (n1 : p ∉ S.ps) (n2 : S.G p = none) (lx : Le S H S' H') : H' p = some (.lst vs) ∧ p ∉ S'.ps ∧ S'.G p = none := by
  refine ⟨lx.fr p _ h3 n1, fun z => (lx.nw p z).elim n1 (fun z => by rw [h3] at z; cases z), ?_⟩
  cases e : S'.G p with
  | none => rfl
  | some o =>
    rcases lx.gn p o e with z | z | z
    · rw [n2] at z; cases z
    · exact absurd z n1
    · rw [h3] at z; cases z
theorem tr_comp2 (cell : Bool) {wi : TI} {g g1 : TG} {vs vs1 : List Nat} {it it1 : MI} {mg mg1 : MG} {mt mt1 : MT} {m : ME} (ki : ∀ S σ H Γ C Qm R, At X.K Z S σ H Γ C → (∀ xs C' S' H' J, Qm xs C' → Rep X.K S' H' C' → Le S H S' H' → Yl X.K S' H' J xs → R J H') → it Γ C Qm → wi σ H R)
    (kg : TrGw X.K Z vs g mg) (kg1 : TrGw X.K Z vs1 g1 mg1) : TrE X.K Z (tLc2 wi g (tT X.K Z.calm mt) (tIz X.K Z.calm it1) g1 (tT X.K Z.calm mt1) (tE X.K Z.calm m) vs vs1) (mComp2 cell it mg mt it1 mg1 mt1 m vs vs1) := by
  intro S σ H Γ C Qm Q A l q
  refine ki S σ H Γ C _ _ A (fun xs C1 S1 H1 J q1 rp1 l1 y => ?_) q
  intro p hp
  have l' := l.go l1
  have hps : p ∉ S1.ps := rp1.nps hp
  have hpg : S1.G p = none := by
    cases e : S1.G p with
    | none => rfl
    | some o => have := rp1.sub p o e; rw [hp] at this; cases this
  refine ⟨fun i n H' => n = xs.length - i ∧ ∃ S' C' acc vsA, Rep X.K S' H' C' ∧ Le S1 H1 S' H' ∧ p ∉ S'.ps ∧ S'.G p = none ∧ H' p = some (.lst vsA) ∧ DL X.K S' vsA acc ∧
    compL2 mg mt it1 mg1 mt1 m vs1 (fun ys C2 => newL cell ys C2 Qm) (wipeM Γ vs) (xs.drop i) acc C', ⟨xs.length, by simp, S1, C1, [], [], rp1.side hps hpg, (Le.refl _ _).side hp, hps, hpg, upd_same, .nil, q1⟩, ?_⟩
  rintro i n H2 ⟨rfl, S2, C2, acc, vsA, rp2, l2, n1, n2, hv, dA, w⟩
  by_cases hi : i < xs.length
  · refine .inr ⟨y.go i S2 H2 C2 rp2 l2.w hi, fun H' => ∃ S' C' acc vsA, Rep X.K S' H' C' ∧ Le S1 H1 S' H' ∧ p ∉ S'.ps ∧ S'.G p = none ∧ H' p = some (.lst vsA) ∧ DL X.K S' vsA acc ∧
      compL2 mg mt it1 mg1 mt1 m vs1 (fun ys C2 => newL cell ys C2 Qm) (wipeM Γ vs) (xs.drop (i + 1)) acc C', fun H' h => ⟨xs.length - (i + 1), by omega, rfl, h⟩, fun x H3 hy => ?_⟩
    obtain ⟨S3, r, hr, rp3, l3, d3⟩ := y.yl i S2 H2 C2 x H3 rp2 l2.w hi hy
    have e : xs.drop i = r :: xs.drop (i + 1) := by
      obtain ⟨h1, h2⟩ := List.getElem?_eq_some_iff.mp hr
      rw [← h2]
      exact List.drop_eq_getElem_cons h1
    rw [e] at w
    have A3 : At X.K Z S3 (wipe σ vs) H3 (wipeM Γ vs) C2 := ⟨rp3, (sg_wipes (A.sg.mono (l1.trans (l2.trans l3))) vs), A.le.trans (l1.trans (l2.trans l3))⟩
    refine kg S3 (wipe σ vs) H3 (wipeM Γ vs) C2 x r _ _ A3 d3 (fun Γ4 C4 σ4 S4 H4 q4 rp4 l4 g4 w4 => ?_) w
    refine ⟨w4.trans (wipe_wipe σ vs), S4, Γ4, C4, _, ⟨rp4, g4, A3.le.trans l4⟩, fun bb C5 S5 H5 q5 rp5 l5 => ?_, q4⟩
    have l25 := l3.trans (l4.trans l5)
    cases bb with
    | true =>
      simp only [ifP] at q5 ⊢
      refine ⟨S5, Γ4, C5, _, ⟨rp5, g4.mono l5, A3.le.trans (l4.trans l5)⟩, fun ys C6 S6 H6 J1 q6 rp6 l6 y1 => ?_, q5⟩
      have g6 := (g4.mono l5).mono l6
      have le6 := (A3.le.trans (l4.trans l5)).trans l6
      obtain ⟨k1, k2, k3⟩ := keepP hv n1 n2 (l25.trans l6)
      refine ⟨fun j n H' => n = ys.length - j ∧ ∃ S' C' acc vsA, Rep X.K S' H' C' ∧ Lw S6 S' ∧ Le S1 H1 S' H' ∧ p ∉ S'.ps ∧ S'.G p = none ∧ H' p = some (.lst vsA) ∧ DL X.K S' vsA acc ∧
        compL mg1 mt1 m (fun acc1 C4 => compL2 mg mt it1 mg1 mt1 m vs1 (fun ys C2 => newL cell ys C2 Qm) (wipeM Γ vs) (xs.drop (i + 1)) acc1 C4) (wipeM Γ4 vs1) (ys.drop j) acc C',
        ⟨ys.length, by simp, S6, C6, acc, vsA, rp6, (Le.refl S6 H6).w, l2.trans (l25.trans l6), k2, k3, k1, dA.mono (l25.trans l6), q6⟩, ?_⟩
      rintro j n7 H7 ⟨rfl, S7, C7, acc7, vs7, rp7, l7, lo7, m1, m2, hv7, d7, w7⟩
      by_cases hj : j < ys.length
      · refine .inr ⟨y1.go j S7 H7 C7 rp7 l7 hj, fun H' => ∃ S' C' acc vsA, Rep X.K S' H' C' ∧ Lw S6 S' ∧ Le S1 H1 S' H' ∧ p ∉ S'.ps ∧ S'.G p = none ∧ H' p = some (.lst vsA) ∧ DL X.K S' vsA acc ∧
          compL mg1 mt1 m (fun acc1 C4 => compL2 mg mt it1 mg1 mt1 m vs1 (fun ys C2 => newL cell ys C2 Qm) (wipeM Γ vs) (xs.drop (i + 1)) acc1 C4) (wipeM Γ4 vs1) (ys.drop (j + 1)) acc C', fun H' h => ⟨ys.length - (j + 1), by omega, rfl, h⟩, fun x8 H8 hy8 => ?_⟩
        obtain ⟨S8, r8, hr8, rp8, l8, d8⟩ := y1.yl j S7 H7 C7 x8 H8 rp7 l7 hj hy8
        have e8 : ys.drop j = r8 :: ys.drop (j + 1) := by
          obtain ⟨h1, h2⟩ := List.getElem?_eq_some_iff.mp hr8
          rw [← h2]
          exact List.drop_eq_getElem_cons h1
        rw [e8] at w7
        obtain ⟨wz, w7⟩ := w7
        have A8 : At X.K Z S8 (wipe σ4 vs1) H8 (wipeM Γ4 vs1) C7 := ⟨rp8, sg_wipes ((SG.monoW l7 g6).mono l8) vs1, A.le.trans (l1.trans (lo7.trans l8))⟩
        refine kg1 S8 (wipe σ4 vs1) H8 (wipeM Γ4 vs1) C7 x8 r8 _ _ A8 d8 (fun Γ9 C9 σ9 S9 H9 q9 rp9 l9 g9 w9 => ?_) w7
        refine ⟨w9.trans (wipe_wipe σ4 vs1), S9, Γ9, C9, _, ⟨rp9, g9, A8.le.trans l9⟩, fun bb C5 S5' H5' q5 rp5 l5' => ?_, q9⟩
        have l89 := l8.trans (l9.trans l5')
        cases bb with
        | true =>
          simp only [ifP] at q5 ⊢
          refine ⟨S5', Γ9, C5, _, ⟨rp5, g9.mono l5', A8.le.trans (l9.trans l5')⟩, fun yr Ca yv Sa Ha qa rpa la da => ?_, q5⟩
          obtain ⟨k1, k2, k3⟩ := keepP hv7 m1 m2 (l89.trans la)
          refine ⟨vs7, k1, by rw [d7.length, sizeLine_eq]; exact wz, ?_⟩
          exact ⟨Sa, Ca, acc7 ++ [yr], vs7 ++ [yv], rpa.side k2 k3, Lw.trans l7 (l89.trans la).w, (lo7.trans (l89.trans la)).side hp, k2, k3, upd_same, (d7.mono (l89.trans la)).append (.cons da .nil), qa⟩
        | false =>
          simp only [ifP] at q5 ⊢
          obtain ⟨k1, k2, k3⟩ := keepP hv7 m1 m2 l89
          exact ⟨S5', C5, acc7, vs7, rp5, Lw.trans l7 l89.w, lo7.trans l89, k2, k3, k1, d7.mono l89, q5⟩
      · refine .inl ⟨y1.stop j S7 H7 C7 rp7 l7 (by omega), ?_⟩
        rw [show ys.drop j = [] from List.drop_eq_nil_of_le (by omega)] at w7
        exact ⟨S7, C7, acc7, vs7, rp7, lo7, m1, m2, hv7, d7, w7⟩
    | false =>
      simp only [ifP] at q5 ⊢
      obtain ⟨k1, k2, k3⟩ := keepP hv n1 n2 l25
      exact ⟨S5, C5, acc, vsA, rp5, l2.trans l25, k2, k3, k1, dA.mono l25, q5⟩
  · refine .inl ⟨y.stop i S2 H2 C2 rp2 l2.w (by omega), ?_⟩
    rw [List.drop_eq_nil_of_le (by omega)] at w
    exact comp_end l' hp rp2 l2 n1 n2 hv dA w
theorem je_comp2 (cell : Bool) {scope : Scope} {tg iter tg1 iter1 elt : Expr} {ifs ifs1 : List Expr} {pos : Pos} {it it1 : MI} {mg mg1 : MG} {mt mt1 : MT} {m : ME} (own own1 : List (Str × Nat)) (hc : X.calm = true) (hN : X.N.Nodup) (hi : JI X Z tg iter it) (ok : BlkOk X.N X.env.scope scope own)
    (hg : JGw (Blk X scope) X.K Z (own.map (·.2)) tg mg) (ht : ∀ Y, Blk X scope Y → JTs Y Z.calm ifs mt)
    (hi1 : ∀ Y, Blk X scope Y → JI Y Z.calm tg1 iter1 it1) (hg1 : JGw (Blk X scope) X.K Z (own1.map (·.2)) tg1 mg1) (ht1 : ∀ Y, Blk X scope Y → JTs Y Z.calm ifs1 mt1)
    (he : ∀ Y, Blk X scope Y → JE Y Z.calm elt m) (hv : ∀ i ∈ own1.map (·.2), i ∈ own.map (·.2) := by decide)
    (hs : ∀ x, foldedSetIterable iter X.env x = pure x := by intro _; rfl) (hs1 : ∀ env x, foldedSetIterable iter1 env x = pure x := by intro _ _; rfl) :
    JE X Z (.ListComp elt [⟨tg, iter, ifs, 0⟩, ⟨tg1, iter1, ifs1, 0⟩] scope pos) (mComp2 cell it mg mt it1 mg1 mt1 m (own.map (·.2)) (own1.map (·.2))) := by
  obtain ⟨wi, pi, ki⟩ := hi
  obtain ⟨g, pg, kg⟩ := hg
  obtain ⟨g1, pg1, kg1⟩ := hg1
  exact ⟨_, pe_lc2 (tt := tT X.K Z.calm mt) (tt1 := tT X.K Z.calm mt1) (te := tE X.K Z.calm m) (wi1 := tIz X.K Z.calm it1) hc hN pi ok hv (fun s H C cl fp => pg _ ⟨s, H, C, cl, fp, rfl⟩) (fun s H C cl fp => (ht _ ⟨s, H, C, cl, fp, rfl⟩).can) (fun s H C cl fp => (hi1 _ ⟨s, H, C, cl, fp, rfl⟩).can) (fun s H C cl fp => pg1 _ ⟨s, H, C, cl, fp, rfl⟩) (fun s H C cl fp => (ht1 _ ⟨s, H, C, cl, fp, rfl⟩).can) (fun s H C cl fp => (he _ ⟨s, H, C, cl, fp, rfl⟩).can) hs hs1, tr_comp2 cell ki kg kg1⟩
theorem js_setComp2 (cell : Bool) (n : Nat) {x : Str} {py : Pos} {scope : Scope} {cpos pos : Pos} {tg iter tg1 iter1 elt : Expr} {ifs ifs1 : List Expr} {it it1 : MI} {mg mg1 : MG} {mt mt1 : MT} {m : ME} (own own1 : List (Str × Nat)) (hc : X.calm = true) (hN : X.N.Nodup) (hi : JI X Z tg iter it) (ok : BlkOk X.N X.env.scope scope own)
    (hg : JGw (Blk X scope) X.K Z (own.map (·.2)) tg mg) (ht : ∀ Y, Blk X scope Y → JTs Y Z.calm ifs mt)
    (hi1 : ∀ Y, Blk X scope Y → JI Y Z.calm tg1 iter1 it1) (hg1 : JGw (Blk X scope) X.K Z (own1.map (·.2)) tg1 mg1) (ht1 : ∀ Y, Blk X scope Y → JTs Y Z.calm ifs1 mt1)
    (he : ∀ Y, Blk X scope Y → JE Y Z.calm elt m)
    (hsw : swapsWith (.ListComp elt [⟨tg, iter, ifs, 0⟩, ⟨tg1, iter1, ifs1, 0⟩] scope cpos) (some (.Name x py)) pos.line X.env = pure true)
    (hv : ∀ i ∈ own1.map (·.2), i ∈ own.map (·.2) := by decide)
    (hy : X.N[n]? = some x := by rfl) (hyl : X.env.scope.names.lookup x = some .local := by rfl)
    (hs : ∀ x, foldedSetIterable iter X.env x = pure x := by intro _; rfl) (hs1 : ∀ env x, foldedSetIterable iter1 env x = pure x := by intro _ _; rfl) :
    JS X Z (.Assign [.Name x py] (.ListComp elt [⟨tg, iter, ifs, 0⟩, ⟨tg1, iter1, ifs1, 0⟩] scope cpos) pos) (mAsg (mComp2 cell it mg mt it1 mg1 mt1 m (own.map (·.2)) (own1.map (·.2))) (gNm n)) := by
  obtain ⟨wi, pi, ki⟩ := hi
  obtain ⟨g, pg, kg⟩ := hg
  obtain ⟨g1, pg1, kg1⟩ := hg1
  refine ⟨_, ps_setLc2 (tt := tT X.K Z.calm mt) (tt1 := tT X.K Z.calm mt1) (te := tE X.K Z.calm m) (wi1 := tIz X.K Z.calm it1) hc hN hy hyl hsw pi ok hv (fun s H C cl fp => pg _ ⟨s, H, C, cl, fp, rfl⟩) (fun s H C cl fp => (ht _ ⟨s, H, C, cl, fp, rfl⟩).can) (fun s H C cl fp => (hi1 _ ⟨s, H, C, cl, fp, rfl⟩).can) (fun s H C cl fp => pg1 _ ⟨s, H, C, cl, fp, rfl⟩) (fun s H C cl fp => (ht1 _ ⟨s, H, C, cl, fp, rfl⟩).can) (fun s H C cl fp => (he _ ⟨s, H, C, cl, fp, rfl⟩).can) hs hs1, ?_⟩
  intro S σ H Γ C Dm Ds A l q
  refine tr_comp2 cell ki kg kg1 S σ H Γ C _ _ A (fun r C1 v S1 H1 q1 rp1 l1 d1 => ?_) q
  exact l.nx _ C1 _ S1 H1 q1 rp1 l1 ((A.sg.mono l1).set n d1)
/-! sorted of ints -/
theorem jf_sorted (cell : Bool) : JF X Z (.builtin "sorted") (fSorted cell) := ⟨_, cr_sortedI, fun S H C xs rs Qm Q rp d k q => by
  unfold fSorted at q
  split at q
  · rename_i x
    cases d with
    | cons d t =>
      cases t
      cases e : lstOf C x with
      | none => simp only [optP, e, Option.bind] at q
      | some ys =>
        cases e2 : intsOf ys with
        | none => simp only [optP, e, Option.bind, e2] at q
        | some ns =>
          simp only [optP, e, Option.bind, e2] at q
          obtain ⟨p, vs, rfl, z, t⟩ := lst_of rp d e
          rw [dl_ints t e2] at z
          exact ⟨p, ns, rfl, z, fun ns' p' h1 h2 hp => new_lst rp k (dl_int ns') hp (q ns' h1 h2)⟩
  · exact q.elim⟩
end
end NB

set_option Elab.async false
set_option linter.all false
set_option maxRecDepth 100000
set_option maxHeartbeats 1000000
/-! MMore7: == of a dict and a text -/
namespace NB
open PySem PySem.Spec PyProof.Rows L2 PySem.SeqAt AutoSeq1 MeetsSeq
theorem dict_eq_declines_str (l : Addr) (o : Obj) (b : Str) (u : Tok) :
    Meets (Builtin.«dict.__eq__» ⟨[.ref l, .str b u], []⟩) (fun _ R s => (s.heap.get? l = some o ∧ o.cls = .type "dict") ∧ R (.ok (.ret .notImplemented)) s) :=
  .of_wp fun prog w A R s h => by
    obtain ⟨hp, g, d, tk, os⟩ := s; obtain ⟨⟨hl, hc⟩, h⟩ := h; obtain ⟨cls, dd, data, sl⟩ := o; simp only at hc; subst hc
    have f1 := F.sub_str_dict
    have f2 := F.sub_dict_dict
    wp_walk using wpAny_load hl; exact ⟨_, rfl, h⟩
theorem str_eq_declines_dict (b : Str) (u : Tok) (l : Addr) (o : Obj) (es : Array DictEntry) (ep : Nat) :
    Meets (Builtin.«str.__eq__» ⟨[.str b u, .ref l], []⟩) (fun _ R s => (s.heap.get? l = some o ∧ o.cls = .type "dict" ∧ o.data = .dict es ep) ∧ R (.ok (.ret .notImplemented)) s) :=
  .of_wp fun prog w A R s h => by
    obtain ⟨hp, g, d, tk, os⟩ := s; obtain ⟨⟨hl, hc, hd⟩, h⟩ := h; obtain ⟨cls, dd, data, sl⟩ := o; simp only at hc hd; subst hc; subst hd
    wp_walk using wpAny_load hl; exact ⟨_, rfl, h⟩
section
variable {X : Cx} {Z : Zx}
def rEqDS : R2 := fun x y H Q => ∃ a kvs z, x = V.ref a ∧ y = V.str z ∧ H a = some (.dK kvs) ∧ Q (.bl false) H
theorem op_eqDS (hu : X.A.units + 64 < cLine) : OpR X (compareOp .Eq) rEqDS := by
  intro pins s σ H x y v u Q I rx ry h
  obtain ⟨a, kvs, z, rfl, rfl, e, q⟩ := h
  cases rx
  obtain ⟨t, rfl⟩ := ry
  obtain ⟨_, _, vs, _, o, es, ep, ho, ⟨hc, hdd, hsl⟩, hd, _⟩ := dk_of I.hok e
  show wpAny _ X.A (richCompare .Eq _ _) _ _ s
  exact rc_eq_decline_or (k := false) (Ta := "dict") (Tb := "str") ⟨_, ho, hc⟩ (typeIs_str s z t) (by decide) F.sub_str_dict F.slot_dict_eq F.slot_str_eq_refl
    (fun _ hq => call_meets F.slot_dict_eq ⟨_, ho, hc⟩ F.entry_dict_eq (F.args_dict_eq_2 _ _) (dict_eq_declines_str a o z t) ⟨⟨ho, hc⟩, hq⟩)
    (fun _ hq => call_meets F.slot_str_eq_refl (typeIs_str s z t) F.entry_str_eq (F.args_str_eq_2 _ _) (str_eq_declines_dict z t a o es ep) ⟨⟨ho, hc, hd⟩, hq⟩)
    (fun _ hq => wpAny_of_eq (rfl : isSame (.ref a) (.str z t) = pure false) hq) (.inr (by omega)) ⟨.bl false, H, I, rfl, q⟩
theorem jo_eqDS (hu : X.A.units + 64 < cLine) : JOp X Z (compareOp .Eq) (fun x y C Q => ∃ k kvs z, x = .cell k ∧ y = .str z ∧ C[k]? = some (.dct kvs) ∧ Q (.bl false) C) := ⟨_, op_eqDS hu, fun S H C x y rx ry Qm Q rp dx dy k q => by
  obtain ⟨p, kvs, z, rfl, rfl, e, q⟩ := q
  cases dx with
  | cell h =>
    cases dy
    obtain ⟨kv, e1, _⟩ := cell_at rp h e
    exact ⟨_, kv, _, rfl, rfl, e1, k _ _ _ _ _ q rp (Le.refl _ _) (.bl _)⟩⟩
theorem isDctC_ex {C : Cs} {x y : R} (h : isDctC C x y = true) : ∃ k kvs z, x = .cell k ∧ y = .str z ∧ C[k]? = some (.dct kvs) := by
  unfold isDctC at h
  split at h
  · split at h
    · exact ⟨_, _, _, rfl, rfl, by assumption⟩
    · cases h
  · cases h
theorem jo_eqV (hu : X.A.units + 64 < cLine) : JOp X Z (compareOp .Eq) oEqV := by
  obtain ⟨r, h1, h2⟩ := JOp.or (X := X) (Z := Z) (jo_eqDS hu) (jo_eq hu)
  refine ⟨r, h1, fun S H C x y rx ry Qm Q rp dx dy k q => h2 S H C x y rx ry Qm Q rp dx dy k ?_⟩
  unfold oEqV at q
  cases e : isDctC C rx ry with
  | true =>
    rw [e] at q
    obtain ⟨k, kvs, z, e1, e2, e3⟩ := isDctC_ex e
    exact .inl ⟨k, kvs, z, e1, e2, e3, q⟩
  | false =>
    rw [e] at q
    exact .inr q
end
end NB

set_option Elab.async false
set_option linter.all false
set_option maxRecDepth 100000
set_option maxHeartbeats 1000000
/-! MMore8: comparisons of three, lcm of math, dict(d) -/
namespace NB
open PySem PySem.Spec PyProof.Rows L2
section
variable {X : Cx} {Z : Zx}
theorem jf_str : JF X Z (.type "str") fStr := ⟨_, call_str_int, fun S H C xs rs Qm Q rp d k q => by
  unfold fStr at q
  split at q
  · rename_i i
    cases d with
    | cons d t =>
      cases t
      cases d
      have h := q.1
      have e : i.natAbs.log2 < 64 := by
        by_cases z : i.natAbs = 0
        · rw [z]; decide
        · exact (Nat.log2_lt z).mpr (by show _ < 18446744073709551616; exact h)
      refine ⟨_, rfl, by omega, ?_⟩
      have q2 := q.2
      unfold strI at q2
      exact k _ _ _ _ _ q2 rp (Le.refl _ _) (.str _)
  · exact q.elim⟩
def rLcm : List V → Hp → VK → Prop := fun vs H Q => ∃ a b : Int, vs = [.int a, .int b] ∧ (a.natAbs < 18446744073709551616 ∧ b.natAbs < 18446744073709551616) ∧ Q (.int ((Int.lcm a b : Nat) : Int)) H
theorem cr_lcm : CallR X (.builtin "math.lcm") rLcm := by
  intro pins s σ H vs us Q I r h
  obtain ⟨a, b, rfl, ⟨h1, h2⟩, q⟩ := h
  obtain ⟨t, u, rfl⟩ := Vals.int2 r
  exact PySem.W.mc_lcm h1 h2 fun _ => ⟨.int _, H, I.tok _, ⟨_, rfl⟩, q⟩
theorem jf_lcm : JF X Z (.builtin "math.lcm") fLcm := ⟨_, cr_lcm, fun S H C xs rs Qm Q rp d k q => by
  unfold fLcm at q
  split at q
  · cases d with
    | cons d t => cases t with
      | cons d2 t => cases t; cases d; cases d2; exact ⟨_, _, rfl, q.1, k _ _ _ _ _ q.2 rp (Le.refl _ _) (.int _)⟩
  · exact q.elim⟩
theorem jf_dict : JF X Z (.type "dict") fDict := ⟨_, call_dictD, fun S H C xs rs Qm Q rp d k q => by
  unfold fDict at q
  split at q
  · rename_i k0
    cases e : C[k0]? with
    | none => rw [e] at q; exact q.elim
    | some c =>
      rw [e] at q
      cases c with
      | dct kvs =>
        cases d with
        | cons d t =>
          cases t
          cases d with
          | cell h =>
            obtain ⟨kv, e1, e2, e3⟩ := cell_at rp h e
            refine ⟨_, kv, rfl, .inl e1, fun p hp => ?_⟩
            obtain ⟨rp2, l2⟩ := rp.grow (o := .dK kv) (c := .dct kvs) hp fun S' l => ⟨kv, upd_same, e2, e3.mono l⟩
            exact k _ _ _ _ _ q rp2 l2 (.cell (by show (S.ps ++ [p])[C.length]? = some p; rw [← rp.len]; simp))
      | _ => exact q.elim
  · exact q.elim⟩
end
section
variable {X : Cx} {Z : Zx} {a b c d : Expr} {pos : Pos} {ta tb tc td : TE} {ma mb mc md : ME}
def tChain3 (r r' r'' : R2) (ta tb tc td : TE) : TE := fun σ H Q => ta σ H fun x H1 => tb σ H1 fun y H2 => r x y H2 fun z H3 => ∃ k, z = .bl k ∧
  (if k = true then tc σ H3 fun w H4 => r' y w H4 fun z5 H5 => ∃ k5, z5 = .bl k5 ∧ (if k5 = true then td σ H5 fun v H6 => r'' w v H6 Q else Q (.bl false) H5) else Q (.bl false) H3)
theorem pe_chain3 {op op' op'' : CmpOp} {r r' r'' : R2} (ho : OpR X (compareOp op) r) (ho' : OpR X (compareOp op') r') (ho'' : OpR X (compareOp op'') r'') (ha : PE X a ta) (hb : PE X b tb) (hc : PE X c tc) (hd : PE X d td)
    (hm : lastMarks [op, op', op''] [b, c, d] = false := by with_unfolding_all rfl) : PE X (.Compare a [op, op', op''] [b, c, d] pos) (tChain3 r r' r'' ta tb tc td) := by
  refine ⟨fun pins s σ H Q I h => ?_⟩
  refine Compare_chain (thn (ha.run pins s σ H _ I h) fun v s1 ⟨x, H1, I1, r1, q1⟩ => chain_link (thn (hb.run pins s1 σ H1 _ I1 q1) fun u s2 ⟨y, H2, I2, r2, q2⟩ =>
    thn (ho pins s2 σ H2 x y v u _ I2 r1 r2 q2) fun d s3 ⟨z, H3, I3, r3, k, e, q3⟩ => ?_)) hm
  subst e
  cases r3
  refine wpAny_truthy_bool ?_
  cases k with
  | false => exact ite_ff ⟨.bl false, H3, I3, rfl, q3⟩
  | true =>
    refine ite_tt (chain_link (thn (hc.run pins s3 σ H3 _ I3 q3) fun w' s4 ⟨z', H4, I4, r4, q4⟩ => thn (ho' pins s4 σ H4 y z' u w' _ I4 r2 r4 q4) fun d5 s5 ⟨z5, H5, I5, r5, k5, e5, q5⟩ => ?_))
    subst e5
    cases r5
    refine wpAny_truthy_bool ?_
    cases k5 with
    | false => exact ite_ff ⟨.bl false, H5, I5, rfl, q5⟩
    | true => exact ite_tt (chain_last (thn (hd.run pins s5 σ H5 _ I5 q5) fun w6 s6 ⟨z6, H6, I6, r6, q6⟩ => ho'' pins s6 σ H6 z' z6 w' w6 Q I6 r4 r6 q6))
theorem tr_chain3 {r r' r'' : R2} {o o' o'' : R → R → Cs → Qe → Prop} (h : ∀ S H C x y rx ry Qm Q, Rep X.K S H C → D X.K S x rx → D X.K S y ry → LkE X.K Z S H Qm Q → o rx ry C Qm → r x y H Q)
    (h' : ∀ S H C x y rx ry Qm Q, Rep X.K S H C → D X.K S x rx → D X.K S y ry → LkE X.K Z S H Qm Q → o' rx ry C Qm → r' x y H Q)
    (h'' : ∀ S H C x y rx ry Qm Q, Rep X.K S H C → D X.K S x rx → D X.K S y ry → LkE X.K Z S H Qm Q → o'' rx ry C Qm → r'' x y H Q)
    (ha : TrE X.K Z ta ma) (hb : TrE X.K Z tb mb) (hc : TrE X.K Z tc mc) (hd : TrE X.K Z td md) : TrE X.K Z (tChain3 r r' r'' ta tb tc td) (mChain3 o o' o'' ma mb mc md) := by
  intro S σ H Γ C Qm Q A k q
  refine ha S σ H Γ C _ _ A (fun rx C1 x S1 H1 q1 rp1 l1 d1 => ?_) q
  refine hb S1 σ H1 Γ C1 _ _ (A.go l1 rp1) (fun ry C2 y S2 H2 q2 rp2 l2 d2 => ?_) q1
  refine h S2 H2 C2 x y rx ry _ _ rp2 (d1.mono l2) d2 (fun z C3 v S3 H3 q3 rp3 l3 d3 => ?_) q2
  cases d3 with
  | bl b =>
    refine ⟨b, rfl, ?_⟩
    cases b with
    | true =>
      rw [if_pos rfl]
      have q3' := q3
      simp only [ifP] at q3'
      refine hc S3 σ H3 Γ C3 _ _ (A.go (l1.trans (l2.trans l3)) rp3) (fun rw_ C4 w S4 H4 q4 rp4 l4 d4 => ?_) q3'
      have l14 := l1.trans (l2.trans (l3.trans l4))
      refine h' S4 H4 C4 y w ry rw_ _ _ rp4 (d2.mono (l3.trans l4)) d4 (fun z5 C5 v5 S5 H5 q5 rp5 l5 d5 => ?_) q4
      cases d5 with
      | bl b5 =>
        refine ⟨b5, rfl, ?_⟩
        cases b5 with
        | true =>
          rw [if_pos rfl]
          have q5' := q5
          simp only [ifP] at q5'
          refine hd S5 σ H5 Γ C5 _ _ (A.go (l14.trans l5) rp5) (fun r6 C6 v6 S6 H6 q6 rp6 l6 d6 => ?_) q5'
          exact h'' S6 H6 C6 w v6 rw_ r6 Qm Q rp6 (d4.mono (l5.trans l6)) d6 (k.go (l14.trans (l5.trans l6))) q6
        | false =>
          rw [if_neg Bool.false_ne_true]
          have q5' := q5
          simp only [ifP] at q5'
          exact k _ C5 _ S5 H5 q5' rp5 (l14.trans l5) (.bl false)
      | _ => exact q5.elim
    | false =>
      rw [if_neg Bool.false_ne_true]
      have q3' := q3
      simp only [ifP] at q3'
      exact k _ C3 _ S3 H3 q3' rp3 (l1.trans (l2.trans l3)) (.bl false)
  | _ => exact q3.elim
theorem je_chain3 {op op' op'' : CmpOp} {o o' o'' : R → R → Cs → Qe → Prop} (ho : JOp X Z (compareOp op) o) (ho' : JOp X Z (compareOp op') o') (ho'' : JOp X Z (compareOp op'') o'') (ha : JE X Z a ma) (hb : JE X Z b mb) (hc : JE X Z c mc) (hd : JE X Z d md)
    (hm : lastMarks [op, op', op''] [b, c, d] = false := by with_unfolding_all rfl) : JE X Z (.Compare a [op, op', op''] [b, c, d] pos) (mChain3 o o' o'' ma mb mc md) := by
  obtain ⟨r, h1, h2⟩ := ho
  obtain ⟨r', h1', h2'⟩ := ho'
  obtain ⟨r'', h1'', h2''⟩ := ho''
  obtain ⟨ta, pa, ka⟩ := ha
  obtain ⟨tb, pb, kb⟩ := hb
  obtain ⟨tc, pc, kc⟩ := hc
  obtain ⟨td, pd, kd⟩ := hd
  exact ⟨_, pe_chain3 h1 h1' h1'' pa pb pc pd hm, tr_chain3 h2 h2' h2'' ka kb kc kd⟩
end
/-! ### exceptions of two and of three values -/
section
variable {X : Cx} {Z : Zx} {e : Expr} {es : List Expr} {am : MA} {pos : Pos}
def spIni2 (C : Addr) (f g : Str) : Sp := fun vs H Q _ => ∃ (a : Addr) (v w : V), vs = [.ref a, v, w] ∧ H a = some (exo a C none) ∧ ∀ dx, H dx = none → dx ≠ a → Q .non (upd (upd (upd H dx (exd dx [(f, v)])) a (exo a C (some dx))) dx (exd dx [(g, w), (f, v)]))
def spIni3 (C : Addr) (f g h : Str) : Sp := fun vs H Q _ => ∃ (a : Addr) (v w u : V), vs = [.ref a, v, w, u] ∧ H a = some (exo a C none) ∧ ∀ dx, H dx = none → dx ≠ a →
  Q .non (upd (upd (upd (upd H dx (exd dx [(f, v)])) a (exo a C (some dx))) dx (exd dx [(g, w), (f, v)])) dx (exd dx [(h, u), (g, w), (f, v)]))
structure ExcK2 (P : Program) (w : World) (K : PySem.W.Frag) (mg : Str → Option Value) (base : Heap) (cl : String → Addr) (x f g : Str) (c : String) : Prop where
  oex : OexC K (cl c)
  ini : ∃ (fI : Addr) (fd : FuncData) (ps : List Str), PySem.W.findIn K (.ref (cl c)) "__init__" = some (some (.ref fI)) ∧ PySem.W.typeIn K (.ref fI) = some (.type "function") ∧ FnOk P w K mg base CX0 1 fI fd ps (spIni2 (cl c) f g) ∧ Binds K fd ps []
  gl : mg x = some (.ref (cl c))
structure ExcK3 (P : Program) (w : World) (K : PySem.W.Frag) (mg : Str → Option Value) (base : Heap) (cl : String → Addr) (x f g h : Str) (c : String) : Prop where
  oex : OexC K (cl c)
  ini : ∃ (fI : Addr) (fd : FuncData) (ps : List Str), PySem.W.findIn K (.ref (cl c)) "__init__" = some (some (.ref fI)) ∧ PySem.W.typeIn K (.ref fI) = some (.type "function") ∧ FnOk P w K mg base CX0 1 fI fd ps (spIni3 (cl c) f g h) ∧ Binds K fd ps []
  gl : mg x = some (.ref (cl c))
theorem upd_awayG {H H2 : Hp} {a d : Addr} {z : HO} (na : H a = none) (h : ∀ b, b ≠ a → b ≠ d → H2 b = H b) : upd (del H2 a) d z = upd H d z := by
  funext b
  by_cases hb : b = d
  · subst hb; rw [upd_same, upd_same]
  · rw [upd_ne hb, upd_ne hb]
    by_cases ha : b = a
    · subst ha; rw [del_same, na]
    · rw [del_ne ha]; exact h b ha hb
theorem js_raise2 {x : Str} {f g : String} {cn : String} {p : Pos} {ppos : Pos} (T : ExcK2 X.prog X.w X.K X.mg X.base Z.cl x (Str.ofString f) (Str.ofString g) cn) (ok : ZOk X Z) (hc : X.calm = true) (hr : RG 2 X.A) (ha : JA X Z (e :: es) am) (hg : Gl X x := by rfl) (hdb : (x == ("__debug__" : Str)) = false := by decide)
    (hs : starEach (e :: es) X.env = (false, eval e X.env) :: starEach es X.env := by rfl) (hpl : (backTo ppos (starEach es X.env)).any (·.1) = false := by rfl) : JS X Z (.Raise (some (.Call (.Name x p) (e :: es) [] ppos)) none pos) (mRaise2 cn f g Z.e am) := by
  obtain ⟨t, pa, k⟩ := ha
  obtain ⟨fI, fd, ps, h1, h2, h3, h4⟩ := T.ini
  have hx : Passes CX0 X (fun _ _ _ => False) := pass0
  refine ⟨_, ps_raise hc ok.tk (pmk_oex T.oex h1 h2 h3 hr.r h4 .nil hx hg T.gl pa hdb hs hpl), fun S σ H Γ C Dm Ds A l q => k S σ H Γ C _ _ A (fun rs C1 vs S1 H1 q1 rp1 l1 d1 => ?_) q⟩
  split at q1
  · rename_i r r2
    cases d1 with
    | @cons v _ _ _ d1 d2 => cases d2 with
      | @cons w _ _ _ d2 d3 =>
        cases d3
        refine ⟨by show 2 ≤ 1000; decide, fun aa na => ?_⟩
        refine ⟨aa, v, w, rfl, upd_same, fun dx nd ne => ⟨rfl, dx, [(Str.ofString g, w), (Str.ofString f, v)], ?_, ?_, ?_, ?_⟩⟩
        · rw [upd_ne (Ne.symm ne)]; exact upd_same
        · exact upd_same
        · rw [upd_ne ne] at nd; exact nd
        · rw [upd_ne ne] at nd
          rw [upd_awayG (H := H1) na (fun b hb hd => by rw [upd_ne hd, upd_ne hb, upd_ne hd, upd_ne hb])]
          obtain ⟨rp2, l2⟩ := rp1.freeze (o := .xd [(Str.ofString g, w), (Str.ofString f, v)]) nd
          exact ok.link _ σ _ Γ C1 cn [(g, r2), (f, r)] dx _ (A.go (l1.trans l2) rp2) q1 upd_same (.cons (d2.mono l2) (.cons (d1.mono l2) .nil))
  · exact q1.elim
theorem js_raise3 {x : Str} {f g h : String} {cn : String} {p : Pos} {ppos : Pos} (T : ExcK3 X.prog X.w X.K X.mg X.base Z.cl x (Str.ofString f) (Str.ofString g) (Str.ofString h) cn) (ok : ZOk X Z) (hc : X.calm = true) (hr : RG 2 X.A) (ha : JA X Z (e :: es) am) (hg : Gl X x := by rfl) (hdb : (x == ("__debug__" : Str)) = false := by decide)
    (hs : starEach (e :: es) X.env = (false, eval e X.env) :: starEach es X.env := by rfl) (hpl : (backTo ppos (starEach es X.env)).any (·.1) = false := by rfl) : JS X Z (.Raise (some (.Call (.Name x p) (e :: es) [] ppos)) none pos) (mRaise3 cn f g h Z.e am) := by
  obtain ⟨t, pa, k⟩ := ha
  obtain ⟨fI, fd, ps, h1, h2, h3, h4⟩ := T.ini
  have hx : Passes CX0 X (fun _ _ _ => False) := pass0
  refine ⟨_, ps_raise hc ok.tk (pmk_oex T.oex h1 h2 h3 hr.r h4 .nil hx hg T.gl pa hdb hs hpl), fun S σ H Γ C Dm Ds A l q => k S σ H Γ C _ _ A (fun rs C1 vs S1 H1 q1 rp1 l1 d1 => ?_) q⟩
  split at q1
  · rename_i r r2 r3
    cases d1 with
    | @cons v _ _ _ d1 d2 => cases d2 with
      | @cons w _ _ _ d2 d3 => cases d3 with
        | @cons u _ _ _ d3 d4 =>
          cases d4
          refine ⟨by show 3 ≤ 1000; decide, fun aa na => ?_⟩
          refine ⟨aa, v, w, u, rfl, upd_same, fun dx nd ne => ⟨rfl, dx, [(Str.ofString h, u), (Str.ofString g, w), (Str.ofString f, v)], ?_, ?_, ?_, ?_⟩⟩
          · rw [upd_ne (Ne.symm ne), upd_ne (Ne.symm ne)]; exact upd_same
          · exact upd_same
          · rw [upd_ne ne] at nd; exact nd
          · rw [upd_ne ne] at nd
            rw [upd_awayG (H := H1) na (fun b hb hd => by rw [upd_ne hd, upd_ne hd, upd_ne hb, upd_ne hd, upd_ne hb])]
            obtain ⟨rp2, l2⟩ := rp1.freeze (o := .xd [(Str.ofString h, u), (Str.ofString g, w), (Str.ofString f, v)]) nd
            exact ok.link _ σ _ Γ C1 cn [(h, r3), (g, r2), (f, r)] dx _ (A.go (l1.trans l2) rp2) q1 upd_same (.cons (d3.mono l2) (.cons (d2.mono l2) (.cons (d1.mono l2) .nil)))
  · exact q1.elim
theorem ini_ok2 {P : Program} {w : World} {K : PySem.W.Frag} {mg : Str → Option Value} {base : Heap} {C : Addr} {x qual f g : Str} {st : Stmt} {fI : Addr} {fd : FuncData} {p1 p2 p3 pp q1 q2 q3 qq : Pos} (F : Fun K x qual st fI fd) (Sc : FnScope ["self", f, g] ["self", f, g] (defScope st)) (T : OexC K C)
    (no : PySem.W.findIn K (.ref C) f = some none) (no2 : PySem.W.findIn K (.ref C) g = some none)
    (hb : defBody st = [.Assign [.Attribute (.Name "self" p1) f p2] (.Name f p3) pp, .Assign [.Attribute (.Name "self" q1) g q2] (.Name g q3) qq]) (hs : Vis (defScope st) "self") (hv : Vis (defScope st) f) (hv2 : Vis (defScope st) g)
    (hd : (f == ("__debug__" : Str)) = false) (hd2 : (f == ("__classdict__" : Str)) = false) (hd3 : (g == ("__debug__" : Str)) = false) (hd4 : (g == ("__classdict__" : Str)) = false)
    (hsw : ∀ env : Env, swapsWith (.Name f p3) (some (.Attribute (.Name "self" p1) f p2)) pp.line env = pure false) (hsw2 : ∀ env : Env, swapsWith (.Name g q3) (some (.Attribute (.Name "self" q1) g q2)) qq.line env = pure false) :
    FnOk P w K mg base CX0 1 fI fd ["self", f, g] (spIni2 C f g) := by
  refine F.ok Sc (fun vs H Q E h => ?_) (fun cdv A outer s H vs Q E hr h => ?_)
  · obtain ⟨a, v, w, rfl, _⟩ := h; rfl
  · obtain ⟨a, v, w, rfl, ha, k⟩ := h
    rw [hb]
    refine ⟨_, pss_cons (ps_ost (pe_var (i := 0) rfl hs) (pe_var (i := 1) rfl hv hd hd2) (hsw _)) (pss_one (ps_ost (pe_var (i := 0) rfl hs) (pe_var (i := 2) rfl hv2 hd3 hd4) (hsw2 _))), ?_⟩
    refine ⟨v, rfl, .ref a, rfl, a, C, rfl, T, no, .inl ⟨ha, fun dx nd ne => ?_⟩⟩
    exact ⟨w, rfl, .ref a, rfl, a, C, rfl, T, no2, .inr ⟨dx, [(f, v)], upd_same, by rw [upd_ne ne]; exact upd_same, by show 1 ≤ 900; decide, k dx nd ne⟩⟩
theorem ini_ok3 {P : Program} {w : World} {K : PySem.W.Frag} {mg : Str → Option Value} {base : Heap} {C : Addr} {x qual f g h : Str} {st : Stmt} {fI : Addr} {fd : FuncData} {p1 p2 p3 pp q1 q2 q3 qq r1 r2 r3 rr : Pos} (F : Fun K x qual st fI fd) (Sc : FnScope ["self", f, g, h] ["self", f, g, h] (defScope st)) (T : OexC K C)
    (no : PySem.W.findIn K (.ref C) f = some none) (no2 : PySem.W.findIn K (.ref C) g = some none) (no3 : PySem.W.findIn K (.ref C) h = some none)
    (hb : defBody st = [.Assign [.Attribute (.Name "self" p1) f p2] (.Name f p3) pp, .Assign [.Attribute (.Name "self" q1) g q2] (.Name g q3) qq, .Assign [.Attribute (.Name "self" r1) h r2] (.Name h r3) rr]) (hs : Vis (defScope st) "self") (hv : Vis (defScope st) f) (hv2 : Vis (defScope st) g) (hv3 : Vis (defScope st) h)
    (hd : (f == ("__debug__" : Str)) = false) (hd2 : (f == ("__classdict__" : Str)) = false) (hd3 : (g == ("__debug__" : Str)) = false) (hd4 : (g == ("__classdict__" : Str)) = false) (hd5 : (h == ("__debug__" : Str)) = false) (hd6 : (h == ("__classdict__" : Str)) = false)
    (hsw : ∀ env : Env, swapsWith (.Name f p3) (some (.Attribute (.Name "self" p1) f p2)) pp.line env = pure false) (hsw2 : ∀ env : Env, swapsWith (.Name g q3) (some (.Attribute (.Name "self" q1) g q2)) qq.line env = pure false)
    (hsw3 : ∀ env : Env, swapsWith (.Name h r3) (some (.Attribute (.Name "self" r1) h r2)) rr.line env = pure false) :
    FnOk P w K mg base CX0 1 fI fd ["self", f, g, h] (spIni3 C f g h) := by
  refine F.ok Sc (fun vs H Q E h => ?_) (fun cdv A outer s H vs Q E hr h => ?_)
  · obtain ⟨a, v, w, u, rfl, _⟩ := h; rfl
  · obtain ⟨a, v, w, u, rfl, ha, k⟩ := h
    rw [hb]
    refine ⟨_, pss_cons (ps_ost (pe_var (i := 0) rfl hs) (pe_var (i := 1) rfl hv hd hd2) (hsw _)) (pss_cons (ps_ost (pe_var (i := 0) rfl hs) (pe_var (i := 2) rfl hv2 hd3 hd4) (hsw2 _)) (pss_one (ps_ost (pe_var (i := 0) rfl hs) (pe_var (i := 3) rfl hv3 hd5 hd6) (hsw3 _)))), ?_⟩
    refine ⟨v, rfl, .ref a, rfl, a, C, rfl, T, no, .inl ⟨ha, fun dx nd ne => ?_⟩⟩
    refine ⟨w, rfl, .ref a, rfl, a, C, rfl, T, no2, .inr ⟨dx, [(f, v)], upd_same, by rw [upd_ne ne]; exact upd_same, by show 1 ≤ 900; decide, ?_⟩⟩
    exact ⟨u, rfl, .ref a, rfl, a, C, rfl, T, no3, .inr ⟨dx, [(g, w), (f, v)], by rw [upd_ne (Ne.symm ne)]; exact upd_same, upd_same, by show 2 ≤ 900; decide, k dx nd ne⟩⟩
end
end NB

set_option Elab.async false
set_option linter.all false
set_option maxRecDepth 100000
set_option maxHeartbeats 1000000
/-! MMore9: list(d.items()) of an empty dict -/
namespace NB
open PySem PySem.Spec PyProof.Rows L2
section
variable {K : PySem.W.Frag} {S : Wd} {H H' : Hp} {C : Cs}
theorem ctOk_ext {p : Addr} (h : ∀ b o, H b = Option.some o → H' b = Option.some o) : ∀ {c : Ct}, CtOk K S H p c → CtOk K S H' p c
  | .lst _, ⟨vs, e, d⟩ => ⟨vs, h _ _ e, d⟩
  | .box _, ⟨a, b, c, d, e, r⟩ => ⟨a, b, c, d, h _ _ e, r⟩
  | .dct _, ⟨kv, e, r⟩ => ⟨kv, h _ _ e, r⟩
  | .dtt _, ⟨kv, e, r⟩ => ⟨kv, h _ _ e, r⟩
  | .dead, ⟨o, e⟩ => ⟨o, h _ _ e⟩
theorem Rep.ext (rp : Rep K S H C) (h : ∀ b o, H b = Option.some o → H' b = Option.some o) : Rep K S H' C ∧ Le S H S H' :=
  ⟨⟨fun b o e => h _ _ (rp.sub b o e), rp.len, rp.nd, rp.off, fun k p c hk hc => ctOk_ext h (rp.at_ k p c hk hc)⟩, fun _ _ e => e, fun _ _ e => e, fun b o e _ => h _ _ e, fun _ e => .inl e, fun _ _ e => .inl e⟩
end
section
variable {X : Cx} {Z : Zx} {e : Expr} {m : ME} {p apos cpos pos : Pos}
theorem je_items0 (hc : X.calm = true) (hm : X.mg "list" = none) (he : JE X Z e m) (hg : Gl X "list" := by rfl) (hbase : attributeBase e "items" X.env (eval e X.env) = eval e X.env := by rfl) (hline : (apos.endLine == cpos.line) = true := by rfl)
    (hs : starEach [.Call (.Attribute e "items" apos) [] [] cpos] X.env = (false, eval (.Call (.Attribute e "items" apos) [] [] cpos) X.env) :: starEach [] X.env := by rfl) :
    JE X Z (.Call (.Name "list" p) [.Call (.Attribute e "items" apos) [] [] cpos] [] pos) (mItems0 m) := by
  obtain ⟨t, pa, ka⟩ := he
  refine ⟨_, LiI.pe_listItems hc pa hg hm (by rfl) hbase hline hs, fun S σ H Γ C Qm Q A k q => ?_⟩
  refine ka S σ H Γ C _ _ A (fun r C1 v S1 H1 q1 rp1 l1 d1 => ?_) q
  cases d1 with
  | @cell a k0 h =>
    cases ec : C1[k0]? with
    | none => simp only [ec] at q1
    | some c =>
      simp only [ec] at q1
      cases c with
      | dct kvs =>
        cases kvs with
        | nil =>
          obtain ⟨kv, e1, e2, e3⟩ := cell_at rp1 h ec
          obtain rfl : kv = [] := by cases kv with
            | nil => rfl
            | cons _ _ => cases e2
          refine ⟨_, [], rfl, e1, fun H' p ts h1 h2 _ _ h5 h6 => ?_⟩
          obtain rfl : ts = [] := by cases h6; rfl
          obtain ⟨rp2, l2⟩ := rp1.freeze (o := .lst []) h2
          obtain ⟨rp3, l3⟩ := rp2.ext (H' := H') fun b o e => by
            by_cases hb : b = p
            · subst hb
              rw [upd_same] at e
              rw [← e]; exact h5
            · rw [upd_ne hb] at e
              exact h1 _ _ e
          exact k _ _ _ _ _ q1 rp3 ((l1.trans l2).trans l3) (.lst (by exact upd_same) .nil)
        | cons _ _ => exact q1.elim
      | _ => exact q1.elim
  | _ => exact q1.elim
end
section
variable {X : Cx} {Z : Zx} {o e : Expr} {mo m : ME} {apos cpos pos : Pos}
theorem je_extend (ho : JE X Z o mo) (he : JE X Z e m) (hbase : attributeBase o "extend" X.env (eval o X.env) = eval o X.env := by rfl) (hline : (apos.endLine == cpos.line) = true := by rfl)
    (h1 : starEach [e] X.env = (false, eval e X.env) :: starEach [] X.env := by rfl) (h2 : (backTo cpos (starEach [] X.env)).any (·.1) = false := by rfl)
    (hfew : ((backTo cpos (starEach [e] X.env)).all (fun x => !x.1) && (backToKw cpos (keywordEach [] X.env)).all (fun x => x.1.isSome) && decide (([e] : List Expr).length + ([] : List Keyword).length + (if ([] : List Keyword).isEmpty then 0 else 1) < 30)) = true := by rfl) : JE X Z (.Call (.Attribute o "extend" apos) [e] [] cpos) (mExt mo m) := by
  obtain ⟨t, p, k⟩ := ho
  obtain ⟨u, pu, ku⟩ := he
  refine ⟨_, pe_bm PySem.F.plainAttrs_list PySem.F.slot_list_extend PySem.F.type_list_extend mt_extend p (pa_cons pu pa_nil h1) hbase hfew hline h1 h2, fun S σ H Γ C Qm Q A l q => k S σ H Γ C _ _ A (fun r C1 v S1 H1 q1 rp1 l1 d1 => ?_) q⟩
  obtain ⟨kk, a, xs, vs, rfl, rfl, hp, hc, hv, dl⟩ := cl_of rp1 d1 q1.1
  refine ⟨tyL hv, ku S1 σ H1 Γ C1 _ _ (A.go l1 rp1) (fun y C2 w S2 H2 q2 rp2 l2 d2 => ?_) q1.2⟩
  dsimp only at q2
  have hp2 := l2.ps kk a hp
  cases e : C2[kk]? with
  | none => rw [e] at q2; exact q2.elim
  | some cc =>
    rw [e] at q2
    cases cc with
    | lst ys =>
      obtain ⟨us, z, t⟩ := cell_at rp2 hp2 e
      have fin : (∀ zs, y ≠ .scr zs) → (optP (lstOf C2 y) fun zs => ys.length + zs.length ≤ 16777216 ∧ Qm .non (C2.set kk (.lst (ys ++ zs)))) → rExtend (.ref a) [w] H2 Q := fun n q => by
        obtain ⟨zs, e1, q3⟩ := optP_ex q
        obtain ⟨b, ws, rfl, h1, t1⟩ := lst_ofH rp2 d2 e1 n
        exact ⟨a, b, us, ws, rfl, rfl, z, h1, by rw [t.length, t1.length, sizeLine_eq]; exact q3.1, cell_put rp2 (l.go (l1.trans l2)) hp2 e (t.append t1) .non q3.2⟩
      cases y with
      | scr _ => exact q2.elim
      | _ => exact fin (fun _ z => by cases z) q2
    | _ => exact q2.elim
theorem je_index (ho : JE X Z o mo) (he : JE X Z e m) (hbase : attributeBase o "index" X.env (eval o X.env) = eval o X.env := by rfl) (hline : (apos.endLine == cpos.line) = true := by rfl)
    (h1 : starEach [e] X.env = (false, eval e X.env) :: starEach [] X.env := by rfl) (h2 : (backTo cpos (starEach [] X.env)).any (·.1) = false := by rfl)
    (hfew : ((backTo cpos (starEach [e] X.env)).all (fun x => !x.1) && (backToKw cpos (keywordEach [] X.env)).all (fun x => x.1.isSome) && decide (([e] : List Expr).length + ([] : List Keyword).length + (if ([] : List Keyword).isEmpty then 0 else 1) < 30)) = true := by rfl) : JE X Z (.Call (.Attribute o "index" apos) [e] [] cpos) (mIndex mo m) := by
  obtain ⟨t, p, k⟩ := ho
  obtain ⟨u, pu, ku⟩ := he
  refine ⟨_, pe_bm PySem.F.plainAttrs_list PySem.F.slot_list_index PySem.F.type_list_index mt_index p (pa_cons pu pa_nil h1) hbase hfew hline h1 h2, fun S σ H Γ C Qm Q A l q => k S σ H Γ C _ _ A (fun r C1 v S1 H1 q1 rp1 l1 d1 => ?_) q⟩
  obtain ⟨q0, q1⟩ := q1
  cases r with
  | lst xs =>
    obtain ⟨a, vs, rfl, hv, dl⟩ := lst_ofH rp1 d1 (show lstOf C1 (.lst xs) = some xs from rfl) (fun _ z => by cases z)
    refine ⟨tyL hv, ku S1 σ H1 Γ C1 _ _ (A.go l1 rp1) (fun y C2 w S2 H2 q2 rp2 l2 d2 => ?_) q1⟩
    obtain ⟨⟨f1, f2⟩, j, z, ⟨z1, z2⟩, z3, q3⟩ := q2
    have dl2 := dl.mono l2
    have dr := d1.mono l2
    obtain ⟨b, ws, e1, hs, dl3⟩ := lst_of rp2 dr (show lstOf C2 (.lst xs) = some xs from rfl)
    cases e1
    have fw := flat_vs dl3 f2
    have fy := flat_v d2 f1
    have hlen : ws.length = xs.length := dl3.length
    have hj : j < xs.length := (List.getElem?_eq_some_iff.mp z1).1
    have at_ : ∀ (m : Nat) (v : V), ws[m]? = some v → ∃ r, xs[m]? = some r ∧ D X.K S2 v r := fun m v hv => by
      obtain ⟨r, e2, d⟩ := dl3.get' hv
      exact ⟨r, e2, d⟩
    have hw : ws[j]? = some (ws[j]'(by omega)) := List.getElem?_eq_getElem _
    obtain ⟨r1, e3, d3⟩ := at_ j _ hw
    rw [z1] at e3
    cases e3
    refine ⟨a, ws, w, j, _, rfl, rfl, hs, fy, fw, hw, ?_, fun m v' hm hv' => ?_, l _ _ _ _ _ q3 rp2 (l1.trans l2) (.int _)⟩
    · rw [flat_eq d3 d2 (List.all_eq_true.mp f2 _ (List.mem_of_getElem? z1)) f1]; exact z2
    · obtain ⟨r4, e4, d4⟩ := at_ m v' hv'
      rw [flat_eq d4 d2 (List.all_eq_true.mp f2 _ (List.mem_of_getElem? e4)) f1]
      exact z3 m r4 hm e4
  | _ => exact q0.elim
end
end NB

set_option Elab.async false
set_option linter.all false
set_option maxRecDepth 100000
set_option maxHeartbeats 1000000
/-! MMore10: str of a long int; defs that call themselves and others -/
namespace NB
open PySem PySem.Spec PyProof.Rows L2
section
variable {X : Cx} {Z : Zx}
theorem jf_strB : JF X Z (.type "str") fStrB := ⟨_, call_str_int, fun S H C xs rs Qm Q rp d k q => by
  unfold fStrB at q
  split at q
  · rename_i i
    cases d with
    | cons d t =>
      cases t
      cases d
      have h := q.1
      have e : i.natAbs.log2 < 1900 := by
        by_cases z : i.natAbs = 0
        · rw [z]; decide
        · exact (Nat.log2_lt z).mpr h
      refine ⟨_, rfl, by omega, ?_⟩
      have q2 := q.2
      unfold strI at q2
      exact k _ _ _ _ _ q2 rp (Le.refl _ _) (.str _)
  · exact q.elim⟩
theorem ji_or {tg iter : Expr} {a b : MI} (h : JI X Z tg iter a) (g : JI X Z tg iter b) : JI X Z tg iter (iOr a b) := by
  obtain ⟨w1, p1, k1⟩ := h
  obtain ⟨w2, p2, k2⟩ := g
  refine ⟨fun σ H R => w1 σ H R ∨ w2 σ H R, ⟨fun pins s σ H R I q => ?_⟩, fun S σ H Γ C Qm R A l q => ?_⟩
  · rcases q with q | q
    · exact p1.run pins s σ H R I q
    · exact p2.run pins s σ H R I q
  · rcases q with q | q
    · exact .inl (k1 S σ H Γ C Qm R A l q)
    · exact .inr (k2 S σ H Γ C Qm R A l q)
end
section
variable {P : Program} {w : World} {K : PySem.W.Frag} {mg : Str → Option Value} {base : Heap} {qual x : Str} {st : Stmt} {N ps : List Str} {np : Nat} {f : Addr} {fd : FuncData} {cl : String → Addr}
theorem fn_recB {m : Wt → (Gm → MX) → MS} (b : Nat) (WS : Nat → Wt) (F : Fun K x qual st f fd) (Sc : FnScope N ps (defScope st)) (hn : ps.length = np) (hmg : mg x = some (.ref f)) (har : ∀ n rs C Q E, WS n rs C Q E → rs.length = np)
    (hder : ∀ (lvR : Nat) (WR : Wt), b ≤ lvR → Fn P w K mg base cl lvR x np WR f fd ps → ∀ (cdv : Value) (A : Around) (outer : List Env) (s : Shared) (H : Hp) (E : XK) (Z : Zx), Z.cl = cl → RG lvR (A.deeper (envOfC qual (defScope st) s.heap.objs.size f cdv)) →
      ZOk (cxOf (L2.CX P w) P w K mg base N qual (defScope st) f cdv A outer s H E) Z → JSs (cxOf (L2.CX P w) P w K mg base N qual (defScope st) f cdv A outer s H E) Z (defBody st) (m WR Z.e))
    (hm : ∀ n, Keeps N.length (m (prevW WS n)) np (WS n)) : ∀ n, Fn P w K mg base cl (b + n + 1) x np (WS n) f fd ps
  | 0 => fn_M F Sc hn hmg (har 0) (hder b _ (Nat.le_refl _) ⟨⟨fun vs H Q E h => by obtain ⟨_, _, _, _, _, _, _, _, z, _⟩ := h; exact z.elim, fun _ _ _ _ _ _ _ _ _ _ _ _ _ h => by obtain ⟨_, _, _, _, _, _, _, _, z, _⟩ := h; exact z.elim⟩, hmg, F.kp, fun _ _ _ _ z => z.elim⟩) (hm 0)
  | n + 1 => fn_M F Sc hn hmg (har (n + 1)) (hder (b + n + 1) _ (by omega) (fn_recB b WS F Sc hn hmg har hder hm n)) (hm (n + 1))
end
end NB

set_option Elab.async false
set_option linter.all false
set_option maxRecDepth 100000
set_option maxHeartbeats 1000000
/-! MMore11: a value that is a list cell, frozen where it is made -/
namespace NB
open PySem PySem.Spec PyProof.Rows L2
/-- the value, a cell with a list, as a frozen list -/
def mIceE (e : ME) : ME := fun Γ C Q => e Γ C fun r C1 => match r with
  | .cell k => lstP C1[k]? fun xs => Q (.lst xs) (C1.set k .dead)
  | _ => False
section
variable {X : Cx} {Z : Zx} {e : Expr} {me : ME}
theorem je_ice (h : JE X Z e me) : JE X Z e (mIceE me) := by
  obtain ⟨t, p, k⟩ := h
  refine ⟨t, p, fun S σ H Γ C Qm Q A kk q => ?_⟩
  refine k S σ H Γ C _ _ A (fun x C1 y S1 H1 q1 rp1 l1 d1 => ?_) q
  cases d1 with
  | @cell a j hp =>
    obtain ⟨xs, ec, q1⟩ := lstP_ex q1
    obtain ⟨vs, z, t⟩ := cell_at rp1 hp ec
    obtain ⟨rp2, l2⟩ := rp1.ice hp ec z
    exact kk _ _ _ _ _ q1 rp2 (l1.trans l2) (.lst (by exact upd_same) (t.mono l2))
  | _ => exact q1.elim
end
end NB

set_option Elab.async false
set_option linter.all false
set_option maxRecDepth 100000
set_option maxHeartbeats 1000000
/-! MMore12: range with a step above 0 -/
namespace NB
open PySem PySem.Spec PyProof.Rows L2
def nSt (i j c : Int) : Nat := if i < j then ((j - i - 1) / c + 1).toNat else 0
/-- range(i, j, c), c above 0 -/
def iRgS (a : MA) : MI := fun Γ C Q => a Γ C fun rs C1 => match rs with
  | [.int i, .int j, .int c] => (1 ≤ c ∧ c < 1073741824 ∧ -(2 ^ 60) ≤ i ∧ i < 2 ^ 60 ∧ -(2 ^ 60) ≤ j ∧ j < 2 ^ 60) ∧ Q (stepsR i c (nSt i j c)) C1
  | _ => False
theorem rgC_pos {i j c : Int} (c1 : 1 ≤ c) (c2 : c < 1073741824) (h1 : -(2 ^ 60) ≤ i) (h2 : i < 2 ^ 60) (h3 : -(2 ^ 60) ≤ j) (h4 : j < 2 ^ 60) : RgC i j c (nSt i j c) := by
  have hs : Builtin.Range.rangeSize i j c = (nSt i j c : Nat) := by
    unfold Builtin.Range.rangeSize nSt
    rw [if_pos (by omega)]
    split
    · have := Int.ediv_nonneg (show 0 ≤ j - i - 1 by omega) (show 0 ≤ c by omega)
      omega
    · rfl
  have hb : (nSt i j c : Int) ≤ 2 ^ 62 := by
    unfold nSt
    split
    · have := Int.ediv_le_self c (show 0 ≤ j - i - 1 by omega)
      have := Int.ediv_nonneg (show 0 ≤ j - i - 1 by omega) (show 0 ≤ c by omega)
      omega
    · decide
  refine ⟨by omega, by omega, ?_, hs⟩
  unfold Builtin.Range.small
  rw [hs, if_pos (by omega)]
  have f : ∀ x : Int, -(2 ^ 62) - 10 ≤ x → x ≤ 2 ^ 62 + 10 → Builtin.Range.rangeFitsLong x = true := fun x a b => by
    unfold Builtin.Range.rangeFitsLong
    simp
    omega
  rw [f i (by omega) (by omega), f j (by omega) (by omega), f c (by omega) (by omega), f _ (by omega) (by omega), f (j + (c - 1)) (by omega) (by omega)]
  simp
section
variable {X : Cx} {Z : Zx} {tg a b c e : Expr} {es : List Expr} {am : MA} {p pos : Pos}
theorem ji_rngS (hm : X.mg "range" = none) (ha : JA X Z [a, b, c] am) (hg : Gl X "range" := by rfl) (hs : starEach [a, b, c] X.env = (false, eval a X.env) :: starEach [b, c] X.env := by rfl)
    (hpl : (backTo pos (starEach [b, c] X.env)).any (·.1) = false := by rfl) : JI X Z tg (.Call (.Name "range" p) [a, b, c] [] pos) (iRgS am) := by
  obtain ⟨t, pa, k⟩ := ha
  refine ⟨_, pi_range3 hg hm pa hs hpl, fun S σ H Γ C Qm Q A l q => k S σ H Γ C _ _ A (fun r C1 v S1 H1 q1 rp1 l1 d1 => ?_) q⟩
  split at q1
  · cases d1 with
    | cons d t => cases t with
      | cons d2 t => cases t with
        | cons d3 t =>
          cases t; cases d; cases d2; cases d3
          obtain ⟨⟨h0, h1, h2, h3, h4, h5⟩, q1⟩ := q1
          exact ⟨_, _, _, _, rfl, rgC_pos h0 h1 h2 h3 h4 h5, l _ C1 S1 H1 _ q1 rp1 l1 (yl_step _ _ _)⟩
  · exact q1.elim
end
end NB

set_option Elab.async false
set_option linter.all false
set_option maxRecDepth 100000
set_option maxHeartbeats 1000000
/-! MMore13: ^ and | of integers from 0 on; // by a number of either sign -/
namespace NB
open PySem PySem.Spec PyProof.Rows L2
def oXor (x y : R) (C : Cs) (Q : Qe) : Prop := match x, y with
  | .int i, .int j => (0 ≤ i ∧ 0 ≤ j) ∧ Q (.int ((i.toNat ^^^ j.toNat : Nat) : Int)) C
  | _, _ => False
def oBor (x y : R) (C : Cs) (Q : Qe) : Prop := match x, y with
  | .int i, .int j => (0 ≤ i ∧ 0 ≤ j) ∧ Q (.int ((i.toNat ||| j.toNat : Nat) : Int)) C
  | _, _ => False
def oDivN (x y : R) (C : Cs) (Q : Qe) : Prop := match x, y with
  | .int i, .int j => (j ≠ 0 ∧ j.natAbs < 1073741824) ∧ Q (.int (i.fdiv j)) C
  | _, _ => False
theorem bitOr_pp {x y : Int} (hx : 0 ≤ x) (hy : 0 ≤ y) : Builtin.bitOr x y = ((x.toNat ||| y.toNat : Nat) : Int) := by
  unfold Builtin.bitOr Builtin.bitAnd
  rw [decide_eq_false (show ¬ 0 ≤ Builtin.bitNot x by unfold Builtin.bitNot; omega), decide_eq_false (show ¬ 0 ≤ Builtin.bitNot y by unfold Builtin.bitNot; omega)]
  have e : ∀ z : Int, Builtin.bitNot (Builtin.bitNot z) = z := fun z => by unfold Builtin.bitNot; omega
  simp only [e]
section
variable {X : Cx} {Z : Zx}
theorem jo_xor : JOp X Z (binaryOp .BitXor) oXor := ⟨_, op_xor, fun S H C x y rx ry Qm Q rp dx dy k q => by
  cases dx <;> cases dy <;> first
    | exact q.elim
    | (obtain ⟨⟨h1, h2⟩, q⟩ := q
       refine ⟨_, _, rfl, rfl, ?_⟩
       show Q (V.int (Builtin.bitXor _ _)) H
       rw [_root_.Bits.bitXor_pp h1 h2]
       exact k _ _ _ _ _ q rp (Le.refl _ _) (.int _))⟩
theorem jo_bor : JOp X Z (binaryOp .BitOr) oBor := ⟨_, op_or, fun S H C x y rx ry Qm Q rp dx dy k q => by
  cases dx <;> cases dy <;> first
    | exact q.elim
    | (obtain ⟨⟨h1, h2⟩, q⟩ := q
       refine ⟨_, _, rfl, rfl, ?_⟩
       show Q (V.int (Builtin.bitOr _ _)) H
       rw [bitOr_pp h1 h2]
       exact k _ _ _ _ _ q rp (Le.refl _ _) (.int _))⟩
theorem jo_divN : JOp X Z (binaryOp .FloorDiv) oDivN := ⟨_, op_fdivN, fun S H C x y rx ry Qm Q rp dx dy k q => by
  cases dx <;> cases dy <;> first
    | exact q.elim
    | (obtain ⟨⟨h1, h2⟩, q⟩ := q
       exact ⟨_, _, rfl, rfl, ⟨h1, h2⟩, k _ _ _ _ _ q rp (Le.refl _ _) (.int _)⟩)⟩
end
end NB
set_option maxRecDepth 100000
set_option maxHeartbeats 2000000
set_option exponentiation.threshold 500000
namespace NB
open PySem
@[irreducible] def Ln (n : Nat) (i : Int) : Prop := i.natAbs < 2 ^ n
def tyd (C : Cs) (r : R) : Bool := (tyOf C r).isSome
def ty2 (C : Cs) (r : R) : Bool := tyd C r && match r with
  | .tup xs => xs.all (tyd C)
  | _ => true
def ty3 (C : Cs) (r : R) : Bool := tyd C r && match r with
  | .tup xs => xs.all (ty2 C)
  | _ => true
def isInt : R → Bool
  | .int _ => true
  | _ => false
def btw (lo hi : Int) : R → Bool
  | .int i => decide (lo ≤ i) && decide (i ≤ hi)
  | _ => false
def tupB (n : Int) : R → Bool
  | .tup xs => (xs.length : Int) == n
  | _ => false
def rowB (n lo hi : Int) : R → Bool
  | .tup xs => ((xs.length : Int) == n) && xs.all (btw lo hi)
  | _ => false
abbrev fm (a b c : Int) : R := .tup [.int a, .int b, .int c]
def Le1 (m i : Int) : Prop := -m ≤ i ∧ i ≤ m
def W_is_integer : Wt := fun rs C Q _ => match rs with
  | [r] => tyd C r = true ∧ Q (.bl (isInt r)) C
  | _ => False
def W_is_between : Wt := fun rs C Q _ => match rs with
  | [r, .int lo, .int hi] => tyd C r = true ∧ Q (.bl (btw lo hi r)) C
  | _ => False
def W_is_tuple_of : Wt := fun rs C Q _ => match rs with
  | [r, .int n] => tyd C r = true ∧ Q (.bl (tupB n r)) C
  | _ => False
def W_is_row : Wt := fun rs C Q _ => match rs with
  | [r, .int n, .int lo, .int hi] => n ≤ 1000 ∧ ty2 C r = true ∧ Q (.bl (rowB n lo hi r)) C
  | _ => False
def W_l_cell : Wt := fun rs C Q _ => match rs with
  | [.scr xs, .int k] => (0 ≤ k ∧ k < 100 ∧ ∃ ns : List Int, xs = ns.map .int) ∧ ∀ i : Int, Q (.int i) C
  | _ => False
def W_l_box : Wt := fun rs C Q _ => match rs with
  | [.int _] => Q (.cell C.length) (C ++ [.box 0])
  | _ => False
def W_l_take : Wt := fun rs C Q _ => match rs with
  | [.cell k, .int many] => ∃ n, C[k]? = some (.box n) ∧ (0 < many ∧ many < 1000000000000000000000000000000 ∧ n < 1000000) ∧ ∀ d : Int, 0 ≤ d → d < many → Q (.int d) (C.set k (.box (n + 1)))
  | _ => False
def nice : Nat → Cs → R → Bool
  | _, _, .non => true
  | _, _, .bl _ => true
  | _, _, .int _ => true
  | _, _, .str z => decide (z.length ≤ 1000) && z.cps.all fun c => decide (c < 0x110000)
  | n + 1, C, .tup xs => decide (xs.length ≤ 1000) && xs.all (nice n C)
  | n + 1, C, .lst xs => decide (xs.length ≤ 1000) && xs.all (nice n C)
  | _, C, .cell k => match C[k]? with
    | some (.dct []) => true
    | _ => false
  | _, _, _ => false
def Bx (k j : Nat) (C : Cs) (P : Nat → Prop) : Prop := ∃ n, C[k]? = some (.box n) ∧ n + j < 1000000 ∧ ∀ n', n' ≤ n + j → P n'
/-- told, due: alike, lists by what they hold -/
inductive Alike (C : Cs) : Nat → R → R → Prop
  | non {n} : Alike C n .non .non
  | bl {n b} : Alike C n (.bl b) (.bl b)
  | int {n i} : Alike C n (.int i) (.int i)
  | str {n z} : z.length ≤ 1000 → (z.cps.all fun c => decide (c < 0x110000)) = true → Alike C n (.str z) (.str z)
  | dct {n k} : C[k]? = some (.dct []) → Alike C n (.cell k) (.cell k)
  | tup {n xs ys} : xs.length ≤ 30000 → xs.length = ys.length → (∀ (i : Nat) x y, xs[i]? = some x → ys[i]? = some y → Alike C n x y) → Alike C (n + 1) (.tup xs) (.tup ys)
  | lst {n x y xs ys} : lstOf C x = some xs → lstOf C y = some ys → tyOf C x = some "list" → tyOf C y = some "list" → xs.length ≤ 30000 → xs.length = ys.length →
      (∀ (i : Nat) x y, xs[i]? = some x → ys[i]? = some y → Alike C n x y) → Alike C (n + 1) x y
def WAlike (d : Nat) : Wt := fun rs C Q _ => match rs with
  | [x, y] => Alike C d x y ∧ Q (.bl true) C
  | _ => False
def W_l_same : Wt := WAlike 13
def m_is_integer (ex : Gm → MX) : MS :=
  (mRet (mAndE (mFn (fIsi "int") (mCons (mVar 0) mNil)) (mNotE (mFn (fIsi "bool") (mCons (mVar 0) mNil)))))
def m_is_between (ex : Gm → MX) : MS :=
  (mRet (mAndE (mCall W_is_integer ex (mCons (mVar 0) mNil)) (mChain oLe oLe (mVar 1) (mVar 0) (mVar 2))))
def m_is_tuple_of (ex : Gm → MX) : MS :=
  (mRet (mAndE (mFn (fIsi "tuple") (mCons (mVar 0) mNil)) (mOp oEq (mFn fLen (mCons (mVar 0) mNil)) (mVar 1))))
def m_is_row (ex : Gm → MX) : MS :=
  (mRet (mAndE (mCall W_is_tuple_of ex (mCons (mVar 0) (mCons (mVar 1) mNil))) (mFn fAll (mCons (mComp false (iSeqT (mVar 0)) (gNm 4) mYes (mCall W_is_between (fun _ => noX) (mCons (mVar 4) (mCons (mVar 2) (mCons (mVar 3) mNil)))) [4]) mNil))))
def m_l_cell (ex : Gm → MX) : MS :=
  (mRet (mIfE (mVal (mOp oLt (mVar 1) (mFn fLen (mCons (mVar 0) mNil)))) (mOp oIx (mVar 0) (mVar 1)) (mOp (oPlus false) (mOp (oTimes false) (mC (.int 6007)) (mVar 1)) (mOp oMod (mFn fInt (mCons (mFn fSum (mCons (mSl false (mVar 0) mO0 (mO1 (mC (.int 1)))) mNil)) mNil)) (mC (.int 1000033))))))
def m_l_box (ex : Gm → MX) : MS :=
  (mBox 0 (mRet (mLst true (mCons (mFn fAbs (mCons (mVar 0) mNil)) (mCons (mOp oGe (mFn fAbs (mCons (mVar 0) mNil)) (mOp oPow (mC (.int 10)) (mC (.int 18)))) (mCons (mOp oMod (mFn fInt (mCons (mFn fAbs (mCons (mVar 0) mNil)) mNil)) (mC (.int 2147483629))) (mCons (mC (.int 0)) mNil)))))))
def m_l_take (ex : Gm → MX) : MS :=
  (mUnb 0 (mSeq (mIfS (mAndT (mTru (mOp oIx (mVar 0) (mC (.int 1)))) (mVal (mOp oGt (mOp oIx (mVar 0) (mC (.int 0))) (mC (.int 0))))) (mSeq (mAsg (mOp oMod (mFn fInt (mCons (mOp oIx (mVar 0) (mC (.int 0))) mNil)) (mVar 1)) (gNm 3))
  (mSeq (mAsg (mOp oDiv (mOp oIx (mVar 0) (mC (.int 0))) (mVar 1)) (gIx (mVar 0) (mC (.int 0))))
  (mRet (mVar 3)))) mNext)
  (mSeq (mAsg (mOp (oPlus false) (mOp oIx (mVar 0) (mC (.int 3))) (mC (.int 1))) (gIx (mVar 0) (mC (.int 3))))
  (mSeq (mAsg (mOp oMod (mFn fInt (mCons (mOp oPow (mOp (oPlus false) (mOp (oPlus false) (mOp oIx (mVar 0) (mC (.int 2))) (mOp (oTimes false) (mC (.int 15485863)) (mOp oIx (mVar 0) (mC (.int 3))))) (mC (.int 179424673))) (mC (.int 5))) mNil)) (mC (.int 2147483647))) (gNm 2))
  (mRet (mOp oMod (mFn fInt (mCons (mOp oDiv (mOp oMod (mFn fInt (mCons (mOp oPow (mOp (oPlus false) (mOp (oTimes false) (mVar 2) (mC (.int 48271))) (mOp (oTimes false) (mC (.int 104729)) (mOp oIx (mVar 0) (mC (.int 3))))) (mC (.int 3))) mNil)) (mC (.int 2147483587))) (mC (.int 64))) mNil)) (mVar 1)))))))
def m_l_same (WR : Wt) (ex : Gm → MX) : MS :=
  (mSeq (mIfS (mOrT (mVal (mOp oIsN (mVar 1) (mC .non))) (mTru (mFn (fIsi "bool") (mCons (mVar 1) mNil)))) (mRet (mIfE (mVal (mOp oIsN (mVar 1) (mC .non))) (mOp oIsN (mVar 0) (mC .non)) (mAndE (mFn (fIsi "bool") (mCons (mVar 0) mNil)) (mOp oEq (mOp oIsB (mVar 0) (mC (.bl true))) (mOp oIsB (mVar 1) (mC (.bl true))))))) mNext)
  (mSeq (mIfS (mTru (mFn (fIsi "int") (mCons (mVar 1) mNil))) (mRet (mAndE (mFn (fIsi "int") (mCons (mVar 0) mNil)) (mAndE (mNotE (mFn (fIsi "bool") (mCons (mVar 0) mNil))) (mOp oEq (mOp oSub (mFn fInt (mCons (mVar 0) mNil)) (mVar 1)) (mC (.int 0)))))) mNext)
  (mSeq (mIfS (mTru (mFn (fIsi "str") (mCons (mVar 1) mNil))) (mRet (mAndE (mFn (fIsi "str") (mCons (mVar 0) mNil)) (mAndE (mOp oEq (mFn fLen (mCons (mVar 0) mNil)) (mFn fLen (mCons (mVar 1) mNil))) (mOp oEq (mComp false (iRg1 (mCons (mFn fLen (mCons (mVar 1) mNil)) mNil)) (gNm 2) (mVal (mOp oNe (mSl false (mVar 0) (mO1 (mVar 2)) (mO1 (mOp (oPlus false) (mVar 2) (mC (.int 1))))) (mOp oIx (mVar 1) (mVar 2)))) (mVar 2) [2]) (mLst false mNil))))) mNext)
  (mSeq (mIfS (mOrT (mVal (mOp oNe (mFn (fIsi "list") (mCons (mVar 0) mNil)) (mFn (fIsi "list") (mCons (mVar 1) mNil)))) (mVal (mOp oNe (mFn (fIsi "tuple") (mCons (mVar 0) mNil)) (mFn (fIsi "tuple") (mCons (mVar 1) mNil))))) (mRet (mC (.bl false))) mNext)
  (mRet (mAndE (mOp oEq (mFn fLen (mCons (mVar 0) mNil)) (mFn fLen (mCons (mVar 1) mNil))) (mOp oEq (mComp false (iRg1 (mCons (mFn fLen (mCons (mVar 1) mNil)) mNil)) (gNm 2) (mNotT (mTru (mCall WR (fun _ => noX) (mCons (mOp oIx (mVar 0) (mVar 2)) (mCons (mOp oIx (mVar 1) (mVar 2)) mNil))))) (mVar 2) [2]) (mLst false mNil))))))))
/-! ### for the walks of the trees -/
theorem Ln_mul {m n : Nat} {a b : Int} (h : Ln m a) (k : Ln n b) : Ln (m + n) (a * b) := by
  unfold Ln at *; rw [Int.natAbs_mul, Nat.pow_add]; exact Nat.mul_lt_mul'' h k
theorem Ln_add {m n : Nat} {a b : Int} (h : Ln m a) (k : Ln n b) : Ln (m + n + 1) (a + b) := by
  unfold Ln at *
  have h1 : 2 ^ m ≤ 2 ^ (m + n) := Nat.pow_le_pow_right (by decide) (by omega)
  have h2 : 2 ^ n ≤ 2 ^ (m + n) := Nat.pow_le_pow_right (by decide) (by omega)
  have := Int.natAbs_add_le a b
  rw [Nat.pow_succ]; omega
theorem Ln_neg {n : Nat} {a : Int} (h : Ln n a) : Ln n (-a) := by unfold Ln at *; rw [Int.natAbs_neg]; exact h
theorem Ln_sub {m n : Nat} {a b : Int} (h : Ln m a) (k : Ln n b) : Ln (m + n + 1) (a - b) := by
  have := Ln_add h (Ln_neg k); rwa [← Int.sub_eq_add_neg] at this
theorem Ln_mk {n : Nat} {a : Int} (h : a.natAbs < 2 ^ n) : Ln n a := by unfold Ln; exact h
theorem Ln_un {n : Nat} {a : Int} (h : Ln n a) : a.natAbs < 2 ^ n := by unfold Ln at h; exact h
theorem Ln_mono {m n : Nat} {a : Int} (h : Ln m a) (l : m ≤ n) : Ln n a := Ln_mk (Nat.lt_of_lt_of_le (Ln_un h) (Nat.pow_le_pow_right (by decide) l))
theorem Sz_of {n : Nat} {a : Int} (h : Ln n a) (l : n ≤ 400000) : Sz a := Sz_mk (Nat.lt_of_lt_of_le (Ln_un h) (Nat.pow_le_pow_right (by decide) l))
theorem Ln_le {m a : Int} {n : Nat} (h : Le1 m a) (l : m.natAbs < 2 ^ n) : Ln n a := by unfold Ln; unfold Le1 at h; omega
theorem Ln_lit {a : Int} (h : a.natAbs < 2 ^ 40) : Ln 40 a := Ln_mk h
local macro_rules | `(tactic| walk_at "nb ln") => `(tactic| (repeat (first | assumption | with_reducible apply Ln_mul | with_reducible apply Ln_add | with_reducible apply Ln_sub | with_reducible apply Ln_neg | (exact Ln_lit (by decide)))))
local macro_rules | `(tactic| walk_at "nb sz") => `(tactic| (apply Sz_of; (focus walk_at "nb ln"); decide))
local macro_rules | `(tactic| walk_at "nb lm") => `(tactic| (apply Ln_mono; (focus walk_at "nb ln"); decide))
theorem compL_no {g : MG} {t : MT} {e : ME} {Q : List R → Cs → Prop} {Γ : Gm} {C : Cs} : ∀ {xs acc : List R}, (∀ x, x ∈ xs → ∀ P : Gm → Bool → Cs → Prop, (∀ Γ1, P Γ1 false C) → g x Γ C fun Γ1 C1 => t Γ1 C1 (P Γ1)) → acc.length < 16777216 → Q acc C → compL g t e Q Γ xs acc C
  | [], _, _, _, q => q
  | x :: xs, acc, h, l, q => ⟨l, h x (List.mem_cons_self ..) (fun Γ1 k C2 => ifP k (e Γ1 C2 fun y C3 => compL g t e Q Γ xs (acc ++ [y]) C3) (compL g t e Q Γ xs acc C2)) (fun _ => by
      simp only [ifP, Bool.false_eq_true, if_false]
      exact compL_no (fun y hy => h y (List.mem_cons_of_mem _ hy)) l q)⟩
theorem compL_map {f : R → R} {g : MG} {e : ME} {Q : List R → Cs → Prop} {Γ : Gm} {C : Cs} : ∀ {xs acc : List R}, (∀ x, x ∈ xs → ∀ P : R → Cs → Prop, P (f x) C → g x Γ C fun Γ1 C1 => e Γ1 C1 P) → acc.length + xs.length ≤ 16777216 → Q (acc ++ xs.map f) C → compL g mYes e Q Γ xs acc C
  | [], _, _, _, q => by
    simp only [List.map_nil, List.append_nil] at q
    exact q
  | x :: xs, acc, h, l, q => by
    simp only [List.length_cons] at l
    refine ⟨by omega, ?_⟩
    simp only [mYes, ifP, if_true]
    refine h x (List.mem_cons_self ..) _ (compL_map (fun y hy => h y (List.mem_cons_of_mem _ hy)) (by simp; omega) ?_)
    simpa using q
theorem bls_map {α : Type} (f : α → Bool) : ∀ l : List α, blsOf (l.map fun x => .bl (f x)) = some (l.map f)
  | [] => rfl
  | x :: t => by simp only [List.map_cons, blsOf, bls_map f t, Option.map_some]
theorem ints_map : ∀ l : List Int, intsOf (l.map .int) = some l
  | [] => rfl
  | x :: t => by simp only [List.map_cons, intsOf, ints_map t, Option.map_some]
theorem upto_mem {x : R} : ∀ {n : Nat} {lo : Int}, x ∈ upto lo n → ∃ i, x = .int i ∧ lo ≤ i ∧ i < lo + n
  | 0, _, h => by cases h
  | n + 1, lo, h => by
    cases h with
    | head => exact ⟨lo, rfl, by omega, by omega⟩
    | tail _ h => obtain ⟨i, e, a, b⟩ := upto_mem h; exact ⟨i, e, by omega, by omega⟩
theorem at_of {α : Type} {xs : List α} {i : Int} (a : 0 ≤ i) (b : i < xs.length) : ∃ r, atM xs i = some r ∧ r ∈ xs := by
  have h : i.toNat < xs.length := by omega
  refine ⟨xs[i.toNat], ?_, List.getElem_mem h⟩
  unfold atM ixM
  simp only [a, b, ifP, if_true, Option.bind_some, List.getElem?_eq_getElem h]
theorem btw_of {lo hi : Int} {x : R} (h : btw lo hi x = true) : ∃ a, x = .int a ∧ lo ≤ a ∧ a ≤ hi := by
  cases x with
  | int a => simp only [btw, Bool.and_eq_true, decide_eq_true_eq] at h; exact ⟨a, rfl, h⟩
  | _ => cases h
theorem rowB3 {lo hi : Int} {r : R} (h : rowB 3 lo hi r = true) : ∃ a b c, r = fm a b c ∧ (lo ≤ a ∧ a ≤ hi) ∧ (lo ≤ b ∧ b ≤ hi) ∧ lo ≤ c ∧ c ≤ hi := by
  unfold rowB at h
  split at h
  · rename_i xs
    simp only [Bool.and_eq_true, beq_iff_eq] at h
    match xs, h.1 with
    | [x, y, z], _ =>
      simp only [List.all_cons, List.all_nil, Bool.and_eq_true] at h
      obtain ⟨-, hx, hy, hz, -⟩ := h
      obtain ⟨a, rfl, ha⟩ := btw_of hx
      obtain ⟨b, rfl, hb⟩ := btw_of hy
      obtain ⟨c, rfl, hc⟩ := btw_of hz
      exact ⟨a, b, c, rfl, ha, hb, hc⟩
  · cases h
theorem rowB2 {lo hi : Int} {r : R} (h : rowB 2 lo hi r = true) : ∃ a b, r = .tup [.int a, .int b] ∧ (lo ≤ a ∧ a ≤ hi) ∧ (lo ≤ b ∧ b ≤ hi) := by
  unfold rowB at h
  split at h
  · rename_i xs
    simp only [Bool.and_eq_true, beq_iff_eq] at h
    match xs, h.1 with
    | [x, y], _ =>
      simp only [List.all_cons, List.all_nil, Bool.and_eq_true] at h
      obtain ⟨-, hx, hy, -⟩ := h
      obtain ⟨a, rfl, ha⟩ := btw_of hx
      obtain ⟨b, rfl, hb⟩ := btw_of hy
      exact ⟨a, b, rfl, ha, hb⟩
  · cases h
theorem atM_0 {α : Type} (x : α) (t : List α) : atM (x :: t) 0 = some x := by
  unfold atM ixM
  simp only [List.length_cons, Int.le_refl, ifP, if_true]
  rw [if_pos (by omega)]
  rfl
theorem atM_1 {α : Type} (x y : α) (t : List α) : atM (x :: y :: t) 1 = some y := by
  unfold atM ixM
  simp only [List.length_cons]
  rw [if_pos (by decide), if_pos (by omega)]
  rfl
theorem atM_2 {α : Type} (x y z : α) (t : List α) : atM (x :: y :: z :: t) 2 = some z := by
  unfold atM ixM
  simp only [List.length_cons]
  rw [if_pos (by decide), if_pos (by omega)]
  rfl
theorem atM_3 {α : Type} (x y z u : α) (t : List α) : atM (x :: y :: z :: u :: t) 3 = some u := by
  unfold atM ixM
  simp only [List.length_cons]
  rw [if_pos (by decide), if_pos (by omega)]
  rfl
theorem set_set {C : Cs} {k : Nat} {a b : Ct} : (C.set k a).set k b = C.set k b := by simp only [List.set_set]
theorem get_set {C : Cs} {k : Nat} {a b : Ct} (h : C[k]? = some a) : (C.set k b)[k]? = some b := by
  rw [List.getElem?_set_self (List.getElem?_eq_some_iff.mp h).1]
local macro_rules | `(tactic| walk_at "nb ev") => `(tactic| conv => whnf)
local macro_rules | `(tactic| walk_at "nb nle") => `(tactic| exact Nat.le_of_ble_eq_true rfl)
local macro_rules | `(tactic| walk_at "nb evs") => `(tactic| (walk_at "nb ev"; repeat (first | (refine And.intro (And.intro (by walk_at "nb sz") (by walk_at "nb sz")) ?_; walk_at "nb ev") | (refine And.intro (by walk_at "nb nle") ?_; walk_at "nb ev") | (refine And.intro rfl ?_; walk_at "nb ev"))))
theorem ifP_dec {p : Prop} [Decidable p] {A B : Prop} (h1 : p → A) (h2 : ¬p → B) : ifP (decide p) A B := by
  by_cases h : p
  · rw [ifP_t (decide_eq_true h)]; exact h1 h
  · rw [ifP_f (decide_eq_false h)]; exact h2 h
theorem ifP_nd {p : Prop} [Decidable p] {A B : Prop} (h1 : ¬p → A) (h2 : p → B) : ifP (!decide p) A B := by
  by_cases h : p
  · rw [ifP_f (by rw [decide_eq_true h]; rfl)]; exact h2 h
  · rw [ifP_t (by rw [decide_eq_false h]; rfl)]; exact h1 h
theorem ifP_b {b : Bool} {A B : Prop} (h1 : b = true → A) (h2 : b = false → B) : ifP b A B := by
  cases b
  · exact h2 rfl
  · exact h1 rfl
theorem ifP_n {b : Bool} {A B : Prop} (h1 : b = false → A) (h2 : b = true → B) : ifP (!b) A B := by
  cases b
  · exact h1 rfl
  · exact h2 rfl
theorem ifP_and {b c : Bool} {A B : Prop} (h : ifP b (ifP c A B) B) : ifP (b && c) A B := by cases b <;> exact h
theorem ifP_or {b c : Bool} {A B : Prop} (h : ifP b A (ifP c A B)) : ifP (b || c) A B := by cases b <;> exact h
theorem Ln_om {a : Int} (h : a.natAbs < 2 ^ 100) : Ln 100 a := Ln_mk h
theorem Sz_om {a : Int} (h : a.natAbs < 2 ^ 100) : Sz a := Sz_mk (Nat.lt_of_lt_of_le h (Nat.pow_le_pow_right (by decide) (by decide)))
theorem Sd_om {a : Int} (h : a.natAbs < 2 ^ 100) : Sd a := Sd_mk (Nat.lt_of_lt_of_le h (Nat.pow_le_pow_right (by decide) (by decide)))
theorem Sd_of {n : Nat} {a : Int} (h : Ln n a) (l : n ≤ 9000) : Sd a := Sd_mk (Nat.lt_of_lt_of_le (Ln_un h) (Nat.pow_le_pow_right (by decide) l))
local macro_rules | `(tactic| walk_at "nb ln2") => `(tactic| (repeat (first | assumption | with_reducible apply Ln_mul | with_reducible apply Ln_add | with_reducible apply Ln_sub | with_reducible apply Ln_neg | (exact Ln_lit (by decide)) | (apply Ln_om; omega))))
local macro_rules | `(tactic| walk_at "nb lm2") => `(tactic| (apply Ln_mono; (focus walk_at "nb ln2"); decide))
local macro_rules | `(tactic| walk_at "nb sz2") => `(tactic| (first | (apply Sz_om; omega) | (apply Sz_of; (focus walk_at "nb ln2"); decide) | (apply Sd_om; omega) | (apply Sd_of; (focus walk_at "nb ln2"); decide) | fail))
theorem len_ok {α : Type} {l : List α} (h : Nat.ble l.length 16777216 = true) : l.length ≤ 16777216 := Nat.le_of_ble_eq_true h
theorem len_lt {α : Type} {l : List α} (h : Nat.ble (l.length + 1) 16777216 = true) : l.length < 16777216 := Nat.le_of_ble_eq_true h
theorem len_is {α : Type} {l : List α} {n : Nat} (h : Nat.beq l.length n = true) : l.length = n := Nat.eq_of_beq_eq_true h
theorem ifP_ct {b : Bool} {A B : Prop} (h : b = true) (a : A) : ifP b A B := by subst h; exact a
theorem ifP_cf {b : Bool} {A B : Prop} (h : b = false) (a : B) : ifP b A B := by subst h; exact a
theorem lk_here {k : String} {v : R} {l : List (String × R)} : List.lookup k ((k, v) :: l) = some v := by simp [List.lookup]
theorem lk_next {k k' : String} {v : R} {x : Option R} {l : List (String × R)} (h : (k == k') = false) (e : List.lookup k l = x) : List.lookup k ((k', v) :: l) = x := by simp [List.lookup, h, e]
local macro_rules | `(tactic| walk_at "nb sd") => `(tactic| (first | omega | assumption | ((with_reducible refine len_ok ?_); exact rfl) | ((with_reducible refine len_is ?_); exact rfl) | ((with_reducible refine len_lt ?_); exact rfl) | (with_reducible exact True.intro) | (with_reducible exact List.cons_ne_nil _ _) | (simp only [List.length_map, List.length_append, List.length_cons, List.length_nil]; omega) | walk_at "nb sz2" | walk_at "nb lm2" | (with_reducible refine And.intro ?_ ?_ <;> walk_at "nb sd") | fail))
local macro_rules | `(tactic| walk_at "nb gs") => `(tactic| (first | (refine And.intro (by walk_at "nb sd") ?_) | (refine And.intro (And.intro rfl (And.intro rfl rfl)) ?_) | (refine And.intro (by decide) ?_) | (refine ifP_ct (by decide) ?_) | (refine ifP_cf (by decide) ?_) | (refine ifP_ct (by assumption) ?_) | (refine ifP_cf (by assumption) ?_) | (refine optP_some (by assumption) ?_) | (refine Exists.intro 1 (And.intro rfl ?_)) | (refine optP_some (by first | exact lk_here | exact lk_next (by decide) lk_here | exact lk_next (by decide) (lk_next (by decide) lk_here)) ?_) | (refine ifP_nd (fun h => ?_) (fun h => ?_) <;> try (exfalso; omega)) | (refine ifP_dec (fun h => ?_) (fun h => ?_) <;> try (exfalso; omega)) | (refine And.intro (fun _ => ?_) ?_ <;> try (exfalso; omega)) | (intro _)))
local macro_rules | `(tactic| walk_at "nb go") => `(tactic| (walk_at "nb ev"; try (walk_at "nb gs" <;> walk_at "nb go")))
theorem app_at {C : Cs} {c : Ct} : (C ++ [c])[C.length]? = some c := by rw [List.getElem?_append_right (Nat.le_refl _), Nat.sub_self]; rfl
theorem app_set {C : Cs} {c d : Ct} : (C ++ [c]).set C.length d = C ++ [d] := by rw [List.set_append_right _ _ (Nat.le_refl _), Nat.sub_self]; rfl
theorem app_take {C : Cs} {c : Ct} : (C ++ [c]).take C.length = C := by rw [List.take_append_of_le_length (Nat.le_refl _), List.take_length]
theorem sap_at {C : Cs} {c b : Ct} {k : Nat} : (C.set k b ++ [c])[C.length]? = some c := by rw [List.getElem?_append_right (by simp), List.length_set, Nat.sub_self]; rfl
theorem sap_set {C : Cs} {c d b : Ct} {k : Nat} : (C.set k b ++ [c]).set C.length d = C.set k b ++ [d] := by rw [List.set_append_right _ _ (by simp), List.length_set, Nat.sub_self]; rfl
theorem sap_take {C : Cs} {c b : Ct} {k : Nat} : (C.set k b ++ [c]).take C.length = C.set k b := by rw [List.take_append_of_le_length (by simp)]; exact List.take_of_length_le (by simp)
theorem sap_get {C : Cs} {c b b0 : Ct} {k : Nat} (h : C[k]? = some b0) : (C.set k b ++ [c])[k]? = some b := by
  have hlt := (List.getElem?_eq_some_iff.mp h).1
  rw [List.getElem?_append_left (by simpa using hlt), List.getElem?_set_self hlt]
theorem sap_put {C : Cs} {c b d b0 : Ct} {k : Nat} (h : C[k]? = some b0) : (C.set k b ++ [c]).set k d = C.set k d ++ [c] := by
  have hlt := (List.getElem?_eq_some_iff.mp h).1
  rw [List.set_append_left _ _ (by simpa using hlt), List.set_set]
theorem tk_do {P A B : Nat → Prop} {n : Nat} (h : P n) (a : A n) (b : B n) : ∃ n, P n ∧ A n ∧ B n := ⟨n, h, a, b⟩
local macro_rules | `(tactic| walk_at "nb tk") => `(tactic| ((with_reducible apply tk_do); (focus (first | assumption | exact get_set (by assumption) | exact sap_get (by assumption))); (focus (first | omega | (refine And.intro ?_ (And.intro ?_ ?_) <;> omega) | fail)); intros; (try rw [set_set]); (try rw [sap_put (by assumption)])))
local macro_rules | `(tactic| walk_at "nb gt") => `(tactic| (walk_at "nb ev"; try ((first | walk_at "nb gs" | walk_at "nb tk") <;> walk_at "nb gt")))
theorem at_all {xs : List R} {i : Int} {K : R → Prop} (h0 : 0 ≤ i) (h1 : i < xs.length) (h : ∀ x, x ∈ xs → K x) : optP (atM xs i) K := by
  obtain ⟨r, e, m⟩ := at_of h0 h1
  exact optP_some e (h r m)
theorem at_rng {xs : List R} {i : Int} {K : R → Prop} (lo hi : Int) (h0 : 0 ≤ i) (h1 : i < xs.length) (hb : xs.all (btw lo hi) = true) (k : ∀ v, lo ≤ v → v ≤ hi → K (.int v)) : optP (atM xs i) K := by
  refine at_all h0 h1 fun x hx => ?_
  obtain ⟨v, rfl, a, b⟩ := btw_of (List.all_eq_true.mp hb x hx)
  exact k v a b
theorem at_lit {xs : List R} {i : Int} {K : R → Prop} (j : Nat) {r : R} (h0 : i = j) (h1 : xs[j]? = some r) (k : K r) : optP (atM xs i) K := by
  subst h0
  refine optP_some (x := r) ?_ k
  unfold atM ixM
  have := (List.getElem?_eq_some_iff.mp h1).1
  rw [if_pos (by omega), if_pos (by omega)]
  simpa using h1
theorem isCl_of {C : Cs} {k : Nat} {xs : List R} (h : C[k]? = some (.lst xs)) : isCl C (.cell k) := by simp only [isCl, h]
theorem okC_set {n m : Nat} : ∀ {C : Cs} {k : Nat}, okC n C → okC n (C.set k (.box m))
  | [], _, h => h
  | c :: C, 0, h => by cases c <;> simp only [okC, List.set_cons_zero] at h ⊢ <;> first | exact h.2 | exact h
  | c :: C, k + 1, h => by
    cases c <;> simp only [okC, List.set_cons_succ] at h ⊢ <;> first | exact ⟨h.1, okC_set h.2⟩ | exact okC_set h
theorem okL_int {n : Nat} : ∀ {l : List Int}, okL n (l.map .int)
  | [] => trivial
  | x :: l => ⟨trivial, okL_int (l := l)⟩
theorem lstOf_at {C : Cs} {k : Nat} {xs : List R} (h : C[k]? = some (.lst xs)) : lstOf C (.cell k) = some xs := by simp only [lstOf, h]
theorem end_set {n0 : Nat} {Q : Qe} {r : R} {C : Cs} (h : Q r C) : endD n0 Q r C := end_l h
def allP : List R → (R → Prop) → Prop
  | [], _ => True
  | x :: xs, K => K x ∧ allP xs K
theorem allP_nil {K : R → Prop} : allP [] K := True.intro
theorem allP_cons {x : R} {xs : List R} {K : R → Prop} (a : K x) (b : allP xs K) : allP (x :: xs) K := ⟨a, b⟩
theorem allP_mem : ∀ {xs : List R} {K : R → Prop}, allP xs K → ∀ x, x ∈ xs → K x
  | y :: ys, K, h, x, hx => by
    rcases List.mem_cons.mp hx with rfl | hx
    · exact h.1
    · exact allP_mem h.2 x hx
theorem at_ev {xs : List R} {i : Int} {K : R → Prop} (h0 : 0 ≤ i) (h1 : i < xs.length) (h : allP xs K) : optP (atM xs i) K := at_all h0 h1 (allP_mem h)
local macro_rules | `(tactic| walk_at "nb len") => `(tactic| first | omega | (simp only [List.length_cons, List.length_nil, List.length_map, List.length_append]; omega))
local macro_rules | `(tactic| walk_at "nb ats") => `(tactic| (refine at_ev (by omega) (by walk_at "nb len") ?_; repeat' (first | exact allP_nil | with_reducible apply allP_cons)))
theorem bx_un {k j : Nat} {C : Cs} {P : Nat → Prop} (h : ∃ n, C[k]? = some (.box n) ∧ n + j < 1000000 ∧ ∀ n', n' ≤ n + j → P n') : Bx k j C P := h
theorem Bx_do {k j n : Nat} {C : Cs} {P : Nat → Prop} (h : C[k]? = some (.box n)) (a : n + j < 1000000) (p : ∀ n', n' ≤ n + j → P n') : Bx k j C P := ⟨n, h, a, p⟩
theorem ar_is_integer : ∀ rs C Q E, W_is_integer rs C Q E → rs.length = 1 := by
  intro rs C Q E h; unfold W_is_integer at h; split at h <;> first | rfl | exact h.elim
theorem tyd_cases {C : Cs} {r : R} {P : R → Prop} (h : tyd C r = true) (h1 : P .non) (h2 : ∀ b, P (.bl b)) (h3 : ∀ i, P (.int i)) (h4 : ∀ z, P (.str z)) (h5 : ∀ xs, P (.tup xs)) (h6 : ∀ xs, P (.lst xs))
    (h7 : ∀ k xs, C[k]? = some (.lst xs) → P (.cell k)) (h8 : ∀ k xs, C[k]? = some (.dct xs) → P (.cell k)) : P r := by
  unfold tyd tyOf at h
  cases r with
  | non => exact h1
  | bl b => exact h2 b
  | int i => exact h3 i
  | str z => exact h4 z
  | tup xs => exact h5 xs
  | lst xs => exact h6 xs
  | cell k =>
    simp only [] at h
    split at h
    · rename_i e; exact h7 k _ e
    · rename_i e; exact h8 k _ e
    · cases h
  | scr xs => cases h
  | exn _ _ _ _ => cases h
/-- isinstance of a value of any type: the answer where it is no cell, and where it is one -/
theorem isi_any {C : Cs} {c : String} {r : R} {Q : Qe} (h : tyd C r = true) (q : ∀ t b, tyOf C r = some t → isiM t c = some b → Q (.bl b) C) : fIsi c [r] C Q := by
  unfold tyd at h
  obtain ⟨t, e⟩ := Option.isSome_iff_exists.mp h
  have : ∃ b, isiM t c = some b := by unfold isiM; split; exact ⟨_, rfl⟩; split <;> exact ⟨_, rfl⟩
  obtain ⟨b, e2⟩ := this
  simp only [fIsi, e, e2, optP]
  exact q t b e e2
theorem kp_is_integer : Keeps 1 m_is_integer 1 W_is_integer := by
  intro rs C Q E hl h
  unfold W_is_integer at h
  split at h
  · rename_i r
    obtain ⟨h1, q⟩ := h
    revert q
    refine tyd_cases (P := fun r => Q (.bl (isInt r)) C → m_is_integer _ _ (start 1 [r]) C) h1 ?_ ?_ ?_ ?_ ?_ ?_ ?_ ?_
    · intro q; walk_at "nb ev"; exact end_l q
    · intro b q; walk_at "nb ev"; exact end_l q
    · intro b q; walk_at "nb ev"; exact end_l q
    · intro b q; walk_at "nb ev"; exact end_l q
    · intro b q; walk_at "nb ev"; exact end_l q
    · intro b q; walk_at "nb ev"; exact end_l q
    all_goals
      intro k xs e q
      have z : ∀ Q : Qe, Q (.bl false) C → fIsi "int" [.cell k] C Q := by
        intro Q q
        simp only [fIsi, tyOf, e, optP]
        exact q
      simp (config := { maxSteps := 5000000 }) only [mRet, mSeq, mAsg, mCall, mCons, mNil, mVar, mC, mOp, mUn, mFn, mTup, mVal, mIfE, mIfS, mNotT, mTru, mAndT, mOrT, mAndE, mOrE, mNotE, mLst, newL, gNm, gSq, gCn, gNl, mNext, mPar, mRaise, mBreak, mCont, start, List.map_cons, List.map_nil, List.length_cons, List.length_nil, Nat.reduceAdd, Nat.reduceSub, List.reduceReplicate, List.cons_append, List.nil_append, List.append_nil, Nat.sub_self, List.getElem?_cons_zero, List.getElem?_cons_succ, List.set_cons_zero, List.set_cons_succ, oTimes, oPlus, oSub, oCmp, oNeg, m_is_integer]
      refine z _ ?_
      exact end_l q
  · exact h.elim
theorem kp_is_between : Keeps 3 m_is_between 3 W_is_between := by
  intro rs C Q E hl h
  unfold W_is_between at h
  split at h
  · rename_i r lo hi
    obtain ⟨h1, q⟩ := h
    walk_at "nb ev"
    refine ⟨h1, ?_⟩
    cases r with
    | int i =>
      walk_at "nb ev"
      simp only [btw] at q
      refine ifP_dec (fun c => ?_) (fun c => ?_)
      · rw [decide_eq_true c] at q
        exact end_l q
      · rw [decide_eq_false c] at q
        exact end_l q
    | _ => exact end_l q
  · exact h.elim
theorem tupB_no {C : Cs} {c : Ct} {k : Nat} (e : C[k]? = some c) (n : Bool → Prop) : True := trivial
/-- isinstance(r, tuple) and .. -/
theorem isi_tup {C : Cs} {r : R} {Q : Qe} (h : tyd C r = true) (q1 : ∀ xs, r = .tup xs → Q (.bl true) C) (q2 : (∀ xs, r ≠ .tup xs) → Q (.bl false) C) : fIsi "tuple" [r] C Q := by
  refine tyd_cases (P := fun r => (∀ xs, r = .tup xs → Q (.bl true) C) → ((∀ xs, r ≠ .tup xs) → Q (.bl false) C) → fIsi "tuple" [r] C Q) h ?_ ?_ ?_ ?_ ?_ ?_ ?_ ?_ q1 q2
  · intro _ q; exact q (fun _ h => by cases h)
  · intro _ _ q; exact q (fun _ h => by cases h)
  · intro _ _ q; exact q (fun _ h => by cases h)
  · intro _ _ q; exact q (fun _ h => by cases h)
  · intro xs q _; exact q xs rfl
  · intro _ _ q; exact q (fun _ h => by cases h)
  · intro k xs e _ q
    simp only [fIsi, tyOf, e, optP]
    exact q (fun _ h => by cases h)
  · intro k xs e _ q
    simp only [fIsi, tyOf, e, optP]
    exact q (fun _ h => by cases h)
theorem isi_lst {C : Cs} {r : R} {Q : Qe} (h : tyd C r = true) (q1 : ∀ xs, lstOf C r = some xs → Q (.bl true) C) (q2 : lstOf C r = none → Q (.bl false) C) : fIsi "list" [r] C Q := by
  refine tyd_cases (P := fun r => (∀ xs, lstOf C r = some xs → Q (.bl true) C) → (lstOf C r = none → Q (.bl false) C) → fIsi "list" [r] C Q) h ?_ ?_ ?_ ?_ ?_ ?_ ?_ ?_ q1 q2
  · intro _ q; exact q rfl
  · intro _ _ q; exact q rfl
  · intro _ _ q; exact q rfl
  · intro _ _ q; exact q rfl
  · intro _ _ q; exact q rfl
  · intro xs q _; exact q xs rfl
  · intro k xs e q _
    simp only [fIsi, tyOf, e, optP]
    exact q xs (by simp only [lstOf, e])
  · intro k xs e _ q
    simp only [fIsi, tyOf, e, optP]
    exact q (by simp only [lstOf, e])
theorem tupB_ne {n : Int} {r : R} (h : ∀ xs, r ≠ .tup xs) : tupB n r = false := by cases r <;> first | rfl | exact absurd rfl (h _)
theorem kp_is_tuple_of : Keeps 2 m_is_tuple_of 2 W_is_tuple_of := by
  intro rs C Q E hl h
  unfold W_is_tuple_of at h
  split at h
  · rename_i r n
    obtain ⟨h1, q⟩ := h
    simp (config := { maxSteps := 5000000 }) only [mRet, mSeq, mAsg, mCall, mCons, mNil, mVar, mC, mOp, mUn, mFn, mTup, mVal, mIfE, mIfS, mNotT, mTru, mAndT, mOrT, mAndE, mOrE, mNotE, mLst, newL, gNm, gSq, gCn, gNl, mNext, mPar, mRaise, mBreak, mCont, start, List.map_cons, List.map_nil, List.length_cons, List.length_nil, Nat.reduceAdd, Nat.reduceSub, List.reduceReplicate, List.cons_append, List.nil_append, List.append_nil, Nat.sub_self, List.getElem?_cons_zero, List.getElem?_cons_succ, List.set_cons_zero, List.set_cons_succ, oTimes, oPlus, oSub, oCmp, oNeg, m_is_tuple_of]
    refine isi_tup h1 (fun xs e => ?_) (fun e => ?_)
    · subst e
      exact end_l q
    · rw [tupB_ne e] at q
      exact end_l q
  · exact h.elim
theorem kp_is_row : Keeps 5 m_is_row 4 W_is_row := by
  intro rs C Q E hl h
  unfold W_is_row at h
  split at h
  · rename_i r n lo hi
    obtain ⟨h0, h1, q⟩ := h
    unfold ty2 at h1
    simp only [Bool.and_eq_true] at h1
    walk_at "nb ev"
    refine ⟨h1.1, ?_⟩
    cases r with
    | tup xs =>
      simp only [tupB, rowB] at q ⊢
      by_cases c : (xs.length : Int) = n
      · simp only [c, BEq.rfl, ifP, if_true, Bool.true_and] at q ⊢
        simp only [mFn, mCons, mComp, iSeqT, mVar, List.getElem?_cons_zero, List.getElem?_cons_succ]
        refine compL_map (f := fun x => .bl (btw lo hi x)) (fun x hx P p => ?_) (by simp; omega) ?_
        · walk_at "nb ev"
          exact ⟨List.all_eq_true.mp h1.2 x hx, p⟩
        · simp only [mNil, List.nil_append, newL, fAll, lstOf, Option.bind_some, bls_map]
          refine end_l ?_
          simpa [List.all_map] using q
      · have : ((xs.length : Int) == n) = false := by simpa using c
        simp only [this, Bool.false_and, ifP, Bool.false_eq_true, if_false] at q ⊢
        exact end_l q
    | _ => exact end_l q
  · exact h.elim
/-- a tuple, or something else -/
theorem tyd_t {C : Cs} {r : R} {G : Prop} (h : tyd C r = true) (h1 : ∀ xs, r = .tup xs → G) (h2 : ∀ t, (∀ xs, r ≠ .tup xs) → tyOf C r = some t → isiM t "tuple" = some false → G) : G := by
  refine tyd_cases (P := fun r => (∀ xs, r = .tup xs → G) → (∀ t, (∀ xs, r ≠ .tup xs) → tyOf C r = some t → isiM t "tuple" = some false → G) → G) h ?_ ?_ ?_ ?_ ?_ ?_ ?_ ?_ h1 h2
  · intro _ q; exact q _ (fun _ h => by cases h) rfl (by decide)
  · intro _ _ q; exact q _ (fun _ h => by cases h) rfl (by decide)
  · intro _ _ q; exact q _ (fun _ h => by cases h) rfl (by decide)
  · intro _ _ q; exact q _ (fun _ h => by cases h) rfl (by decide)
  · intro xs q _; exact q xs rfl
  · intro _ _ q; exact q _ (fun _ h => by cases h) rfl (by decide)
  · intro k xs e _ q
    exact q "list" (fun _ h => by cases h) (by simp only [tyOf, e]) (by decide)
  · intro k xs e _ q
    exact q "dict" (fun _ h => by cases h) (by simp only [tyOf, e]) (by decide)
theorem tyd_l {C : Cs} {r : R} {G : Prop} (h : tyd C r = true) (h1 : ∀ xs, lstOf C r = some xs → tyOf C r = some "list" → G) (h2 : ∀ t, lstOf C r = none → tyOf C r = some t → isiM t "list" = some false → G) : G := by
  refine tyd_cases (P := fun r => (∀ xs, lstOf C r = some xs → tyOf C r = some "list" → G) → (∀ t, lstOf C r = none → tyOf C r = some t → isiM t "list" = some false → G) → G) h ?_ ?_ ?_ ?_ ?_ ?_ ?_ ?_ h1 h2
  · intro _ q; exact q _ rfl rfl (by decide)
  · intro _ _ q; exact q _ rfl rfl (by decide)
  · intro _ _ q; exact q _ rfl rfl (by decide)
  · intro _ _ q; exact q _ rfl rfl (by decide)
  · intro _ _ q; exact q _ rfl rfl (by decide)
  · intro xs q _; exact q xs rfl rfl
  · intro k xs e q _
    exact q xs (by simp only [lstOf, e]) (by simp only [tyOf, e])
  · intro k xs e _ q
    exact q "dict" (by simp only [lstOf, e]) (by simp only [tyOf, e]) (by decide)
theorem kp_l_cell : Keeps 2 m_l_cell 2 W_l_cell := by
  intro rs C Q E hl h
  unfold W_l_cell at h
  split at h
  · rename_i xs k
    obtain ⟨⟨h0, h1, ns, rfl⟩, q⟩ := h
    walk_at "nb ev"
    refine ifP_dec (fun c => ?_) (fun c => ?_)
    · refine at_all h0 (by simpa using c) fun x hx => ?_
      obtain ⟨i, -, rfl⟩ := List.mem_map.mp hx
      exact end_l (q i)
    · refine And.intro ⟨by walk_at "nb sz", by walk_at "nb sz2"⟩ ?_
      cases ns with
      | nil => walk_at "nb ev"; exact ⟨by decide, end_l (q _)⟩
      | cons n t => walk_at "nb ev"; exact ⟨by decide, end_l (q _)⟩
  · exact h.elim
theorem kp_l_box : Keeps 1 m_l_box 1 W_l_box := by
  intro rs C Q E hl h
  unfold W_l_box at h
  split at h
  · rename_i g
    simp (config := { maxSteps := 5000000 }) only [mRet, mSeq, mAsg, mCall, mCons, mNil, mVar, mC, mOp, mUn, mFn, mTup, mVal, mIfE, mIfS, mNotT, mTru, mAndT, mOrT, mAndE, mOrE, mNotE, mLst, newL, gNm, gSq, gCn, gNl, mNext, mPar, mRaise, mBreak, mCont, start, List.map_cons, List.map_nil, List.length_cons, List.length_nil, Nat.reduceAdd, Nat.reduceSub, List.reduceReplicate, List.cons_append, List.nil_append, List.append_nil, Nat.sub_self, List.getElem?_cons_zero, List.getElem?_cons_succ, List.set_cons_zero, List.set_cons_succ, oTimes, oPlus, oSub, oCmp, oNeg, m_l_box, mBox, fAbs, fInt, oMod, oPow]
    refine ⟨⟨by decide, by decide, by decide⟩, by decide, by decide, ?_, ?_⟩
    · refine ⟨_, _, _, _, by rw [List.getElem?_append_right (Nat.le_refl _), Nat.sub_self]; rfl, ?_, ?_, ?_, ?_, ?_⟩
      · split <;> omega
      · exact Int.emod_nonneg _ (by decide)
      · exact Int.lt_trans (Int.emod_lt_of_pos _ (by decide)) (by decide)
      · decide
      · decide
    · refine end_l ?_
      rw [List.set_append_right _ _ (Nat.le_refl _), Nat.sub_self]
      exact h
  · exact h.elim
theorem kp_l_take : Keeps 4 m_l_take 2 W_l_take := by
  intro rs C Q E hl h
  unfold W_l_take at h
  split at h
  · rename_i k many
    obtain ⟨n, hk, ⟨h0, h1, h2⟩, q⟩ := h
    have hlt := (List.getElem?_eq_some_iff.mp hk).1
    have fin : ∀ (d a : Int) (b : Bool) (c e : Int), BoxAt a c e (n + 1) → 0 ≤ d → d < many → ∃ n', boxed k n' (C.set k (.lst [.int a, .bl b, .int c, .int e])) ∧ endD C.length Q (.int d) ((C.set k (.lst [.int a, .bl b, .int c, .int e])).set k (.box n')) := fun d a b c e hb x y =>
      ⟨n + 1, ⟨a, b, c, e, get_set hk, hb⟩, end_l (by rw [set_set]; exact q d x y)⟩
    show match C[k]? with | some (.box n) => _ | _ => False
    rw [hk]
    intro a b c d hb
    obtain ⟨b1, b2, b3, b4, b5⟩ := hb
    have g0 := get_set (b := Ct.lst [.int a, .bl b, .int c, .int d]) hk
    have ld : Ln 40 (d + 1) := by unfold Ln; omega
    have g1 := get_set (b := Ct.lst [.int a, .bl b, .int c, .int (d + 1)]) hk
    have rest : (mSeq (mAsg (mOp (oPlus false) (mOp oIx (mVar 0) (mC (.int 3))) (mC (.int 1))) (gIx (mVar 0) (mC (.int 3)))) (mSeq (mAsg (mOp oMod (mFn fInt (mCons (mOp oPow (mOp (oPlus false) (mOp (oPlus false) (mOp oIx (mVar 0) (mC (.int 2))) (mOp (oTimes false) (mC (.int 15485863)) (mOp oIx (mVar 0) (mC (.int 3))))) (mC (.int 179424673))) (mC (.int 5))) mNil)) (mC (.int 2147483647))) (gNm 2)) (mRet (mOp oMod (mFn fInt (mCons (mOp oDiv (mOp oMod (mFn fInt (mCons (mOp oPow (mOp (oPlus false) (mOp (oTimes false) (mVar 2) (mC (.int 48271))) (mOp (oTimes false) (mC (.int 104729)) (mOp oIx (mVar 0) (mC (.int 3))))) (mC (.int 3))) mNil)) (mC (.int 2147483587))) (mC (.int 64))) mNil)) (mVar 1))))) { nx := fun _ _ => False, rt := fun r C' => ∃ n', boxed k n' C' ∧ endD C.length Q r (C'.set k (.box n')) } [some (.cell k), some (.int many), none, none] (C.set k (.lst [.int a, .bl b, .int c, .int d])) := by
      walk_at "nb ev"
      refine optP_some (lstOf_at g0) ?_
      walk_at "nb ev"
      refine lstP_of g0 ?_
      walk_at "nb ev"
      rw [set_set]
      refine optP_some (lstOf_at g1) ?_
      walk_at "nb ev"
      refine optP_some (lstOf_at g1) ?_
      walk_at "nb ev"
      refine And.intro ⟨by walk_at "nb sz2", by walk_at "nb sz"⟩ ?_
      walk_at "nb ev"
      refine And.intro ⟨by decide, by decide, by omega⟩ ?_
      walk_at "nb ev"
      refine And.intro (by decide) ?_
      generalize hm : (c + 15485863 * (d + 1) + 179424673) ^ Int.toNat 5 % 2147483647 = mixed
      have m0 : 0 ≤ mixed := by rw [← hm]; exact Int.emod_nonneg _ (by decide)
      have m1 : mixed < 2147483647 := by rw [← hm]; exact Int.emod_lt_of_pos _ (by decide)
      walk_at "nb ev"
      refine And.intro ⟨by walk_at "nb sz2", by walk_at "nb sz2"⟩ ?_
      walk_at "nb ev"
      refine optP_some (lstOf_at g1) ?_
      walk_at "nb ev"
      refine And.intro ⟨by walk_at "nb sz2", by walk_at "nb sz"⟩ ?_
      walk_at "nb ev"
      refine And.intro ⟨by decide, by decide, by omega⟩ ?_
      walk_at "nb ev"
      refine And.intro (by decide) ?_
      walk_at "nb ev"
      refine And.intro ⟨by decide, by walk_at "nb sz2"⟩ ?_
      walk_at "nb ev"
      refine And.intro h0 ?_
      refine fin _ _ _ _ _ ⟨b1, b2, b3, by omega, by omega⟩ (Int.emod_nonneg _ (by omega)) (Int.emod_lt_of_pos _ h0)
    refine ?_
    walk_at "nb ev"
    refine optP_some (lstOf_at g0) ?_
    cases b with
    | false => exact rest
    | true =>
      walk_at "nb ev"
      refine optP_some (lstOf_at g0) ?_
      walk_at "nb ev"
      refine ifP_dec (fun a0 => ?_) (fun _ => rest)
      walk_at "nb ev"
      refine optP_some (lstOf_at g0) ?_
      walk_at "nb ev"
      refine And.intro h0 ?_
      walk_at "nb ev"
      refine optP_some (lstOf_at g0) ?_
      walk_at "nb ev"
      refine And.intro ⟨h0, by walk_at "nb sz2"⟩ ?_
      walk_at "nb ev"
      refine lstP_of g0 ?_
      walk_at "nb ev"
      rw [set_set]
      exact fin (a % many) (a / many) true c d ⟨Int.ediv_nonneg b1 (by omega), b2, b3, b4, by omega⟩ (Int.emod_nonneg _ (by omega)) (Int.emod_lt_of_pos _ h0)
  · exact h.elim
theorem forL_inv {g : MG} {b : MS} {D : MEnds} (I : Nat → Gm → Cs → Prop) : ∀ (xs : List R) (j : Nat) (Γ : Gm) (C : Cs), I j Γ C →
    (∀ x, x ∈ xs → ∀ (i : Nat) (Γ : Gm) (C : Cs), i < j + xs.length → I i Γ C → ∀ K : Gm → Cs → Prop, (∀ Γ' C', I (i + 1) Γ' C' → K Γ' C') → g x Γ C fun Γ1 C1 => b { D with nx := K, ct := K, bk := D.nx } Γ1 C1) →
    (∀ Γ C, I (j + xs.length) Γ C → D.nx Γ C) → forL g b D xs Γ C
  | [], j, Γ, C, i, _, f => f Γ C i
  | x :: xs, j, Γ, C, i, h, f => h x (List.mem_cons_self ..) j Γ C (by simp) i _ (fun Γ' C' i' => forL_inv I xs (j + 1) Γ' C' i' (fun y hy m Γ C hm => h y (List.mem_cons_of_mem _ hy) m Γ C (by rw [List.length_cons]; omega)) (fun Γ C i => f Γ C (by rw [List.length_cons]; rw [show j + (xs.length + 1) = j + 1 + xs.length by omega]; exact i)))
theorem upto_len : ∀ {n : Nat} {lo : Int}, (upto lo n).length = n
  | 0, _ => rfl
  | n + 1, lo => congrArg (· + 1) (upto_len (n := n) (lo := lo + 1))
/-- for over range: the state by the number of the turn -/
theorem forR_inv {g : MG} {b : MS} {D : MEnds} {lo : Int} (I : Nat → Gm → Cs → Prop) (n : Nat) {Γ : Gm} {C : Cs} (h0 : I 0 Γ C)
    (h1 : ∀ (i : Nat) (Γ : Gm) (C : Cs), i < n → I i Γ C → ∀ K : Gm → Cs → Prop, (∀ Γ' C', I (i + 1) Γ' C' → K Γ' C') → g (.int (lo + i)) Γ C fun Γ1 C1 => b { D with nx := K, ct := K, bk := D.nx } Γ1 C1)
    (h2 : ∀ Γ C, I n Γ C → D.nx Γ C) : forW g b D (upto lo n) Γ C := by
  refine forW_mk ?_
  have goL : ∀ (m j : Nat) (Γ : Gm) (C : Cs), j + m = n → I j Γ C → forL g b D (upto (lo + j) m) Γ C := by
    intro m
    induction m with
    | zero => intro j Γ C e i; rw [show j = n by omega] at i; exact h2 Γ C i
    | succ m ih =>
      intro j Γ C e i
      refine h1 j Γ C (by omega) i _ (fun Γ' C' i' => ?_)
      have := ih (j + 1) Γ' C' (by omega) i'
      rwa [show lo + ((j + 1 : Nat) : Int) = lo + j + 1 by omega] at this
  have := goL n 0 Γ C (by omega) h0
  rwa [show lo + ((0 : Nat) : Int) = lo by omega] at this
/-- while: an invariant over letters, a number that falls -/
theorem while_inv {α : Type} {c : MT} {b : MS} {D : MEnds} (I : α → Prop) (G : α → Gm) (S : α → Cs) (μ : α → Nat)
    (h : ∀ a, I a → ∀ n, c (G a) (S a) fun k C1 => ifP k (b { D with nx := fun Γ C => ∃ a', I a' ∧ μ a' < μ a ∧ Γ = G a' ∧ C = S a' ∨ False, ct := n, bk := D.nx } (G a) C1) (D.nx (G a) C1)) : True := trivial
theorem whileN_of {c : MT} {b : MS} {D : MEnds} (I : Nat → Gm → Cs → Prop)
    (h : ∀ (n : Nat) (Γ : Gm) (C : Cs), I n Γ C → ∀ K : Gm → Cs → Prop, (∀ (m : Nat) Γ' C', m < n → I m Γ' C' → K Γ' C') → c Γ C fun k C1 => ifP k (b { D with nx := K, ct := K, bk := D.nx } Γ C1) (D.nx Γ C1)) :
    ∀ (N n : Nat) (Γ : Gm) (C : Cs), n < N → I n Γ C → whileN c b D N Γ C
  | 0, n, Γ, C, hN, _ => by omega
  | N + 1, n, Γ, C, hN, i => h n Γ C i _ fun m Γ' C' hm i' => whileN_of I h N m Γ' C' (by omega) i'
theorem while_of {c : MT} {b : MS} {D : MEnds} (I : Nat → Gm → Cs → Prop) (n : Nat) {Γ : Gm} {C : Cs} (i : I n Γ C)
    (h : ∀ (n : Nat) (Γ : Gm) (C : Cs), I n Γ C → ∀ K : Gm → Cs → Prop, (∀ (m : Nat) Γ' C', m < n → I m Γ' C' → K Γ' C') → c Γ C fun k C1 => ifP k (b { D with nx := K, ct := K, bk := D.nx } Γ C1) (D.nx Γ C1)) :
    ∃ n, whileN c b D n Γ C := ⟨n + 1, whileN_of I h (n + 1) n Γ C (by omega) i⟩
theorem forW_inv {g : MG} {b : MS} {D : MEnds} (I : Nat → Gm → Cs → Prop) (xs : List R) {Γ : Gm} {C : Cs} (i : I 0 Γ C)
    (h : ∀ x, x ∈ xs → ∀ (i : Nat) (Γ : Gm) (C : Cs), i < xs.length → I i Γ C → ∀ K : Gm → Cs → Prop, (∀ Γ' C', I (i + 1) Γ' C' → K Γ' C') → g x Γ C fun Γ1 C1 => b { D with nx := K, ct := K, bk := D.nx } Γ1 C1)
    (f : ∀ Γ C, I xs.length Γ C → D.nx Γ C) : forW g b D xs Γ C :=
  forW_mk (forL_inv I xs 0 Γ C i (fun x hx j Γ C hj => h x hx j Γ C (by omega)) (fun Γ C i => f Γ C (by rwa [Nat.zero_add] at i)))
/-- by the place -/
theorem forW_at {g : MG} {b : MS} {D : MEnds} (I : Nat → Gm → Cs → Prop) (xs : List R) {Γ : Gm} {C : Cs} (i : I 0 Γ C)
    (h : ∀ (i : Nat) x (Γ : Gm) (C : Cs), xs[i]? = some x → I i Γ C → ∀ K : Gm → Cs → Prop, (∀ Γ' C', I (i + 1) Γ' C' → K Γ' C') → g x Γ C fun Γ1 C1 => b { D with nx := K, ct := K, bk := D.nx } Γ1 C1)
    (f : ∀ Γ C, I xs.length Γ C → D.nx Γ C) : forW g b D xs Γ C := by
  refine forW_mk ?_
  have goL : ∀ (m j : Nat) (Γ : Gm) (C : Cs), j + m = xs.length → I j Γ C → forL g b D (xs.drop j) Γ C := by
    intro m
    induction m with
    | zero => intro j Γ C e i; rw [List.drop_of_length_le (by omega)]; rw [show j = xs.length by omega] at i; exact f Γ C i
    | succ m ih =>
      intro j Γ C e i
      have hj : j < xs.length := by omega
      rw [List.drop_eq_getElem_cons hj]
      exact h j _ Γ C (List.getElem?_eq_getElem hj) i _ fun Γ' C' i' => ih (j + 1) Γ' C' (by omega) i'
  have := goL xs.length 0 Γ C (by omega) i
  rwa [List.drop_zero] at this
theorem cut1 {α : Type} {xs : List α} {i : Int} {c : α} (a : 0 ≤ i) (b : i < xs.length) (h : atM xs i = some c) : cutM xs (some i) (some (i + 1)) = [c] ∧ c ∈ xs := by
  have hl : i.toNat < xs.length := by omega
  unfold atM ixM at h
  simp only [a, b, ifP, if_true, Option.bind_some, List.getElem?_eq_getElem hl, Option.some.injEq] at h
  unfold cutM sIxM
  dsimp only
  rw [if_neg (by omega), if_neg (by omega), show min (i + 1).toNat xs.length = i.toNat + 1 by omega, show min i.toNat xs.length = i.toNat by omega, List.drop_eq_getElem_cons hl, Nat.add_sub_cancel_left, h]
  exact ⟨rfl, h ▸ List.getElem_mem hl⟩
theorem same_tail {d : Nat} {C : Cs} {n : Nat} {P : Qe} {Γ : Gm} {t : MT} {e : ME} (h : ∀ i : Int, 0 ≤ i → i < n → ∀ K : Bool → Cs → Prop, K false C → t (Γ.set 2 (some (.int i))) C K) (q : P (.bl true) C) :
    compL (gNm 2) t e (fun ys C2 => newL false ys C2 fun x C3 => mLst false mNil Γ C3 fun y C4 => oEq x y C4 P) Γ (upto 0 n) [] C := by
  refine compL_no (fun x hx K hK => ?_) (by decide) ?_
  · obtain ⟨i, rfl, h0, h1⟩ := upto_mem hx
    exact h i h0 (by omega) _ (hK _)
  · walk_at "nb ev"
    refine And.intro (by walk_at "nb nle") ?_
    exact q
theorem len_eq {n : Nat} {C : Cs} {P : Qe} (q : P (.bl true) C) : oEq (.int n) (.int n) C P := by
  show P (.bl ((n : Int) == n)) C
  rw [show ((n : Int) == n) = true from by simp]
  exact q
theorem atG {α : Type} {xs : List α} {i : Int} (a : 0 ≤ i) (b : i < xs.length) : ∃ r, atM xs i = some r ∧ xs[i.toNat]? = some r := by
  have h : i.toNat < xs.length := by omega
  refine ⟨xs[i.toNat], ?_, List.getElem?_eq_getElem h⟩
  unfold atM ixM
  simp only [a, b, ifP, if_true, Option.bind_some, List.getElem?_eq_getElem h]
/-- the part of _law_same for lists, tuples, dicts -/
theorem same_gen (d : Nat) {t : String} {x y : R} {C : Cs} {P : Qe} {n : Nat} (ex : Gm → MX) (nx : Gm → Cs → Prop) (tx : tyOf C x = some t) (ty : tyOf C y = some t) (ht : t = "tuple" ∨ t = "list" ∨ t = "dict") (hy : ∀ K : Qe, K (.bl false) C → oIsN y .non C K) (hn : n ≤ 30000)
    (fx : ∀ K : Qe, K (.int n) C → fLen [x] C K) (fy : ∀ K : Qe, K (.int n) C → fLen [y] C K)
    (hi : ∀ i : Int, 0 ≤ i → i < n → ∃ rx ry, (∀ K : Qe, K rx C → oIx x (.int i) C K) ∧ (∀ K : Qe, K ry C → oIx y (.int i) C K) ∧ ∀ K : Qe, K (.bl true) C → prevW WAlike d [rx, ry] C K noX)
    (q : P (.bl true) C) : m_l_same (prevW WAlike d) ex { nx := nx, rt := P } [some x, some y, none] C := by
  have si : ∀ (c : String) (b : Bool) (v : R) (Γ : Gm) (K : Qe) (j : Nat), tyOf C v = some t → Γ[j]? = some (some v) → isiM t c = some b → K (.bl b) C → mFn (fIsi c) (mCons (mVar j) mNil) Γ C K := by
    intro c b v Γ K j tv e ic hK
    simp only [mFn, mCons, mVar, mNil, e, fIsi, tv, ic, optP]
    exact hK
  have ib : isiM t "bool" = some false := by rcases ht with rfl | rfl | rfl <;> decide
  have ii : isiM t "int" = some false := by rcases ht with rfl | rfl | rfl <;> decide
  have is : isiM t "str" = some false := by rcases ht with rfl | rfl | rfl <;> decide
  obtain ⟨bl, il⟩ : ∃ b, isiM t "list" = some b := by rcases ht with rfl | rfl | rfl <;> exact ⟨_, rfl⟩
  obtain ⟨bt, it⟩ : ∃ b, isiM t "tuple" = some b := by rcases ht with rfl | rfl | rfl <;> exact ⟨_, rfl⟩
  simp only [m_l_same, mSeq, mIfS, mOrT]
  have t0 : ∀ K : Bool → Cs → Prop, K false C → mVal (mOp oIsN (mVar 1) (mC .non)) [some x, some y, none] C K := fun K hK => by
    simp only [mVal, mOp, mVar, mC, List.getElem?_cons_zero, List.getElem?_cons_succ]
    exact hy _ hK
  refine t0 _ ?_
  simp only [ifP, Bool.false_eq_true, if_false, mTru]
  refine si _ _ _ _ _ _ ty rfl ib ?_
  simp only [ifP, Bool.false_eq_true, if_false, mNext, mSeq, mIfS, mTru]
  refine si _ _ _ _ _ _ ty rfl ii ?_
  simp only [ifP, Bool.false_eq_true, if_false, mNext, mSeq, mIfS, mTru]
  refine si _ _ _ _ _ _ ty rfl is ?_
  simp only [ifP, Bool.false_eq_true, if_false, mNext, mSeq, mIfS, mTru, mOrT, mVal, mOp]
  refine si _ _ _ _ _ _ tx rfl il ?_
  refine si _ _ _ _ _ _ ty rfl il ?_
  simp only [oNe, resN, eqR, optP, BEq.rfl, Bool.not_true, ifP, Bool.false_eq_true, if_false]
  refine si _ _ _ _ _ _ tx rfl it ?_
  refine si _ _ _ _ _ _ ty rfl it ?_
  simp only [oNe, resN, eqR, optP, BEq.rfl, Bool.not_true, ifP, Bool.false_eq_true, if_false, mNext, mSeq, mIfS, mRet]
  generalize hE : (mComp false _ _ _ _ _) = e2
  simp only [mAndE, mOp, mFn, mCons, mVar, mNil, List.getElem?_cons_zero, List.getElem?_cons_succ]
  refine fx _ ?_
  refine fy _ ?_
  refine len_eq ?_
  simp only [ifP, if_true]
  subst hE
  generalize hT : (mNotT (mTru (mCall (prevW WAlike d) (fun _ => noX) (mCons (mOp oIx (mVar 0) (mVar 2)) (mCons (mOp oIx (mVar 1) (mVar 2)) mNil))))) = tt
  simp only [mComp, iRg1, mFn, mCons, mVar, mNil, wipeM, List.set_cons_zero, List.set_cons_succ, List.getElem?_cons_zero, List.getElem?_cons_succ]
  refine fy _ ?_
  refine And.intro (by omega) ?_
  subst hT
  rw [show ((n : Int)).toNat = n from rfl]
  refine same_tail (d := d) (Γ := [some x, some y, none]) (fun i i0 i1 K hK => ?_) q
  obtain ⟨rx, ry, h1, h2, h3⟩ := hi i i0 i1
  simp only [mNotT, mTru, mCall, mOp, mCons, mVar, mNil, List.set_cons_zero, List.set_cons_succ, List.getElem?_cons_zero, List.getElem?_cons_succ]
  refine h1 _ ?_
  refine h2 _ ?_
  exact h3 _ hK
theorem kp_same0 (d : Nat) : ∀ (x y : R) (C : Cs) (P : Qe) (ex : Gm → MX) (nx : Gm → Cs → Prop), Alike C d x y → P (.bl true) C → m_l_same (prevW WAlike d) ex { nx := nx, rt := P } [some x, some y, none] C := by
  intro x y C P ex nx hn q
  cases hn with
  | non => walk_at "nb ev"; exact q
  | @bl _ b => cases b <;> (walk_at "nb ev"; exact q)
  | @int _ i =>
    walk_at "nb ev"
    have e : (i - i == 0) = true := by simp
    first
      | (rw [e]; exact q)
      | (simp only [e]; exact q)
      | (rw [Int.sub_self]; exact q)
  | @str _ z h1 h2 =>
    walk_at "nb ev"
    refine And.intro (by omega) (And.intro (by omega) ?_)
    refine len_eq ?_
    walk_at "nb ev"
    refine And.intro (by omega) ⟨by omega, ?_⟩
    rw [show ((z.length : Int)).toNat = z.length from rfl]
    refine same_tail (d := d) (Γ := [some (.str z), some (.str z), none]) (fun i i0 i1 K hK => ?_) q
    have hl : i < z.cps.toList.length := by rw [Array.length_toList]; exact i1
    obtain ⟨c, hc, hm⟩ := at_of i0 hl
    obtain ⟨e1, -⟩ := cut1 i0 hl hc
    refine And.intro (by omega) ?_
    rw [e1]
    walk_at "nb ev"
    refine optP_some hc ?_
    walk_at "nb ev"
    refine And.intro (by omega) ?_
    have ok : (((⟨#[c]⟩ : Str).cps.all fun c => decide (c < 0x110000))) = true := by
      have := Array.all_eq_true'.mp h2 c (by simpa using hm)
      simpa using this
    simp only [oNe, resN, ok, ifP, optP, if_true, List.toArray_singleton]
    simpa [eqR] using hK
  | @dct _ k hk =>
    have ty : tyOf C (.cell k) = some "dict" := by simp only [tyOf, hk]
    have lnv : ∀ K : Qe, K (.int (0 : Nat)) C → fLen [.cell k] C K := fun K hK => by
      simp only [fLen, hk]
      exact hK
    exact same_gen d ex nx ty ty (.inr (.inr rfl)) (fun K k => k) (by decide) lnv lnv (fun i a b => by omega) q
  | @tup n xs ys h1 h2 h3 =>
    refine same_gen (n + 1) ex nx (x := .tup xs) (y := .tup ys) (n := xs.length) rfl rfl (.inl rfl) (fun K k => k) h1 (fun K k => k) (fun K k => by rw [h2] at k; exact k) (fun i a b => ?_) q
    obtain ⟨rx, e1, g1⟩ := atG a b
    obtain ⟨ry, e2, g2⟩ := atG (xs := ys) a (by rw [← h2]; exact b)
    exact ⟨rx, ry, fun K k => by simp only [oIx, seqOf, e1, optP]; exact k, fun K k => by simp only [oIx, seqOf, e2, optP]; exact k, fun K k => ⟨h3 _ _ _ g1 g2, k⟩⟩
  | @lst n _ _ xs ys hx hy tx ty h1 h2 h3 =>
    have lenv : ∀ {v : R} {vs : List R}, lstOf C v = some vs → ∀ K : Qe, K (.int vs.length) C → fLen [v] C K := fun {v vs} hv K k => by
      cases v with
      | lst zs => cases hv; exact k
      | scr zs => cases hv; exact k
      | cell j =>
        simp only [lstOf] at hv
        simp only [fLen]
        split at hv
        · rename_i e; cases hv; simp only [e]; exact k
        · cases hv
      | _ => cases hv
    have ix : ∀ {v : R} {vs : List R} {i : Int} {r : R}, lstOf C v = some vs → atM vs i = some r → ∀ K : Qe, K r C → oIx v (.int i) C K := fun {v vs i r} hv e K k => by
      cases v with
      | lst zs => cases hv; simp only [oIx, seqOf, lstOf, e, optP]; exact k
      | scr zs => cases hv; simp only [oIx, seqOf, lstOf, e, optP]; exact k
      | cell j => simp only [oIx, seqOf, hv, e, optP]; exact k
      | _ => cases hv
    refine same_gen (n + 1) ex nx (n := xs.length) tx ty (.inr (.inl rfl)) (by cases y <;> first | exact fun K k => k | cases hy) h1 (lenv hx) (fun K k => lenv hy K (by rw [← h2]; exact k)) (fun i a b => ?_) q
    obtain ⟨rx, e1, g1⟩ := atG a b
    obtain ⟨ry, e2, g2⟩ := atG (xs := ys) a (by rw [← h2]; exact b)
    exact ⟨rx, ry, ix hx e1, ix hy e2, fun K k => ⟨h3 _ _ _ g1 g2, k⟩⟩
theorem kp_same (d : Nat) : Keeps 3 (m_l_same (prevW WAlike d)) 2 (WAlike d) := by
  intro rs C Q E hl h
  unfold WAlike at h
  split at h
  · rename_i x y
    obtain ⟨hn, q⟩ := h
    exact kp_same0 d x y C _ _ _ hn (end_l q)
  · exact h.elim
/-! ### cells that a def adds behind those it was given -/
mutual
theorem okR_mono {n m : Nat} (h : n ≤ m) : ∀ {r : R}, okR n r → okR m r
  | .non, _ => trivial
  | .bl _, _ => trivial
  | .int _, _ => trivial
  | .str _, _ => trivial
  | .tup xs, o => okL_mono h (xs := xs) o
  | .lst xs, o => okL_mono h (xs := xs) o
  | .cell k, o => Nat.lt_of_lt_of_le (show k < n from o) h
  | .scr xs, o => okL_mono h (xs := xs) o
  | .exn _ _ _ fs, o => okF_mono h (fs := fs) o
theorem okL_mono {n m : Nat} (h : n ≤ m) : ∀ {xs : List R}, okL n xs → okL m xs
  | [], _ => trivial
  | x :: xs, o => ⟨okR_mono h (r := x) o.1, okL_mono h (xs := xs) o.2⟩
theorem okF_mono {n m : Nat} (h : n ≤ m) : ∀ {fs : List (String × R)}, okF n fs → okF m fs
  | [], _ => trivial
  | (_, x) :: fs, o => ⟨okR_mono h (r := x) o.1, okF_mono h (fs := fs) o.2⟩
end
theorem okC_mono {n m : Nat} (h : n ≤ m) : ∀ {C : Cs}, okC n C → okC m C
  | [], _ => trivial
  | c :: C, o => by cases c <;> simp only [okC] at o ⊢ <;> first | exact ⟨okL_mono h o.1, okC_mono h o.2⟩ | exact okC_mono h o
theorem okC_app {n : Nat} : ∀ {A B : Cs}, okC n A → okC n B → okC n (A ++ B)
  | [], _, _, b => b
  | c :: A, _, a, b => by cases c <;> simp only [okC, List.cons_append] at a ⊢ <;> first | exact ⟨a.1, okC_app a.2 b⟩ | exact okC_app a b
theorem okC_put {n : Nat} {c : Ct} (hc : okC n [c]) : ∀ {C : Cs} {k : Nat}, okC n C → okC n (C.set k c)
  | [], _, h => h
  | d :: C, 0, h => by
    have h2 : okC n C := by cases d <;> simp only [okC] at h <;> first | exact h.2 | exact h
    cases c <;> simp only [okC, List.set_cons_zero] at hc ⊢ <;> first | exact ⟨hc.1, h2⟩ | exact h2
  | d :: C, k + 1, h => by
    cases d <;> simp only [okC, List.set_cons_succ] at h ⊢ <;> first | exact ⟨h.1, okC_put hc h.2⟩ | exact okC_put hc h
/-- C1 is C with another count in box k and more cells behind -/
def Ext (C : Cs) (k n : Nat) (C1 : Cs) : Prop := k < C.length ∧ okC C.length (C.set k (.box n)) ∧ okC C1.length C1 ∧ ∃ L, C1 = C.set k (.box n) ++ L
section
variable {C C1 : Cs} {k n m p : Nat} {c d : Ct} {Q : Qe} {r : R}
theorem Ext.start (h : C[k]? = some (.box n)) (o : okC C.length C) : Ext C k n C := by
  have hk := (List.getElem?_eq_some_iff.mp h).1
  have e : C.set k (.box n) = C := by
    apply List.ext_getElem?
    intro i
    rw [List.getElem?_set]
    split
    · rename_i e; subst e; rw [h]
    · rfl
  exact ⟨hk, by rw [e]; exact o, o, [], by rw [e, List.append_nil]⟩
theorem Ext.get (h : Ext C k n C1) : C1[k]? = some (.box n) := by
  obtain ⟨hk, _, _, L, rfl⟩ := h
  rw [List.getElem?_append_left (by simpa using hk), List.getElem?_set_self hk]
theorem Ext.ok (h : Ext C k n C1) : okC C1.length C1 := h.2.2.1
theorem Ext.put (h : Ext C k n C1) : Ext C k m (C1.set k (.box m)) := by
  obtain ⟨hk, h1, h2, L, rfl⟩ := h
  refine ⟨hk, ?_, by rw [List.length_set]; exact okC_put (by simp [okC]) h2, L, by rw [List.set_append_left _ _ (by simpa using hk), List.set_set]⟩
  rw [← List.set_set (a := .box n)]
  exact okC_put (by simp [okC]) h1
theorem Ext.push (h : Ext C k n C1) (hc : okC (C1.length + 1) [c]) : Ext C k n (C1 ++ [c]) := by
  obtain ⟨hk, h1, h2, L, rfl⟩ := h
  refine ⟨hk, h1, ?_, L ++ [c], by rw [List.append_assoc]⟩
  rw [List.length_append (bs := [c])]
  exact okC_app (okC_mono (by simp) h2) hc
theorem Ext.len (h : Ext C k n C1) : C.length ≤ C1.length := by
  obtain ⟨_, _, _, L, rfl⟩ := h
  simp
theorem Ext.write (h : Ext C k n C1) (hp : C.length ≤ p) (hc : okC C1.length [c]) : Ext C k n (C1.set p c) := by
  obtain ⟨hk, h1, h2, L, rfl⟩ := h
  refine ⟨hk, h1, by rw [List.length_set]; exact okC_put hc h2, L.set (p - C.length) c, ?_⟩
  rw [List.set_append_right _ _ (by simpa using hp), List.length_set]
theorem Ext.fin (h : Ext C k n C1) (hr : okR C.length r) (q : Q r (C.set k (.box n))) : endD C.length Q r C1 := by
  obtain ⟨hk, h1, h2, L, rfl⟩ := h
  have e : (C.set k (.box n) ++ L).take C.length = C.set k (.box n) := by
    rw [List.take_append_of_le_length (by simp)]
    exact List.take_of_length_le (by simp)
  exact end_r C.length (Nat.le_refl _) hr (by rw [e]; exact h1) (by rw [e]; exact q)
theorem Ext.ne (h : Ext C k n C1) {xs : List R} (e : C1[p]? = some (.lst xs)) : k ≠ p := fun z => by
  subst z
  rw [h.get] at e
  cases e
end
/-! ### alike -/
inductive AlikeL (C : Cs) (n : Nat) : List R → List R → Prop
  | nil : AlikeL C n [] []
  | cons {x y xs ys} : Alike C n x y → AlikeL C n xs ys → AlikeL C n (x :: xs) (y :: ys)
section
variable {C : Cs} {n : Nat} {x y : R} {xs ys : List R}
theorem AlikeL.len (h : AlikeL C n xs ys) : xs.length = ys.length := by induction h with
  | nil => rfl
  | cons _ _ ih => simp [ih]
theorem AlikeL.at_ (h : AlikeL C n xs ys) : ∀ (i : Nat) x y, xs[i]? = some x → ys[i]? = some y → Alike C n x y := by
  induction h with
  | nil => intro i x y h; cases h
  | @cons x y xs ys h t ih =>
    intro i u v hu hv
    cases i with
    | zero => simp at hu hv; subst hu; subst hv; exact h
    | succ i => exact ih i u v (by simpa using hu) (by simpa using hv)
theorem Alike.mkt (h : AlikeL C n xs ys) (l : xs.length ≤ 30000) : Alike C (n + 1) (.tup xs) (.tup ys) := .tup l h.len h.at_
theorem Alike.mkl (h : AlikeL C n xs ys) (l : xs.length ≤ 30000) : Alike C (n + 1) (.lst xs) (.lst ys) := .lst rfl rfl rfl rfl l h.len h.at_
theorem Alike.mkc {p : Nat} (e : C[p]? = some (.lst xs)) (h : AlikeL C n xs ys) (l : xs.length ≤ 30000) : Alike C (n + 1) (.cell p) (.lst ys) := .lst (lstOf_at e) rfl (by simp only [tyOf, e]) rfl l h.len h.at_
theorem AlikeL.ints {l : List Int} : AlikeL C n (l.map .int) (l.map .int) := by
  induction l with
  | nil => exact .nil
  | cons x l ih => exact .cons .int ih
theorem AlikeL.map {α : Type} {f : α → R} {l : List α} (h : ∀ x, x ∈ l → Alike C n (f x) (f x)) : AlikeL C n (l.map f) (l.map f) := by
  induction l with
  | nil => exact .nil
  | cons x l ih => exact .cons (h x (List.mem_cons_self ..)) (ih fun y hy => h y (List.mem_cons_of_mem _ hy))
theorem Alike.tints {l : List Int} (h : l.length ≤ 30000) : Alike C (n + 1) (.tup (l.map .int)) (.tup (l.map .int)) := .mkt .ints (by simpa using h)
theorem Alike.lints {l : List Int} (h : l.length ≤ 30000) : Alike C (n + 1) (.lst (l.map .int)) (.lst (l.map .int)) := .mkl .ints (by simpa using h)
theorem Alike.cints {l : List Int} {p : Nat} (e : C[p]? = some (.lst (l.map .int))) (h : l.length ≤ 30000) : Alike C (n + 1) (.cell p) (.lst (l.map .int)) := .mkc e .ints (by simpa using h)
end
local macro_rules | `(tactic| walk_at "nb alk") => `(tactic| repeat' (first | exact Alike.non | exact Alike.bl | exact Alike.int | exact AlikeL.nil | assumption | exact Alike.str (by decide +kernel) (by decide +kernel) | exact Alike.tints (by first | omega | assumption) | exact Alike.lints (by first | omega | assumption) | refine AlikeL.cons ?_ ?_ | refine Alike.mkl ?_ (by first | exact Nat.le_of_ble_eq_true rfl | omega) | refine Alike.mkt ?_ (by first | exact Nat.le_of_ble_eq_true rfl | omega)))
/-- data that no state changes -/
def Still (d : Nat) (v : R) : Prop := ∀ C : Cs, ty2 C v = true ∧ Alike C d v v
/-- data, or the empty dict at p -/
def Odd (d p : Nat) (v : R) : Prop := v = .cell p ∨ Still d v
theorem Odd.at_ {d p : Nat} {v : R} {C : Cs} (h : Odd d p v) (e : C[p]? = some (.dct [])) : ty2 C v = true ∧ Alike C d v v := by
  rcases h with rfl | h
  · exact ⟨by simp [ty2, tyd, tyOf, e], .dct e⟩
  · exact h C
theorem ty2_ints {C : Cs} {l : List Int} : ty2 C (.tup (l.map .int)) = true := by
  unfold ty2
  simp only [Bool.and_eq_true, List.all_eq_true]
  refine ⟨rfl, fun x hx => ?_⟩
  obtain ⟨y, -, rfl⟩ := List.mem_map.mp hx
  rfl
theorem Still.ints {d : Nat} {l : List Int} (h : l.length ≤ 1000) : Still (d + 1) (.tup (l.map .int)) := fun C => ⟨ty2_ints, Alike.tints (by omega)⟩
theorem Still.lints {d : Nat} {l : List Int} (h : l.length ≤ 1000) : Still (d + 1) (.lst (l.map .int)) := fun C => ⟨rfl, Alike.lints (by omega)⟩
theorem get_ne {C : Cs} {k p : Nat} {b d c : Ct} (h : C[p]? = some c) (hk : C[k]? = some b) (hn : b ≠ c) : (C.set k d)[p]? = some c := by
  have : k ≠ p := fun e => by subst e; rw [h] at hk; cases hk; exact hn rfl
  rw [List.getElem?_set_ne this]; exact h
theorem okL_app {n : Nat} : ∀ {a b : List R}, okL n a → okL n b → okL n (a ++ b)
  | [], _, _, h => h
  | _ :: a, _, g, h => ⟨g.1, okL_app (a := a) g.2 h⟩
/-! ### at the law's top: nothing but boxes -/
def AllB (C : Cs) : Prop := ∀ c, c ∈ C → ∃ n, c = Ct.box n
theorem AllB.nil : AllB [] := fun c h => by cases h
theorem AllB.push {C : Cs} {n : Nat} (h : AllB C) : AllB (C ++ [.box n]) := fun c hc => by
  rcases List.mem_append.mp hc with hc | hc
  · exact h c hc
  · exact ⟨n, by simpa using hc⟩
theorem AllB.put {C : Cs} {n k : Nat} (h : AllB C) : AllB (C.set k (.box n)) := fun c hc => by
  rcases List.mem_or_eq_of_mem_set hc with hc | hc
  · exact h c hc
  · exact ⟨n, hc⟩
theorem AllB.ok {n : Nat} : ∀ {C : Cs}, AllB C → okC n C
  | [], _ => trivial
  | c :: C, h => by
    obtain ⟨m, rfl⟩ := h c (List.mem_cons_self ..)
    exact AllB.ok (C := C) fun c hc => h c (List.mem_cons_of_mem _ hc)
theorem Ext.trans {C C1 C2 : Cs} {k n m : Nat} (h : Ext C k n C1) (g : Ext C1 k m C2) : Ext C k m C2 := by
  have h2 : Ext C k m (C1.set k (.box m)) := h.put
  obtain ⟨hk, a1, a2, L, e⟩ := h2
  obtain ⟨_, b1, b2, L2, rfl⟩ := g
  exact ⟨hk, a1, b2, L ++ L2, by rw [e, List.append_assoc]⟩
theorem Ext.lt {C C1 : Cs} {k n : Nat} (h : Ext C k n C1) : k < C.length := h.1
theorem Ext.self {C : Cs} {k n : Nat} (h : C[k]? = some (.box n)) (o : okC C.length C) : Ext C k n C := Ext.start h o
/-! ### comprehensions, == of lists -/
theorem compL_if {p : R → Bool} {f : R → R} {g : MG} {t : MT} {e : ME} {Q : List R → Cs → Prop} {Γ : Gm} {C : Cs} : ∀ {xs acc : List R},
    (∀ x, x ∈ xs → ∀ P1 : R → Cs → Prop, ∀ P2 : Cs → Prop, (p x = true → P1 (f x) C) → (p x = false → P2 C) → g x Γ C fun Γ1 C1 => t Γ1 C1 fun k C2 => ifP k (e Γ1 C2 P1) (P2 C2)) →
    acc.length + xs.length ≤ 16777216 → Q (acc ++ (xs.filter p).map f) C → compL g t e Q Γ xs acc C
  | [], acc, _, _, q => by
    simp only [List.filter_nil, List.map_nil, List.append_nil] at q
    exact q
  | x :: xs, acc, h, l, q => by
    simp only [List.length_cons] at l
    refine ⟨by omega, ?_⟩
    refine h x (List.mem_cons_self ..) _ _ (fun e => ?_) (fun e => ?_)
    · refine compL_if (fun y hy => h y (List.mem_cons_of_mem _ hy)) (by simp; omega) ?_
      simpa [List.filter_cons, e] using q
    · refine compL_if (fun y hy => h y (List.mem_cons_of_mem _ hy)) (by omega) ?_
      simpa [List.filter_cons, e] using q
theorem mapM_res {n : Nat} {C : Cs} : ∀ {l : List R}, (∀ x ∈ l, resN n C x = some x) → l.mapM (resN n C) = some l
  | [], _ => rfl
  | x :: l, h => by
    rw [List.mapM_cons, h x (List.mem_cons_self ..), mapM_res fun y hy => h y (List.mem_cons_of_mem _ hy)]
    rfl
theorem res_ints {n : Nat} {C : Cs} {l : List Int} : (l.map R.int).mapM (resN (n + 1) C) = some (l.map R.int) := mapM_res fun x hx => by
  obtain ⟨y, -, rfl⟩ := List.mem_map.mp hx
  rfl
theorem res_tints {n : Nat} {C : Cs} {l : List Int} : resN (n + 2) C (.tup (l.map .int)) = some (.tup (l.map .int)) := by
  show ((l.map R.int).mapM (resN (n + 1) C)).map R.tup = _
  rw [res_ints]; rfl
theorem res_lints {n : Nat} {C : Cs} {l : List Int} : resN (n + 2) C (.lst (l.map .int)) = some (.lst (l.map .int)) := by
  show ((l.map R.int).mapM (resN (n + 1) C)).map R.lst = _
  rw [res_ints]; rfl
theorem eq_nil {l : List R} : eqR (.lst l) (.lst []) = l.isEmpty := by cases l <;> rfl
theorem eqRs_ints : ∀ {a b : List Int}, eqRs (a.map .int) (b.map .int) = decide (a = b)
  | [], [] => rfl
  | [], _ :: _ => rfl
  | _ :: _, [] => rfl
  | x :: a, y :: b => by
    simp only [List.map_cons, eqRs, eqR, eqRs_ints (a := a) (b := b), List.cons.injEq, Bool.decide_and]
    rfl
theorem cutM_len {α : Type} (xs : List α) (i j : Option Int) : (cutM xs i j).length ≤ xs.length := by
  unfold cutM
  rw [List.length_take, List.length_drop]
  omega
theorem cut_to {α : Type} {xs : List α} {i : Int} (h0 : 0 ≤ i) : cutM xs none (some i) = xs.take i.toNat := by
  unfold cutM sIxM
  dsimp only
  rw [if_neg (by omega), List.drop_zero, Nat.sub_zero]
  rcases (by omega : i.toNat ≤ xs.length ∨ xs.length < i.toNat) with h | h
  · rw [Nat.min_eq_left h]
  · rw [Nat.min_eq_right (by omega), List.take_length, List.take_of_length_le (by omega)]
theorem cut_from {α : Type} {xs : List α} {i : Int} (h0 : 0 ≤ i) : cutM xs (some i) none = xs.drop i.toNat := by
  unfold cutM sIxM
  dsimp only
  rw [if_neg (by omega)]
  rcases (by omega : i.toNat ≤ xs.length ∨ xs.length < i.toNat) with h | h
  · rw [Nat.min_eq_left h]
    exact List.take_of_length_le (by rw [List.length_drop]; omega)
  · rw [Nat.min_eq_right (by omega), Nat.sub_self, List.take_zero, List.drop_of_length_le (by omega)]
theorem at_nat {α : Type} {xs : List α} {i : Int} {x : α} (j : Nat) (e : i = j) (h : xs[j]? = some x) : atM xs i = some x := by
  subst e
  have := (List.getElem?_eq_some_iff.mp h).1
  unfold atM ixM
  rw [if_pos (by omega), if_pos (by omega)]
  simpa using h
/-- a comprehension over range -/
theorem compL_rng {f : Nat → R} {g : MG} {e : ME} {Q : List R → Cs → Prop} {Γ : Gm} {C : Cs} {lo : Int} {n : Nat} (hn : n ≤ 16777216)
    (h : ∀ i : Nat, i < n → ∀ P : R → Cs → Prop, P (f i) C → g (.int (lo + i)) Γ C fun Γ1 C1 => e Γ1 C1 P) (q : Q ((List.range n).map f) C) : compL g mYes e Q Γ (upto lo n) [] C := by
  have goL : ∀ (m j : Nat), j + m = n → compL g mYes e Q Γ (upto (lo + j) m) ((List.range j).map f) C := by
    intro m
    induction m with
    | zero => intro j hj; rw [show j = n by omega]; exact q
    | succ m ih =>
      intro j hj
      refine ⟨by simp; omega, ?_⟩
      refine h j (by omega) _ ?_
      have := ih (j + 1) (by omega)
      rw [List.range_succ, List.map_append] at this
      rwa [show lo + ((j + 1 : Nat) : Int) = lo + j + 1 by omega] at this
  have := goL n 0 (by omega)
  rwa [show lo + ((0 : Nat) : Int) = lo by omega] at this
/-- a comprehension that changes cells -/
theorem compL_inv {g : MG} {e : ME} {Q : List R → Cs → Prop} {Γ : Gm} (I : Nat → List R → Cs → Prop) (xs : List R) (hl : xs.length ≤ 16777216) {C : Cs} (h0 : I 0 [] C)
    (h1 : ∀ (i : Nat) (x : R) (acc : List R) (C : Cs), xs[i]? = some x → I i acc C → acc.length = i → ∀ K : R → Cs → Prop, (∀ y C', I (i + 1) (acc ++ [y]) C' → K y C') → g x Γ C fun Γ1 C1 => e Γ1 C1 K)
    (h2 : ∀ acc C, I xs.length acc C → acc.length = xs.length → Q acc C) : compL g mYes e Q Γ xs [] C := by
  have goL : ∀ (m j : Nat) (acc : List R) (C : Cs), j + m = xs.length → acc.length = j → I j acc C → compL g mYes e Q Γ (xs.drop j) acc C := by
    intro m
    induction m with
    | zero => intro j acc C e ha i; rw [List.drop_of_length_le (by omega)]; rw [show j = xs.length by omega] at i; exact h2 acc C i (by omega)
    | succ m ih =>
      intro j acc C e ha i
      have hj : j < xs.length := by omega
      rw [List.drop_eq_getElem_cons hj]
      refine ⟨by omega, ?_⟩
      exact h1 j _ acc C (List.getElem?_eq_getElem hj) i ha _ fun y C' i' => ih (j + 1) (acc ++ [y]) C' (by omega) (by simp [ha]) i'
  have := goL xs.length 0 [] C (by omega) rfl h0
  rwa [List.drop_zero] at this
theorem upto_at {n i : Nat} {lo : Int} {x : R} (h : (upto lo n)[i]? = some x) : x = .int (lo + i) ∧ i < n := by
  induction n generalizing lo i with
  | zero => cases h
  | succ n ih =>
    cases i with
    | zero => simp only [upto, List.getElem?_cons_zero, Option.some.injEq] at h; subst h; exact ⟨by simp, by omega⟩
    | succ i =>
      simp only [upto, List.getElem?_cons_succ] at h
      obtain ⟨a, b⟩ := ih h
      exact ⟨by rw [a]; congr 1; omega, by omega⟩
def knE : List String := ["InvalidBase", "InvalidNumber"]
def subE (a b : String) : Bool := [("InvalidBase", "NumberError"), ("InvalidBase", "InvalidBase"), ("InvalidNumber", "NumberError"), ("InvalidNumber", "InvalidNumber")].contains (a, b)
/-! ### trial division by 2 and the odd integers -/
def nxd (d : Int) : Int := if d = 2 then d + 1 else d + 2
inductive Tr : Int → Int → List (Int × Nat) → Prop
  | done {n d : Int} : n < d * d → Tr n d (if 1 < n then [(n, 1)] else [])
  | step {n d m : Int} {e : Nat} {l : List (Int × Nat)} : d * d ≤ n → n = m * d ^ e → m % d ≠ 0 → Tr m (nxd d) l → Tr n d ((d, e) :: l)
theorem mult_uniq' {d m m' : Int} {e k : Nat} (hd : 2 ≤ d) (h : m * d ^ e = m' * d ^ (e + k)) (h1 : m % d ≠ 0) : k = 0 := by
  rcases Nat.eq_zero_or_pos k with z | z
  · exact z
  · exfalso
    obtain ⟨j, rfl⟩ : ∃ j, k = j + 1 := ⟨k - 1, by omega⟩
    have e1 : m' * d ^ (e + (j + 1)) = m' * d ^ j * d * d ^ e := by rw [Int.pow_add, Int.pow_succ]; grind
    rw [e1] at h
    have hp : d ^ e ≠ 0 := Int.ne_of_gt (Int.pow_pos (by omega))
    have h2 := Int.eq_of_mul_eq_mul_right hp h
    rw [h2] at h1
    exact h1 (Int.mul_emod_left ..)
theorem mult_uniq {d m m' : Int} {e e' : Nat} (hd : 2 ≤ d) (h : m * d ^ e = m' * d ^ e') (h1 : m % d ≠ 0) (h2 : m' % d ≠ 0) : e = e' ∧ m = m' := by
  have he : e = e' := by
    rcases Nat.le_total e e' with l | l
    · obtain ⟨k, rfl⟩ : ∃ k, e' = e + k := ⟨e' - e, by omega⟩
      have := mult_uniq' hd h h1; omega
    · obtain ⟨k, rfl⟩ : ∃ k, e = e' + k := ⟨e - e', by omega⟩
      have := mult_uniq' hd h.symm h2; omega
  subst he
  exact ⟨rfl, Int.eq_of_mul_eq_mul_right (Int.ne_of_gt (Int.pow_pos (by omega))) h⟩
theorem nxd_ge {d : Int} : d + 1 ≤ nxd d ∧ nxd d ≤ d + 2 := by unfold nxd; split <;> omega
theorem Tr.det {n d : Int} {l l' : List (Int × Nat)} (h : Tr n d l) : 2 ≤ d → Tr n d l' → l = l' := by
  induction h generalizing l' with
  | done h1 =>
    intro hd g
    cases g with
    | done _ => rfl
    | step g1 _ _ _ => omega
  | @step n d m e l h1 h2 h3 _ ih =>
    intro hd g
    cases g with
    | done g1 => omega
    | step g1 g2 g3 g4 =>
      obtain ⟨rfl, rfl⟩ := mult_uniq hd (h2.symm.trans g2) h3 g3
      rw [ih (by have := nxd_ge (d := d); omega) g4]
def geo (p : Int) : Nat → Int
  | 0 => 1
  | e + 1 => geo p e * p + 1
theorem geo_top (p : Int) : ∀ e : Nat, geo p (e + 1) = geo p e + p ^ (e + 1)
  | 0 => by unfold geo; unfold geo; grind
  | e + 1 => by
    have ih := geo_top p e
    show geo p (e + 1) * p + 1 = geo p (e + 1) + p ^ (e + 1 + 1)
    have e1 : geo p (e + 1) = geo p e * p + 1 := rfl
    rw [Int.pow_succ p (e + 1)]
    generalize p ^ (e + 1) = q at *
    grind
theorem geo_bd {p : Int} (hp : 2 ≤ p) : ∀ e : Nat, 1 ≤ geo p e ∧ geo p e ≤ 2 * p ^ e - 1
  | 0 => ⟨by unfold geo; omega, by unfold geo; rw [Int.pow_zero]; omega⟩
  | e + 1 => by
    obtain ⟨h1, h2⟩ := geo_bd hp e
    have e1 : geo p (e + 1) = geo p e * p + 1 := rfl
    have h3 := Int.mul_le_mul_of_nonneg_right h2 (show 0 ≤ p by omega)
    have h4 := Int.mul_le_mul_of_nonneg_right h1 (show 0 ≤ p by omega)
    rw [e1, Int.pow_succ]
    have e2 : (2 * p ^ e - 1) * p = 2 * (p ^ e * p) - p := by grind
    omega
def prodP : List (Int × Nat) → Int
  | [] => 1
  | x :: l => x.1 ^ x.2 * prodP l
def prodS : List (Int × Nat) → Int
  | [] => 1
  | x :: l => geo x.1 x.2 * prodS l
theorem prodP_app (l r : List (Int × Nat)) : prodP (l ++ r) = prodP l * prodP r := by
  induction l with
  | nil => show prodP r = 1 * prodP r; omega
  | cons x l ih => show _ * prodP (l ++ r) = _ * prodP l * prodP r; rw [ih, Int.mul_assoc]
theorem prodS_app (l r : List (Int × Nat)) : prodS (l ++ r) = prodS l * prodS r := by
  induction l with
  | nil => show prodS r = 1 * prodS r; omega
  | cons x l ih => show _ * prodS (l ++ r) = _ * prodS l * prodS r; rw [ih, Int.mul_assoc]
theorem Tr.prod {n d : Int} {l : List (Int × Nat)} (h : Tr n d l) : 2 ≤ d → 0 < n → prodP l = n ∧ ∀ x ∈ l, 2 ≤ x.1 := by
  induction h with
  | @done n d h1 =>
    intro hd hn
    by_cases c : 1 < n
    · rw [if_pos c]
      refine ⟨by show n ^ 1 * 1 = n; rw [Int.pow_succ, Int.pow_zero]; omega, fun x hx => ?_⟩
      rw [List.mem_singleton.mp hx]; exact c
    · rw [if_neg c]
      exact ⟨by show (1 : Int) = n; omega, fun x hx => by cases hx⟩
  | @step n d m e l h1 h2 h3 _ ih =>
    intro hd hn
    have hp : 0 < d ^ e := Int.pow_pos (by omega)
    have hm : 0 < m := by
      rcases Int.lt_or_le 0 m with c | c
      · exact c
      · have := Int.mul_le_mul_of_nonneg_right c (show 0 ≤ d ^ e by omega)
        omega
    obtain ⟨i1, i2⟩ := ih (by have := nxd_ge (d := d); omega) hm
    refine ⟨by show d ^ e * prodP l = n; rw [i1, h2, Int.mul_comm], fun x hx => ?_⟩
    rcases List.mem_cons.mp hx with rfl | hx
    · exact hd
    · exact i2 x hx
def realP (x : Int × Nat) : Bool := decide (0 < x.2)
theorem real_prod (l : List (Int × Nat)) : prodP (l.filter realP) = prodP l ∧ prodS (l.filter realP) = prodS l := by
  induction l with
  | nil => exact ⟨rfl, rfl⟩
  | cons x l ih =>
    obtain ⟨p, e⟩ := x
    rcases Nat.eq_zero_or_pos e with z | z
    · subst z
      rw [List.filter_cons_of_neg (by simp [realP])]
      refine ⟨?_, ?_⟩
      · show _ = p ^ 0 * prodP l; rw [Int.pow_zero, Int.one_mul]; exact ih.1
      · show _ = geo p 0 * prodS l; rw [show geo p 0 = 1 from rfl, Int.one_mul]; exact ih.2
    · rw [List.filter_cons_of_pos (by simp [realP, z])]
      refine ⟨?_, ?_⟩
      · show p ^ e * prodP _ = p ^ e * prodP l; rw [ih.1]
      · show geo p e * prodS _ = geo p e * prodS l; rw [ih.2]
/-- the sum of the divisors -/
noncomputable def sig (n : Int) : Int := open Classical in if h : ∃ l, Tr n 2 l then prodS (choose h) else 0
theorem sig_eq {n : Int} {l : List (Int × Nat)} (h : Tr n 2 l) : sig n = prodS l := by
  have hx : ∃ l, Tr n 2 l := ⟨l, h⟩
  unfold sig
  rw [dif_pos hx, (Classical.choose_spec hx).det (by decide) h]
/-- the factors of n: primes and exponents -/
def FL (n : Int) (l : List (Int × Nat)) : Prop := (∀ x ∈ l, 2 ≤ x.1 ∧ 1 ≤ x.2) ∧ prodP l = n ∧ prodS l = sig n
theorem FL.mk' {n : Int} {l : List (Int × Nat)} (hn : 0 < n) (h : Tr n 2 l) : FL n (l.filter realP) := by
  obtain ⟨h1, h2⟩ := h.prod (by decide) hn
  obtain ⟨h3, h4⟩ := real_prod l
  refine ⟨fun x hx => ?_, by rw [h3, h1], by rw [h4, sig_eq h]⟩
  obtain ⟨hx1, hx2⟩ := List.mem_filter.mp hx
  have := of_decide_eq_true hx2
  exact ⟨h2 x hx1, by omega⟩
/-- one turn more -/
theorem tr_turn {n m m' d : Int} {e : Nat} {pre : List (Int × Nat)} (h : ∀ l, Tr m d l → Tr n 2 (pre ++ l)) (h1 : d * d ≤ m) (h2 : m = m' * d ^ e) (h3 : m' % d ≠ 0) : ∀ l, Tr m' (nxd d) l → Tr n 2 ((pre ++ [(d, e)]) ++ l) := fun l g => by
  have := h _ (.step h1 h2 h3 g)
  rwa [List.append_assoc]
/-- one division more -/
theorem div_turn {m m' d : Int} {e : Nat} (hd : 2 ≤ d) (hm : 0 < m') (h : m = m' * d ^ e) (hz : m' % d = 0) : m = m' / d * d ^ (e + 1) ∧ 0 < m' / d ∧ m' / d < m' := by
  have h1 := Int.emod_add_mul_ediv m' d
  have h2 : m' / d < m' := Int.ediv_lt_of_lt_mul (by omega) (by have := Int.mul_le_mul_of_nonneg_left (show 2 ≤ d by omega) (show 0 ≤ m' by omega); omega)
  have h3 : 0 < m' / d := by
    rcases Int.lt_or_le 0 (m' / d) with c | c
    · exact c
    · have := Int.mul_le_mul_of_nonneg_left c (show 0 ≤ d by omega)
      omega
  refine ⟨?_, h3, h2⟩
  rw [Int.pow_succ]
  have e1 : m' / d * (d ^ e * d) = d * (m' / d) * d ^ e := by grind
  rw [e1, show d * (m' / d) = m' by omega]
  exact h
theorem pow_le_of {m m' d : Int} {e : Nat} (hd : 2 ≤ d) (hm : 0 < m') (h : m = m' * d ^ e) : 1 ≤ d ^ e ∧ d ^ e ≤ m := by
  have hp : 0 < d ^ e := Int.pow_pos (by omega)
  have := Int.mul_le_mul_of_nonneg_right (show 1 ≤ m' by omega) (show 0 ≤ d ^ e by omega)
  omega

-- uses: trial
/-! ### the law's factors: trial division by every integer from 2 on -/
def stripC : Nat → Int → Int → Nat → Int × Nat
  | 0, n, _, e => (n, e)
  | F + 1, n, p, e => if n % p = 0 then stripC F (n / p) p (e + 1) else (n, e)
def facGo : Nat → Int → Int → List (Int × Nat)
  | 0, n, _ => if 1 < n then [(n, 1)] else []
  | F + 1, n, p => if p * p ≤ n then (if 0 < (stripC n.toNat n p 0).2 then [(p, (stripC n.toNat n p 0).2)] else []) ++ facGo F (stripC n.toNat n p 0).1 (p + 1) else if 1 < n then [(n, 1)] else []
def facL (n : Int) : List (Int × Nat) := facGo (n.toNat + 2) n 2
theorem stripC_end {G : Nat} {n p : Int} {e : Nat} (h : n % p ≠ 0) : stripC G n p e = (n, e) := by
  cases G with
  | zero => rfl
  | succ G => unfold stripC; rw [if_neg h]
theorem stripC_go {G : Nat} {n p : Int} {e : Nat} (h : n % p = 0) : stripC (G + 1) n p e = stripC G (n / p) p (e + 1) := by
  show (if n % p = 0 then _ else _) = _; rw [if_pos h]
theorem facGo_end {F : Nat} {n p : Int} (h : ¬ p * p ≤ n) : facGo F n p = if 1 < n then [(n, 1)] else [] := by
  cases F with
  | zero => rfl
  | succ F => unfold facGo; rw [if_neg h]
theorem facGo_go {F : Nat} {n p m : Int} {e : Nat} (h : p * p ≤ n) (hs : stripC n.toNat n p 0 = (m, e)) : facGo (F + 1) n p = (if 0 < e then [(p, e)] else []) ++ facGo F m (p + 1) := by
  show (if p * p ≤ n then _ else _) = _; rw [if_pos h, hs]

/-! ### small primes -/
def primeI (n : Int) : Bool := decide (1 < n) && (List.range n.toNat).all fun d => decide (d < 2) || decide (n.toNat % d ≠ 0)
theorem primeI_un {p : Int} (h : primeI p = true) : 2 ≤ p ∧ ∀ d : Nat, 2 ≤ d → (d : Int) < p → ¬ d ∣ p.toNat := by
  unfold primeI at h
  rw [Bool.and_eq_true, decide_eq_true_iff, List.all_eq_true] at h
  refine ⟨by omega, fun d d2 dp hd => ?_⟩
  have := h.2 d (List.mem_range.mpr (by omega))
  rw [Bool.or_eq_true, decide_eq_true_iff, decide_eq_true_iff] at this
  rcases this with z | z
  · omega
  · exact z (Nat.mod_eq_zero_of_dvd hd)
theorem prime_gcd {p b : Int} (hp : primeI p = true) (hb : b % p ≠ 0) : Int.gcd b p = 1 := by
  obtain ⟨p2, h⟩ := primeI_un hp
  have hd := Int.gcd_dvd_right b p
  have hdb := Int.gcd_dvd_left b p
  have hdn : Int.gcd b p ∣ p.toNat := by
    have : (Int.gcd b p : Int) ∣ ((p.toNat : Nat) : Int) := by rwa [Int.toNat_of_nonneg (by omega)]
    exact Int.natCast_dvd_natCast.mp this
  have hle := Nat.le_of_dvd (by omega) hdn
  have hpos := Int.gcd_pos_of_ne_zero_right b (show p ≠ 0 by omega)
  rcases (by omega : Int.gcd b p = 1 ∨ (2 ≤ Int.gcd b p ∧ (Int.gcd b p : Int) < p) ∨ (Int.gcd b p : Int) = p) with c | c | c
  · exact c
  · exact absurd hdn (h _ c.1 c.2)
  · rw [c] at hdb
    exact absurd (Int.emod_eq_zero_of_dvd hdb) hb
/-- Bezout -/
theorem bez : ∀ (a b : Nat), ∃ x y : Int, (a : Int) * x + (b : Int) * y = (Nat.gcd a b : Nat) := by
  intro a b
  induction a, b using Nat.gcd.induction with
  | H0 b => exact ⟨0, 1, by simp⟩
  | H1 a b ha ih =>
    obtain ⟨x, y, h⟩ := ih
    refine ⟨y - (b / a : Nat) * x, x, ?_⟩
    rw [Nat.gcd_rec]
    have e : (b : Int) = (b % a : Nat) + (a : Int) * (b / a : Nat) := by
      have := Nat.mod_add_div b a
      exact_mod_cast this.symm
    rw [← h]
    generalize ((b % a : Nat) : Int) = r at *
    generalize ((b / a : Nat) : Int) = q at *
    rw [e]
    grind
theorem inv_ex {p b : Int} (p0 : 0 < p) (h : Int.gcd b p = 1) : ∃ x : Int, (b * x) % p = 1 % p := by
  obtain ⟨x, y, e⟩ := bez b.natAbs p.natAbs
  have hg : Nat.gcd b.natAbs p.natAbs = 1 := h
  rw [hg] at e
  have hp : ((p.natAbs : Nat) : Int) = p := by omega
  rw [hp] at e
  rcases Int.natAbs_eq b with hb | hb
  · refine ⟨x, ?_⟩
    rw [hb, show (b.natAbs : Int) * x = 1 + p * (-y) by grind, Int.add_mul_emod_self_left]
  · refine ⟨-x, ?_⟩
    rw [hb, show -(b.natAbs : Int) * -x = 1 + p * (-y) by grind, Int.add_mul_emod_self_left]

-- uses: facw primew
def facP (n : Int) : Bool := decide (1 < n) && (facL n == [(n, 1)])
theorem stripC_ge : ∀ (G : Nat) (n p : Int) (e : Nat), e ≤ (stripC G n p e).2
  | 0, n, p, e => Nat.le_refl _
  | G + 1, n, p, e => by
    unfold stripC
    split
    · have := stripC_ge G (n / p) p (e + 1); omega
    · exact Nat.le_refl _
theorem primeI_mk {n : Int} (h1 : 1 < n) (h : ∀ k : Int, 2 ≤ k → k < n → ¬ k ∣ n) : primeI n = true := by
  unfold primeI
  rw [Bool.and_eq_true, decide_eq_true_iff, List.all_eq_true]
  refine ⟨h1, fun d hd => ?_⟩
  have hd := List.mem_range.mp hd
  rw [Bool.or_eq_true, decide_eq_true_iff, decide_eq_true_iff]
  rcases (by omega : d < 2 ∨ 2 ≤ d) with c | c
  · exact .inl c
  · refine .inr fun z => h d (by omega) (by omega) ?_
    have := Int.natCast_dvd_natCast.mpr (Nat.dvd_of_mod_eq_zero z)
    rwa [Int.toNat_of_nonneg (by omega)] at this
theorem primeI_ndv {p : Int} (hp : primeI p = true) {d : Int} (d2 : 2 ≤ d) (dp : d < p) : ¬ d ∣ p := fun h => by
  obtain ⟨p2, hu⟩ := primeI_un hp
  refine hu d.toNat (by omega) (by omega) ?_
  have e1 : ((d.toNat : Nat) : Int) = d := Int.toNat_of_nonneg (by omega)
  have e2 : ((p.toNat : Nat) : Int) = p := Int.toNat_of_nonneg (by omega)
  rw [← Int.natCast_dvd_natCast, e1, e2]; exact h
theorem facGo_pr {q : Int} (hq : primeI q = true) : ∀ (F : Nat) (p : Int), 2 ≤ p → facGo F q p = [(q, 1)]
  | 0, p, _ => by
    have := (primeI_un hq).1
    unfold facGo; rw [if_pos (by omega)]
  | F + 1, p, h => by
    have q2 := (primeI_un hq).1
    by_cases c : p * p ≤ q
    · have pq : p < q := by
        have := Int.mul_le_mul_of_nonneg_right h (show 0 ≤ p by omega)
        omega
      have hs : stripC q.toNat q p 0 = (q, 0) := stripC_end fun z => primeI_ndv hq h pq (Int.dvd_of_emod_eq_zero z)
      rw [facGo_go c hs, if_neg (by omega), List.nil_append]
      exact facGo_pr hq F (p + 1) (by omega)
    · rw [facGo_end c, if_pos (by omega)]
theorem facGo_un {n : Int} (n1 : 1 < n) : ∀ (F : Nat) (p : Int), 2 ≤ p → (n + 1 - p).toNat < F → facGo F n p = [(n, 1)] → (∀ k : Int, 2 ≤ k → k < p → ¬ k ∣ n) → ∀ k : Int, 2 ≤ k → k < n → ¬ k ∣ n
  | 0, p, _, h, _, _ => by omega
  | F + 1, p, h2, hF, h, hn => by
    by_cases c : p * p ≤ n
    · have pq : p < n := by
        have := Int.mul_le_mul_of_nonneg_right h2 (show 0 ≤ p by omega)
        omega
      by_cases z : n % p = 0
      · exfalso
        obtain ⟨G, hG⟩ : ∃ G, n.toNat = G + 1 := ⟨n.toNat - 1, by omega⟩
        have h1 := stripC_ge G (n / p) p (0 + 1)
        rw [← stripC_go z, ← hG] at h1
        cases hs : stripC n.toNat n p 0 with
        | mk m e =>
          rw [hs] at h1
          rw [facGo_go c hs, if_pos (by show 0 < e; exact h1)] at h
          injection h with h3 h4
          injection h3 with h5 h6
          omega
      · rw [facGo_go c (stripC_end z), if_neg (by omega), List.nil_append] at h
        refine facGo_un n1 F (p + 1) (by omega) (by omega) h fun k k2 kp => ?_
        rcases (by omega : k < p ∨ k = p) with y | y
        · exact hn k k2 y
        · subst y; exact fun w => z (Int.emod_eq_zero_of_dvd w)
    · intro k k2 kn hk
      obtain ⟨j, hj⟩ := hk
      have j0 : 0 < j := by
        rcases Int.lt_or_le 0 j with y | y
        · exact y
        · have := Int.mul_le_mul_of_nonneg_left y (show 0 ≤ k by omega); omega
      have j2 : 2 ≤ j := by
        rcases (by omega : j = 1 ∨ 2 ≤ j) with y | y
        · subst y; omega
        · exact y
      have kp : p ≤ k := by
        rcases Int.lt_or_le k p with y | y
        · exact absurd ⟨j, hj⟩ (hn k k2 y)
        · exact y
      have jp : p ≤ j := by
        rcases Int.lt_or_le j p with y | y
        · exact absurd ⟨k, by rw [hj, Int.mul_comm]⟩ (hn j j2 y)
        · exact y
      have := Int.mul_le_mul kp jp (by omega) (by omega)
      omega
theorem facP_all (n : Int) : facP n = primeI n := by
  rw [Bool.eq_iff_iff]
  unfold facP
  rw [Bool.and_eq_true, decide_eq_true_iff, beq_iff_eq]
  constructor
  · rintro ⟨h1, h2⟩
    unfold facL at h2
    exact primeI_mk h1 (facGo_un h1 _ 2 (by omega) (by omega) h2 fun k k2 kp => by omega)
  · intro h
    have := (primeI_un h).1
    exact ⟨by omega, facGo_pr h _ 2 (by omega)⟩

-- uses: primew
theorem dvd_of_gcd1 {a b c : Int} (h : a ∣ b * c) (hg : Int.gcd a b = 1) : a ∣ c := by
  have h1 : a.natAbs ∣ b.natAbs * c.natAbs := by rw [← Int.natAbs_mul]; exact Int.natAbs_dvd_natAbs.mpr h
  exact Int.natAbs_dvd_natAbs.mp (Nat.Coprime.dvd_of_dvd_mul_left (show Nat.Coprime a.natAbs b.natAbs from hg) h1)

-- uses: facp gcd1
/-! ### Fermat's little theorem -/
theorem perm_sub : ∀ {l r : List Int}, l.Nodup → (∀ x ∈ l, x ∈ r) → r.length ≤ l.length → l.Perm r
  | [], r, _, _, h => by
    have : r = [] := List.eq_nil_of_length_eq_zero (by simpa using h)
    rw [this]
  | x :: l, r, hn, hs, h => by
    have hx := hs x (List.mem_cons_self ..)
    have hp := List.perm_cons_erase hx
    have hn2 := List.nodup_cons.mp hn
    refine (List.Perm.cons x (perm_sub hn2.2 (fun y hy => ?_) ?_)).trans hp.symm
    · exact (List.mem_erase_of_ne (fun z => hn2.1 (by rw [← z]; exact hy))).mpr (hs y (List.mem_cons_of_mem _ hy))
    · have := List.length_erase_of_mem hx
      rw [List.length_cons] at h
      omega
def prodL : List Int → Int
  | [] => 1
  | x :: l => x * prodL l
theorem prodL_perm {l r : List Int} (h : l.Perm r) : prodL l = prodL r := by
  induction h with
  | nil => rfl
  | cons x _ ih => show x * _ = x * _; rw [ih]
  | swap x y l => show y * (x * _) = x * (y * _); grind
  | trans _ _ h1 h2 => exact h1.trans h2
theorem prodL_mod (a p : Int) : ∀ l : List Int, prodL (l.map fun k => a * k % p) % p = a ^ l.length * prodL l % p
  | [] => by
    show (1 : Int) % p = a ^ 0 * 1 % p
    rw [Int.pow_zero, Int.mul_one]
  | x :: l => by
    show a * x % p * prodL (l.map fun k => a * k % p) % p = a ^ (l.length + 1) * (x * prodL l) % p
    rw [Int.mul_emod, Int.emod_emod, prodL_mod a p l, ← Int.mul_emod, Int.pow_succ]
    congr 1
    grind
theorem prime_mul {p a b : Int} (hp : primeI p = true) (h : p ∣ a * b) : p ∣ a ∨ p ∣ b := by
  by_cases c : a % p = 0
  · exact .inl (Int.dvd_of_emod_eq_zero c)
  · exact .inr (dvd_of_gcd1 h (by rw [Int.gcd_comm]; exact prime_gcd hp c))
theorem prime_prodL {p : Int} (hp : primeI p = true) : ∀ l : List Int, (∀ x ∈ l, ¬ p ∣ x) → ¬ p ∣ prodL l
  | [], _, h => by
    have := Int.le_of_dvd (by decide) (show p ∣ 1 from h)
    have := (primeI_un hp).1
    omega
  | x :: l, hl, h => by
    rcases prime_mul hp (show p ∣ x * prodL l from h) with c | c
    · exact hl x (List.mem_cons_self ..) c
    · exact prime_prodL hp l (fun y hy => hl y (List.mem_cons_of_mem _ hy)) c
def unitL (n : Nat) : List Int := (List.range n).map fun k : Nat => (k : Int) + 1
theorem mem_unitL {n : Nat} {x : Int} : x ∈ unitL n ↔ 1 ≤ x ∧ x ≤ n := by
  unfold unitL
  rw [List.mem_map]
  constructor
  · rintro ⟨k, hk, rfl⟩
    have := List.mem_range.mp hk
    omega
  · rintro ⟨h1, h2⟩
    exact ⟨(x - 1).toNat, List.mem_range.mpr (by omega), by omega⟩
theorem nodup_map {f : Int → Int} : ∀ {l : List Int}, l.Nodup → (∀ x ∈ l, ∀ y ∈ l, f x = f y → x = y) → (l.map f).Nodup
  | [], _, _ => List.nodup_nil
  | x :: l, h, hf => by
    have h2 := List.nodup_cons.mp h
    rw [List.map_cons]
    refine List.nodup_cons.mpr ⟨fun hx => ?_, nodup_map h2.2 fun y hy z hz => hf y (List.mem_cons_of_mem _ hy) z (List.mem_cons_of_mem _ hz)⟩
    obtain ⟨y, hy, e⟩ := List.mem_map.mp hx
    have := hf y (List.mem_cons_of_mem _ hy) x (List.mem_cons_self ..) e
    exact h2.1 (this ▸ hy)
theorem nodup_unitL : ∀ n : Nat, (unitL n).Nodup
  | 0 => List.nodup_nil
  | n + 1 => by
    have e : unitL (n + 1) = unitL n ++ [(n : Int) + 1] := by unfold unitL; rw [List.range_succ, List.map_append]; rfl
    rw [e, List.nodup_append]
    refine ⟨nodup_unitL n, by simp, fun a ha b hb => ?_⟩
    have := mem_unitL.mp ha
    rw [List.mem_singleton.mp hb]
    omega
theorem fermat {p a : Int} (hp : primeI p = true) (ha : a % p ≠ 0) : a ^ (p - 1).toNat % p = 1 := by
  have p2 := (primeI_un hp).1
  have key : ∀ x : Int, 1 ≤ x → x ≤ p - 1 → ¬ p ∣ x := fun x h1 h2 h => by
    have := Int.le_of_dvd (by omega) h; omega
  have nda : ¬ p ∣ a := fun h => ha (Int.emod_eq_zero_of_dvd h)
  generalize hn : (p - 1).toNat = n
  have hpn : p - 1 = n := by omega
  have inj : ∀ x ∈ unitL n, ∀ y ∈ unitL n, a * x % p = a * y % p → x = y := fun x hx y hy e => by
    have hx := mem_unitL.mp hx
    have hy := mem_unitL.mp hy
    have h1 : p ∣ a * (x - y) := by
      rw [Int.mul_sub]
      exact Int.dvd_of_emod_eq_zero (Int.emod_eq_emod_iff_emod_sub_eq_zero.mp e)
    rcases prime_mul hp h1 with c | c
    · exact absurd c nda
    · obtain ⟨k, hk⟩ := c
      rcases Int.lt_trichotomy k 0 with z | z | z
      · have := Int.mul_le_mul_of_nonneg_left (show k ≤ -1 by omega) (show 0 ≤ p by omega); omega
      · subst z; omega
      · have := Int.mul_le_mul_of_nonneg_left (show 1 ≤ k by omega) (show 0 ≤ p by omega); omega
  have hperm : ((unitL n).map fun k => a * k % p).Perm (unitL n) := by
    refine perm_sub (nodup_map (nodup_unitL n) inj) (fun x hx => ?_) (by rw [List.length_map]; exact Nat.le_refl _)
    obtain ⟨y, hy, rfl⟩ := List.mem_map.mp hx
    have hy := mem_unitL.mp hy
    have h0 := Int.emod_nonneg (a * y) (show p ≠ 0 by omega)
    have h1 := Int.emod_lt_of_pos (a * y) (show 0 < p by omega)
    refine mem_unitL.mpr ⟨?_, by omega⟩
    rcases (by omega : a * y % p = 0 ∨ 1 ≤ a * y % p) with c | c
    · rcases prime_mul hp (Int.dvd_of_emod_eq_zero c) with d | d
      · exact absurd d nda
      · exact absurd d (key y hy.1 (by omega))
    · exact c
  have e := prodL_mod a p (unitL n)
  rw [prodL_perm hperm] at e
  have hlen : (unitL n).length = n := by unfold unitL; rw [List.length_map, List.length_range]
  rw [hlen] at e
  have hP := prime_prodL hp (unitL n) fun x hx => by
    have := mem_unitL.mp hx
    exact key x this.1 (by omega)
  have h1 : p ∣ (a ^ n - 1) * prodL (unitL n) := by
    rw [Int.sub_mul, Int.one_mul]
    exact Int.dvd_of_emod_eq_zero (Int.emod_eq_emod_iff_emod_sub_eq_zero.mp e.symm)
  rcases prime_mul hp h1 with c | c
  · have := Int.emod_eq_emod_iff_emod_sub_eq_zero.mpr (Int.emod_eq_zero_of_dvd c)
    rw [this, Int.emod_eq_of_lt (by decide) (by omega)]
  · exact absurd c hP

-- uses: fermat
/-! ### remainders of powers -/
@[irreducible] def pwm (b e m : Int) : Int := b ^ e.toNat % m
theorem pwm_bd {b e m : Int} (hm : 0 < m) : 0 ≤ pwm b e m ∧ pwm b e m < m := by
  unfold pwm
  exact ⟨Int.emod_nonneg _ (by omega), Int.emod_lt_of_pos _ hm⟩
theorem pow_mod (a m : Int) : ∀ n : Nat, (a % m) ^ n % m = a ^ n % m
  | 0 => by rw [Int.pow_zero, Int.pow_zero]
  | n + 1 => by rw [Int.pow_succ, Int.pow_succ, Int.mul_emod, Int.emod_emod, pow_mod a m n, ← Int.mul_emod]
/-- what is left to do in the loop -/
def PwI (f w e b E m : Int) : Prop := (0 ≤ f ∧ f < m) ∧ (0 ≤ w ∧ w < m) ∧ 0 ≤ e ∧ f * w ^ e.toNat % m = pwm b E m
theorem PwI.start {b E m : Int} (hm : 0 < m) (hE : 0 ≤ E) : PwI (1 % m) (b % m) E b E m := by
  refine ⟨⟨Int.emod_nonneg _ (by omega), Int.emod_lt_of_pos _ hm⟩, ⟨Int.emod_nonneg _ (by omega), Int.emod_lt_of_pos _ hm⟩, hE, ?_⟩
  unfold pwm
  rw [Int.mul_emod, Int.emod_emod, pow_mod, ← Int.mul_emod, Int.one_mul]
theorem sq_pow (w : Int) (k : Nat) : w ^ (2 * k) = (w * w) ^ k := by
  induction k with
  | zero => rw [Nat.mul_zero, Int.pow_zero, Int.pow_zero]
  | succ k ih => rw [show 2 * (k + 1) = 2 * k + 1 + 1 by omega, Int.pow_succ, Int.pow_succ, ih, Int.pow_succ]; grind
theorem PwI.odd {f w e b E m : Int} (hm : 0 < m) (h : PwI f w e b E m) (he : e % 2 = 1) : PwI (f * w % m) (w * w % m) (e / 2) b E m := by
  obtain ⟨⟨h1, h2⟩, ⟨h3, h4⟩, h5, h6⟩ := h
  refine ⟨⟨Int.emod_nonneg _ (by omega), Int.emod_lt_of_pos _ hm⟩, ⟨Int.emod_nonneg _ (by omega), Int.emod_lt_of_pos _ hm⟩, by omega, ?_⟩
  rw [← h6, Int.mul_emod, Int.emod_emod, pow_mod, ← Int.mul_emod, ← sq_pow, show e.toNat = 2 * (e / 2).toNat + 1 by omega, Int.pow_succ]
  congr 1
  grind
theorem PwI.even {f w e b E m : Int} (hm : 0 < m) (h : PwI f w e b E m) (he : e % 2 ≠ 1) : PwI f (w * w % m) (e / 2) b E m := by
  obtain ⟨⟨h1, h2⟩, ⟨h3, h4⟩, h5, h6⟩ := h
  refine ⟨⟨h1, h2⟩, ⟨Int.emod_nonneg _ (by omega), Int.emod_lt_of_pos _ hm⟩, by omega, ?_⟩
  rw [← h6, Int.mul_emod, pow_mod, ← Int.mul_emod, ← sq_pow, show e.toNat = 2 * (e / 2).toNat by omega]
theorem PwI.end_ {f w b E m : Int} (h : PwI f w 0 b E m) : f = pwm b E m := by
  obtain ⟨⟨h1, h2⟩, _, _, h6⟩ := h
  rw [← h6]
  rw [show Int.toNat 0 = 0 from rfl, Int.pow_zero, Int.mul_one, Int.emod_eq_of_lt h1 h2]

-- uses: pwm
def W_remainder_power : Wt := fun rs C Q _ => match rs with
  | [.int b, .int e, .int m] => ((0 < m ∧ m ≤ 1000000000) ∧ (0 ≤ e ∧ e ≤ 1000000000000) ∧ 0 ≤ b ∧ b ≤ 1000000000) ∧ Q (.int (pwm b e m)) C
  | _ => False
def m_remainder_power (ex : Gm → MX) : MS :=
  (mSeq (mPar 3 4 (mCons (mOp oMod (mC (.int 1)) (mVar 2)) (mCons (mOp oMod (mVar 0) (mVar 2)) mNil)))
  (mSeq (mWhile (mVal (mOp oGt (mVar 1) (mC (.int 0)))) (mSeq (mIfS (mVal (mOp oEq (mOp oMod (mVar 1) (mC (.int 2))) (mC (.int 1)))) (mAsg (mOp oMod (mOp (oTimes false) (mVar 3) (mVar 4)) (mVar 2)) (gNm 3)) mNext)
  (mPar 4 1 (mCons (mOp oMod (mOp (oTimes false) (mVar 4) (mVar 4)) (mVar 2)) (mCons (mOp oDiv (mVar 1) (mC (.int 2))) mNil)))))
  (mRet (mVar 3))))
theorem kp_remainder_power : Keeps 5 m_remainder_power 3 W_remainder_power := by
  intro rs C Q E hl h
  unfold W_remainder_power at h
  split at h
  · rename_i b E0 m
    obtain ⟨⟨⟨m0, m1⟩, ⟨h1, h2⟩, b0, b1⟩, q⟩ := h
    walk_at "nb gt"
    refine while_of (fun s Γ C' => C' = C ∧ ∃ e f w : Int, e.toNat = s ∧ e ≤ 1000000000000 ∧ PwI f w e b E0 m ∧ Γ = [some (.int b), some (.int e), some (.int m), some (.int f), some (.int w)]) E0.toNat ⟨rfl, E0, _, _, rfl, h2, PwI.start m0 h1, rfl⟩ ?_
    rintro _ _ _ ⟨rfl, e, f, w, rfl, e9, hi, rfl⟩ K hK
    obtain ⟨⟨f0, f1⟩, ⟨w0, w1⟩, e0, _⟩ := id hi
    have l1 : Ln 40 f := Ln_mk (by omega)
    have l2 : Ln 40 w := Ln_mk (by omega)
    walk_at "nb gt"
    · rename_i c1 c2
      exact hK _ _ _ (by omega) ⟨rfl, e / 2, _, _, rfl, by omega, hi.odd m0 c2, rfl⟩
    · rename_i c1 c2
      exact hK _ _ _ (by omega) ⟨rfl, e / 2, _, _, rfl, by omega, hi.even m0 c2, rfl⟩
    · rename_i c1
      have : e = 0 := by omega
      subst this
      rw [hi.end_]
      exact end_l q
  · exact h.elim

-- uses: facp
/-- the least divisor from 2 on -/
def IsLd (n r : Int) : Prop := 2 ≤ r ∧ r ∣ n ∧ ∀ k : Int, 2 ≤ k → k < r → ¬ k ∣ n
theorem IsLd.uniq {n r s : Int} (h : IsLd n r) (g : IsLd n s) : r = s := by
  rcases Int.lt_trichotomy r s with c | c | c
  · exact absurd h.2.1 (g.2.2 r h.1 c)
  · exact c
  · exact absurd g.2.1 (h.2.2 s g.1 c)
theorem IsLd.prime {n r : Int} (n2 : 2 ≤ n) (h : IsLd n r) : decide (r = n) = primeI n := by
  have hle := Int.le_of_dvd (by omega) h.2.1
  rcases Int.lt_or_le r n with c | c
  · rw [decide_eq_false (by omega)]
    cases e : primeI n
    · rfl
    · exact absurd h.2.1 (primeI_ndv e h.1 c)
  · have : r = n := by omega
    subst this
    rw [decide_eq_true rfl, primeI_mk (by omega) h.2.2]
def W_least_divisor : Wt := fun rs C Q _ => match rs with
  | [.int n] => (2 ≤ n ∧ n ≤ 1000000007) ∧ ∀ r : Int, IsLd n r → Q (.int r) C
  | _ => False
def m_least_divisor (ex : Gm → MX) : MS :=
  (mSeq (mIfS (mVal (mOp oEq (mOp oMod (mVar 0) (mC (.int 2))) (mC (.int 0)))) (mRet (mC (.int 2))) mNext)
  (mSeq (mAsg (mC (.int 3)) (gNm 1))
  (mSeq (mWhile (mVal (mOp oLe (mOp (oTimes false) (mVar 1) (mVar 1)) (mVar 0))) (mSeq (mIfS (mVal (mOp oEq (mOp oMod (mVar 0) (mVar 1)) (mC (.int 0)))) (mRet (mVar 1)) mNext)
  (mAug 1 oAdd (mC (.int 2)))))
  (mRet (mVar 0)))))
theorem no_div_prime {n d : Int} (n2 : 2 ≤ n) (d2 : 2 ≤ d) (h : n < d * d) (hn : ∀ k : Int, 2 ≤ k → k < d → ¬ k ∣ n) : primeI n = true := by
  refine primeI_mk (by omega) fun k k2 kn hk => ?_
  obtain ⟨j, hj⟩ := hk
  have j0 : 0 < j := by
    rcases Int.lt_or_le 0 j with y | y
    · exact y
    · have := Int.mul_le_mul_of_nonneg_left y (show 0 ≤ k by omega); omega
  have j2 : 2 ≤ j := by
    rcases (by omega : j = 1 ∨ 2 ≤ j) with y | y
    · subst y; omega
    · exact y
  have kp : d ≤ k := by
    rcases Int.lt_or_le k d with y | y
    · exact absurd ⟨j, hj⟩ (hn k k2 y)
    · exact y
  have jp : d ≤ j := by
    rcases Int.lt_or_le j d with y | y
    · exact absurd ⟨k, by rw [hj, Int.mul_comm]⟩ (hn j j2 y)
    · exact y
  have := Int.mul_le_mul kp jp (by omega) (by omega)
  omega
theorem kp_least_divisor : Keeps 2 m_least_divisor 1 W_least_divisor := by
  intro rs C Q E hl h
  unfold W_least_divisor at h
  split at h
  · rename_i n
    obtain ⟨⟨h0, h1⟩, q⟩ := h
    walk_at "nb gt"
    · rename_i h2
      exact end_l (q 2 ⟨by decide, Int.dvd_of_emod_eq_zero h2, fun k a b => by omega⟩)
    · rename_i h2
      refine while_of (fun s Γ C' => C' = C ∧ ∃ d : Int, (n + 3 - d).toNat = s ∧ (3 ≤ d ∧ d ≤ 31700 ∧ d % 2 = 1) ∧ (∀ k : Int, 2 ≤ k → k < d → ¬ k ∣ n) ∧ Γ = [some (.int n), some (.int d)]) (n + 3 - 3).toNat ⟨rfl, 3, rfl, ⟨by omega, by omega, by omega⟩, fun k k2 k3 hk => ?_, rfl⟩ ?_
      · have : k = 2 := by omega
        subst this
        exact h2 (Int.emod_eq_zero_of_dvd hk)
      rintro _ _ _ ⟨rfl, d, rfl, ⟨d0, d1, d2⟩, hd, rfl⟩ K hK
      walk_at "nb gt"
      · rename_i c1 c2
        exact end_l (q d ⟨by omega, Int.dvd_of_emod_eq_zero c2, hd⟩)
      · rename_i c1 c2
        have d31 : d ≤ 31623 := by
          rcases Int.lt_or_le 31623 d with c | c
          · have := Int.mul_le_mul (show 31624 ≤ d by omega) (show 31624 ≤ d by omega) (by omega) (by omega)
            omega
          · exact c
        have dn : d ≤ n := by
          have := Int.mul_le_mul_of_nonneg_right (show 1 ≤ d by omega) (show 0 ≤ d by omega)
          omega
        refine hK _ _ _ (by omega) ⟨rfl, d + 2, rfl, ⟨by omega, by omega, by omega⟩, fun k k2 k3 hk => ?_, rfl⟩
        rcases (by omega : k < d ∨ k = d ∨ k = d + 1) with c | c | c
        · exact hd k k2 c hk
        · subst c; exact c2 (Int.emod_eq_zero_of_dvd hk)
        · refine h2 (Int.emod_eq_zero_of_dvd (Int.dvd_trans ?_ hk))
          exact Int.dvd_of_emod_eq_zero (by omega)
      · rename_i c1
        have hp := no_div_prime h0 (by omega) (by omega) hd
        exact end_l (q n ⟨h0, Int.dvd_refl n, fun k a b => primeI_ndv hp a b⟩)
  · exact h.elim

-- uses: least_divisor
def W_is_small_prime : Wt := fun rs C Q _ => match rs with
  | [.int n] => (n ≤ 1000000007 ∧ -1000000007 ≤ n) ∧ Q (.bl (primeI n)) C
  | _ => False
def m_is_small_prime (ex : Gm → MX) : MS :=
  (mRet (mAndE (mOp oGt (mVar 0) (mC (.int 1))) (mOp oEq (mCall W_least_divisor ex (mCons (mVar 0) mNil)) (mVar 0))))
theorem primeI_lo {n : Int} (h : n ≤ 1) : primeI n = false := by
  unfold primeI; rw [decide_eq_false (by omega)]; rfl
theorem kp_is_small_prime : Keeps 1 m_is_small_prime 1 W_is_small_prime := by
  intro rs C Q E hl h
  unfold W_is_small_prime at h
  split at h
  · rename_i n
    obtain ⟨⟨h0, h1⟩, q⟩ := h
    walk_at "nb gt"
    · rename_i c r hr
      have e : eqR (.int r) (.int n) = decide (r = n) := by
        show (r == n) = decide (r = n)
        rw [Bool.eq_iff_iff]; simp
      rw [e, hr.prime (by omega)]
      exact end_l q
    · rename_i c
      rw [primeI_lo (by omega)] at q
      exact end_l q
  · exact h.elim

/-- an int between the bounds, where they are not None -/
def intB (lo hi : R) : R → Bool
  | .int i => (match lo with | .int a => decide (a ≤ i) | _ => true) && (match hi with | .int b => decide (i ≤ b) | _ => true)
  | _ => false
def bdR : R → Bool
  | .non => true
  | .int _ => true
  | _ => false
def W_check_integer : Wt := fun rs C Q E => match rs with
  | [r, lo, hi] => (tyd C r = true ∧ bdR lo = true ∧ bdR hi = true) ∧ ifP (intB lo hi r) (Q .non C) (E "InvalidNumber" [("given", r)] C)
  | _ => False
def m_check_integer (ex : Gm → MX) : MS :=
  (mSeq (mIfS (mNotT (mTru (mCall W_is_integer ex (mCons (mVar 0) mNil)))) (mRaise "InvalidNumber" "given" ex (mVar 0)) mNext)
  (mIfS (mOrT (mAndT (mVal (mOp oIsNotN (mVar 1) (mC .non))) (mVal (mOp oLt (mVar 0) (mVar 1)))) (mAndT (mVal (mOp oIsNotN (mVar 2) (mC .non))) (mVal (mOp oGt (mVar 0) (mVar 2))))) (mRaise "InvalidNumber" "given" ex (mVar 0)) mNext))
theorem kp_check_integer : Keeps 3 m_check_integer 3 W_check_integer := by
  intro rs C Q E hl h
  unfold W_check_integer at h
  split at h
  · rename_i r lo hi
    obtain ⟨⟨h1, h2, h3⟩, q⟩ := h
    walk_at "nb ev"
    refine And.intro h1 ?_
    cases r with
    | int i =>
      cases lo with
      | non =>
        cases hi with
        | non => exact end_l q
        | int b =>
          simp only [intB, Bool.true_and, Bool.and_true] at q
          walk_at "nb gt"
          · rw [decide_eq_false (by omega)] at q; exact ex_l q
          · rw [decide_eq_true (by omega)] at q; exact end_l q
        | _ => cases h3
      | int a =>
        cases hi with
        | non =>
          simp only [intB, Bool.true_and, Bool.and_true] at q
          walk_at "nb gt"
          · rw [decide_eq_false (by omega)] at q; exact ex_l q
          · rw [decide_eq_true (by omega)] at q; exact end_l q
        | int b =>
          simp only [intB, Bool.true_and, Bool.and_true] at q
          walk_at "nb gt"
          · rw [decide_eq_false (show ¬ a ≤ i by omega)] at q; exact ex_l q
          · rw [decide_eq_true (show a ≤ i by omega), decide_eq_false (show ¬ i ≤ b by omega)] at q; exact ex_l q
          · rw [decide_eq_true (show a ≤ i by omega), decide_eq_true (show i ≤ b by omega)] at q; exact end_l q
        | _ => cases h3
      | _ => cases h2
    | _ => exact ex_l q
  · exact h.elim

-- uses: check_integer
theorem intB_un {lo hi : Int} {x : R} (h : intB (.int lo) (.int hi) x = true) : ∃ i, x = .int i ∧ lo ≤ i ∧ i ≤ hi := by
  cases x with
  | int i =>
    simp only [intB, Bool.and_eq_true, decide_eq_true_eq] at h
    exact ⟨i, rfl, h.1, h.2⟩
  | _ => cases h

-- uses: check_integer intbun
def odB : R → Bool
  | .int i => decide (5 ≤ i) && decide (i ≤ 1000000000) && decide (i % 2 = 1)
  | _ => false
def W_check_odd : Wt := fun rs C Q E => match rs with
  | [x] => tyd C x = true ∧ ifP (odB x) (Q .non C) (E "InvalidNumber" [("given", x)] C)
  | _ => False
def m_check_odd (ex : Gm → MX) : MS :=
  (mSeq (mDrop (mCall W_check_integer ex (mCons (mVar 0) (mCons (mC (.int 5)) (mCons (mC (.int 1000000000)) mNil)))))
  (mIfS (mVal (mOp oEq (mOp oMod (mVar 0) (mC (.int 2))) (mC (.int 0)))) (mRaise "InvalidNumber" "given" ex (mVar 0)) mNext))
theorem odB_un {x : R} (h : odB x = true) : ∃ n, x = .int n ∧ 5 ≤ n ∧ n ≤ 1000000000 ∧ n % 2 = 1 := by
  cases x with
  | int i =>
    simp only [odB, Bool.and_eq_true, decide_eq_true_eq] at h
    exact ⟨i, rfl, h.1.1, h.1.2, h.2⟩
  | _ => cases h
theorem odB_mk {n : Int} (h1 : 5 ≤ n) (h2 : n ≤ 1000000000) (h3 : n % 2 = 1) : odB (.int n) = true := by simp [odB, h1, h2, h3]
theorem kp_check_odd : Keeps 1 m_check_odd 1 W_check_odd := by
  intro rs C Q E hl h
  unfold W_check_odd at h
  split at h
  · rename_i x
    obtain ⟨h1, q⟩ := h
    walk_at "nb gt"
    cases e : intB (.int 5) (.int 1000000000) x
    · have e2 : odB x = false := by
        cases c : odB x
        · rfl
        · obtain ⟨n, rfl, a, b, _⟩ := odB_un c
          simp [intB, a, b] at e
      rw [e2] at q
      refine And.intro ⟨h1, rfl, rfl⟩ ?_
      walk_at "nb gt"
      exact ex_l q
    · obtain ⟨n, rfl, n1, n2⟩ := intB_un e
      walk_at "nb gt"
      · rename_i c
        rw [show odB (.int n) = false by simp [odB, c]] at q
        exact ex_l q
      · rename_i c
        rw [odB_mk n1 n2 (by omega)] at q
        exact end_l q
  · exact h.elim

def W_check_base : Wt := fun rs C Q E => match rs with
  | [.int n, b] => (n ≤ 1000000000 ∧ tyd C b = true) ∧ ifP (btw 2 (n - 2) b) (Q .non C) (E "InvalidBase" [("given", b)] C)
  | _ => False
def m_check_base (ex : Gm → MX) : MS :=
  (mIfS (mNotT (mTru (mCall W_is_between ex (mCons (mVar 1) (mCons (mC (.int 2)) (mCons (mOp oSub (mVar 0) (mC (.int 2))) mNil)))))) (mRaise "InvalidBase" "given" ex (mVar 1)) mNext)
theorem kp_check_base : Keeps 2 m_check_base 2 W_check_base := by
  intro rs C Q E hl h
  unfold W_check_base at h
  split at h
  · rename_i n b
    obtain ⟨⟨h0, h1⟩, q⟩ := h
    walk_at "nb gt"
    cases e : btw 2 (n - 2) b <;> rw [e] at q
    · walk_at "nb gt"
      exact ex_l q
    · walk_at "nb gt"
      exact end_l q
  · exact h.elim

-- uses: check_odd check_base remainder_power
/-- a function of an odd integer and a base -/
@[irreducible] def PfA (x y : R) (Q : Int → Int → Prop) (E F : R → Prop) : Prop := ifP (odB x) (∀ n, x = .int n → 5 ≤ n → n ≤ 1000000000 → n % 2 = 1 → ifP (btw 2 (n - 2) y) (∀ b, y = .int b → 2 ≤ b → b ≤ n - 2 → Q n b) (F y)) (E x)
theorem btw_un {lo hi : Int} {x : R} (h : btw lo hi x = true) : ∃ i, x = .int i ∧ lo ≤ i ∧ i ≤ hi := by
  cases x with
  | int i =>
    simp only [btw, Bool.and_eq_true, decide_eq_true_eq] at h
    exact ⟨i, rfl, h.1, h.2⟩
  | _ => cases h
theorem PfA_mono {x y : R} {Q Q' : Int → Int → Prop} {E E' F F' : R → Prop} (h : PfA x y Q E F) (q : ∀ n b, Q n b → Q' n b) (e : E x → E' x) (f : F y → F' y) : PfA x y Q' E' F' := by
  unfold PfA at *
  cases c : odB x <;> rw [c] at h
  · exact e h
  · intro n h1 h2 h3 h4
    have h := h n h1 h2 h3 h4
    cases c2 : btw 2 (n - 2) y <;> rw [c2] at h
    · exact f h
    · exact fun b g1 g2 g3 => q n b (h b g1 g2 g3)
theorem PfA_ok {n b : Int} {Q : Int → Int → Prop} {E F : R → Prop} (h1 : 5 ≤ n) (h2 : n ≤ 1000000000) (h3 : n % 2 = 1) (b1 : 2 ≤ b) (b2 : b ≤ n - 2) (q : Q n b) : PfA (.int n) (.int b) Q E F := by
  unfold PfA
  rw [odB_mk h1 h2 h3]
  intro m e _ _ _
  cases e
  rw [show btw 2 (n - 2) (.int b) = true by simp [btw, b1, b2]]
  intro c e _ _
  cases e
  exact q
theorem PfA_no {x y : R} {Q : Int → Int → Prop} {E F : R → Prop} (h : odB x = false) (q : E x) : PfA x y Q E F := by
  unfold PfA; rw [h]; exact q
theorem PfA_nob {n : Int} {y : R} {Q : Int → Int → Prop} {E F : R → Prop} (h1 : 5 ≤ n) (h2 : n ≤ 1000000000) (h3 : n % 2 = 1) (h : btw 2 (n - 2) y = false) (q : F y) : PfA (.int n) y Q E F := by
  unfold PfA
  rw [odB_mk h1 h2 h3]
  intro m e _ _ _
  cases e
  rw [h]; exact q
def W_passes_fermat : Wt := fun rs C Q E => match rs with
  | [x, y] => (tyd C x = true ∧ tyd C y = true) ∧ PfA x y (fun n b => Q (.bl (decide (pwm b (n - 1) n = 1))) C) (fun v => E "InvalidNumber" [("given", v)] C) (fun v => E "InvalidBase" [("given", v)] C)
  | _ => False
def m_passes_fermat (ex : Gm → MX) : MS :=
  (mSeq (mDrop (mCall W_check_odd ex (mCons (mVar 0) mNil)))
  (mSeq (mDrop (mCall W_check_base ex (mCons (mVar 0) (mCons (mVar 1) mNil))))
  (mRet (mOp oEq (mCall W_remainder_power ex (mCons (mVar 1) (mCons (mOp oSub (mVar 0) (mC (.int 1))) (mCons (mVar 0) mNil)))) (mC (.int 1))))))
theorem kp_passes_fermat : Keeps 2 m_passes_fermat 2 W_passes_fermat := by
  intro rs C Q E hl h
  unfold W_passes_fermat at h
  split at h
  · rename_i x y
    obtain ⟨⟨h1, h2⟩, q⟩ := h
    unfold PfA at q
    walk_at "nb gt"
    cases c : odB x <;> rw [c] at q
    · walk_at "nb gt"
      exact ex_l q
    · obtain ⟨n, rfl, n1, n2, n3⟩ := odB_un c
      have q := q n rfl n1 n2 n3
      walk_at "nb gt"
      cases c2 : btw 2 (n - 2) y <;> rw [c2] at q
      · walk_at "nb gt"
        exact ex_l q
      · obtain ⟨b, rfl, b1, b2⟩ := btw_un c2
        have q := q b rfl b1 b2
        walk_at "nb gt"
        exact end_l q
  · exact h.elim

-- uses: facp trial
/-! ### the law's factors are right -/
theorem no_div_primeF {n d : Int} (n2 : 2 ≤ n) (d2 : 2 ≤ d) (h : n < d * d) (hn : ∀ k : Int, 2 ≤ k → k < d → ¬ k ∣ n) : primeI n = true := by
  refine primeI_mk (by omega) fun k k2 kn hk => ?_
  obtain ⟨j, hj⟩ := hk
  have j0 : 0 < j := by
    rcases Int.lt_or_le 0 j with y | y
    · exact y
    · have := Int.mul_le_mul_of_nonneg_left y (show 0 ≤ k by omega); omega
  have j2 : 2 ≤ j := by
    rcases (by omega : j = 1 ∨ 2 ≤ j) with y | y
    · subst y; omega
    · exact y
  have kp : d ≤ k := by
    rcases Int.lt_or_le k d with y | y
    · exact absurd ⟨j, hj⟩ (hn k k2 y)
    · exact y
  have jp : d ≤ j := by
    rcases Int.lt_or_le j d with y | y
    · exact absurd ⟨k, by rw [hj, Int.mul_comm]⟩ (hn j j2 y)
    · exact y
  have := Int.mul_le_mul kp jp (by omega) (by omega)
  omega
theorem stripC_ok {p : Int} (hp : 2 ≤ p) : ∀ (G : Nat) (n : Int) (e0 : Nat), 0 < n → n.toNat ≤ G → ∃ k, (stripC G n p e0).2 = e0 + k ∧ n = (stripC G n p e0).1 * p ^ k ∧ (stripC G n p e0).1 % p ≠ 0 ∧ 0 < (stripC G n p e0).1 ∧ (stripC G n p e0).1 ≤ n
  | 0, n, e0, h0, h => by omega
  | G + 1, n, e0, h0, h => by
    by_cases c : n % p = 0
    · rw [stripC_go c]
      obtain ⟨t1, t2, t3⟩ := div_turn (m := n * p ^ 0) (m' := n) (e := 0) hp h0 rfl c
      obtain ⟨k, h1, h2, h3, h4, h5⟩ := stripC_ok hp G (n / p) (e0 + 1) t2 (by omega)
      refine ⟨k + 1, by omega, ?_, h3, h4, by omega⟩
      have e1 := Int.emod_add_mul_ediv n p
      rw [Int.pow_succ, ← Int.mul_assoc, ← h2, Int.mul_comm]; omega
    · rw [stripC_end c]
      exact ⟨0, rfl, by rw [Int.pow_zero, Int.mul_one], c, h0, Int.le_refl _⟩
/-- a list of primes with exponents, ascending from p on, with a product -/
def FacOk (l : List (Int × Nat)) (n p : Int) : Prop := prodP l = n ∧ (∀ x ∈ l, primeI x.1 = true ∧ 1 ≤ x.2 ∧ p ≤ x.1) ∧ l.Pairwise fun x y => x.1 < y.1
theorem facGo_ok : ∀ (F : Nat) (n p : Int), 0 < n → 2 ≤ p → (n + 1 - p).toNat < F → (∀ k : Int, 2 ≤ k → k < p → ¬ k ∣ n) → FacOk (facGo F n p) n p
  | 0, n, p, _, _, h, _ => by omega
  | F + 1, n, p, n0, p2, hF, hn => by
    by_cases c : p * p ≤ n
    · have hpn : p ≤ n := by
        have := Int.mul_le_mul_of_nonneg_right (show 1 ≤ p by omega) (show 0 ≤ p by omega); omega
      obtain ⟨k, h1, h2, h3, h4, h5⟩ := stripC_ok p2 n.toNat n 0 n0 (Nat.le_refl _)
      cases hs : stripC n.toNat n p 0 with
      | mk m e =>
        rw [hs] at h1 h2 h3 h4 h5
        have h1 : e = 0 + k := h1
        have h2 : n = m * p ^ k := h2
        have h3 : m % p ≠ 0 := h3
        have h4 : 0 < m := h4
        have h5 : m ≤ n := h5
        have e1 : e = k := by omega
        subst e1
        rw [facGo_go c hs]
        obtain ⟨i1, i2, i3⟩ := facGo_ok F m (p + 1) h4 (by omega) (by omega) (fun j j2 jp hj => by
          rcases (by omega : j < p ∨ j = p) with y | y
          · exact hn j j2 y (by rw [h2]; exact Int.dvd_mul_of_dvd_left hj)
          · subst y; exact h3 (Int.emod_eq_zero_of_dvd hj))
        by_cases z : 0 < e
        · rw [if_pos z]
          obtain ⟨e', rfl⟩ : ∃ e', e = e' + 1 := ⟨e - 1, by omega⟩
          have hpd : p ∣ n := ⟨m * p ^ e', by rw [h2, Int.pow_succ]; grind⟩
          have hpp : primeI p = true := primeI_mk (by omega) fun j j2 jp hj => hn j j2 jp (Int.dvd_trans hj hpd)
          refine ⟨?_, ?_, ?_⟩
          · show p ^ (e' + 1) * prodP (facGo F m (p + 1)) = n
            rw [i1, h2, Int.mul_comm]
          · intro x hx
            rcases List.mem_cons.mp hx with rfl | hx
            · exact ⟨hpp, by show 1 ≤ e' + 1; omega, Int.le_refl _⟩
            · obtain ⟨a, b, d⟩ := i2 x hx
              exact ⟨a, b, by omega⟩
          · refine List.Pairwise.cons (fun x hx => ?_) i3
            obtain ⟨a, b, d⟩ := i2 x hx
            show p < x.1
            omega
        · rw [if_neg z, List.nil_append]
          have z0 : e = 0 := by omega
          subst z0
          rw [Int.pow_zero, Int.mul_one] at h2
          subst h2
          exact ⟨i1, fun x hx => by obtain ⟨a, b, d⟩ := i2 x hx; exact ⟨a, b, by omega⟩, i3⟩
    · rw [facGo_end c]
      by_cases c1 : 1 < n
      · rw [if_pos c1]
        refine ⟨by show n ^ 1 * 1 = n; rw [Int.pow_succ, Int.pow_zero]; omega, fun x hx => ?_, List.pairwise_singleton ..⟩
        rw [List.mem_singleton.mp hx]
        refine ⟨no_div_primeF (by omega) p2 (by omega) hn, Nat.le_refl _, ?_⟩
        rcases Int.lt_or_le n p with y | y
        · exact absurd (Int.dvd_refl n) (hn n (by omega) y)
        · exact y
      · rw [if_neg c1]
        exact ⟨by show (1 : Int) = n; omega, fun x hx => (by cases hx), List.Pairwise.nil⟩
theorem facL_ok {n : Int} (h : 0 < n) : FacOk (facL n) n 2 := facGo_ok _ n 2 h (by decide) (by omega) fun k k2 kp => by omega

-- uses: trial
abbrev peR (x : Int × Nat) : R := .tup [.int x.1, .int x.2]
theorem okL_peR {n : Nat} : ∀ {l : List (Int × Nat)}, okL n (l.map peR)
  | [] => trivial
  | x :: l => ⟨⟨trivial, trivial, trivial⟩, okL_peR (l := l)⟩

-- uses: trial per gcd1
/-! ### traces of a product of two primes -/
def FLT (n : Int) (l : List (Int × Nat)) : Prop := ∃ l0, Tr n 2 l0 ∧ l = l0.filter realP
theorem FLT.det {n : Int} {l l' : List (Int × Nat)} (h : FLT n l) (g : FLT n l') : l = l' := by
  obtain ⟨a, ha, rfl⟩ := h
  obtain ⟨b, hb, rfl⟩ := g
  rw [ha.det (by decide) hb]
theorem mul_pow0 {n m d : Int} {e : Nat} (h : n = m * d ^ e) (hd : ¬ d ∣ n) : e = 0 ∧ m = n := by
  cases e with
  | zero => rw [Int.pow_zero, Int.mul_one] at h; exact ⟨rfl, h.symm⟩
  | succ e => exact absurd ⟨m * d ^ e, by rw [h, Int.pow_succ]; grind⟩ hd
theorem primeI_nd {p : Int} (hp : primeI p = true) {d : Int} (d2 : 2 ≤ d) (dp : d < p) : ¬ d ∣ p := fun h => by
  obtain ⟨p2, hu⟩ := primeI_un hp
  refine hu d.toNat (by omega) (by omega) ?_
  have e1 : ((d.toNat : Nat) : Int) = d := Int.toNat_of_nonneg (by omega)
  have e2 : ((p.toNat : Nat) : Int) = p := Int.toNat_of_nonneg (by omega)
  rw [← Int.natCast_dvd_natCast, e1, e2]; exact h
theorem tr_prime {q d : Int} {l : List (Int × Nat)} (hq : primeI q = true) (h : Tr q d l) (d2 : 2 ≤ d) : l.filter realP = [(q, 1)] := by
  have q2 := (primeI_un hq).1
  generalize hn : q = n at h
  induction h with
  | @done n d h1 => subst hn; rw [if_pos (by omega)]; rfl
  | @step n d m e l h1 h2 h3 _ ih =>
    subst hn
    have dq : d < q := by
      have := Int.mul_le_mul_of_nonneg_right d2 (show 0 ≤ d by omega)
      omega
    obtain ⟨rfl, rfl⟩ := mul_pow0 h2 (primeI_nd hq d2 dq)
    rw [List.filter_cons_of_neg (by simp [realP])]
    exact ih (by have := nxd_ge (d := d); omega) rfl
theorem not_dvd_mul {p q d : Int} (hp : primeI p = true) (hq : primeI q = true) (d2 : 2 ≤ d) (dp : d < p) (pq : p ≤ q) : ¬ d ∣ p * q := fun h => by
  have h1 : Int.gcd d p = 1 := prime_gcd hp (fun z => by
    have := Int.le_of_dvd (by omega) (Int.dvd_of_emod_eq_zero z)
    omega)
  have h2 : d ∣ q := by
    have e : Int.gcd d p = 1 := h1
    exact dvd_of_gcd1 h e
  exact primeI_nd hq d2 (by omega) h2
theorem tr_two {p q d : Int} {l : List (Int × Nat)} (hp : primeI p = true) (hq : primeI q = true) (pq : p < q) (h : Tr (p * q) d l) (d2 : 2 ≤ d) (dp : d ≤ p) (ho : d = 2 ∨ d % 2 = 1) : l.filter realP = [(p, 1), (q, 1)] := by
  have p2 := (primeI_un hp).1
  generalize hn : p * q = n at h
  induction h with
  | @done n d h1 =>
    subst hn
    have := Int.mul_le_mul dp (show d ≤ q by omega) (by omega) (by omega)
    omega
  | @step n d m e l h1 h2 h3 h4 ih =>
    subst hn
    rcases (by omega : d < p ∨ d = p) with c | c
    · obtain ⟨rfl, rfl⟩ := mul_pow0 h2 (not_dvd_mul hp hq d2 c (by omega))
      rw [List.filter_cons_of_neg (by simp [realP])]
      refine ih (by have := nxd_ge (d := d); omega) ?_ ?_ rfl
      · unfold nxd
        split
        · omega
        · rcases (by omega : d + 2 ≤ p ∨ p = d + 1) with z | z
          · exact z
          · exfalso
            rcases ho with y | y
            · omega
            · exact primeI_nd hp (d := 2) (by decide) (by omega) (Int.dvd_of_emod_eq_zero (by omega))
      · unfold nxd
        split <;> omega
    · subst c
      have hqp : q % d ≠ 0 := fun z => by
        have := Int.dvd_of_emod_eq_zero z
        exact primeI_nd hq d2 pq this
      obtain ⟨rfl, rfl⟩ := mult_uniq d2 (show q * d ^ 1 = m * d ^ e by rw [← h2, Int.pow_succ, Int.pow_zero]; grind) hqp h3
      rw [List.filter_cons_of_pos (by simp [realP])]
      rw [tr_prime hq h4 (by have := nxd_ge (d := d); omega)]
theorem FLT.two {p q : Int} {l : List (Int × Nat)} (hp : primeI p = true) (hq : primeI q = true) (pq : p < q) (h : FLT (p * q) l) : l = [(p, 1), (q, 1)] := by
  obtain ⟨a, ha, rfl⟩ := h
  exact tr_two hp hq pq ha (by decide) (primeI_un hp).1 (.inl rfl)
/-- the trace, computed -/
def strip2 : Nat → Int → Int → Nat → Int × Nat
  | 0, n, _, e => (n, e)
  | F + 1, n, p, e => if n % p = 0 then strip2 F (n / p) p (e + 1) else (n, e)
def trGo : Nat → Int → Int → Option (List (Int × Nat))
  | 0, _, _ => none
  | F + 1, n, d => if n < d * d then some (if 1 < n then [(n, 1)] else []) else
    let r := strip2 40 n d 0
    if r.1 % d ≠ 0 ∧ n = r.1 * d ^ r.2 then (trGo F r.1 (nxd d)).map ((d, r.2) :: ·) else none
theorem trGo_tr : ∀ {F : Nat} {n d : Int} {l : List (Int × Nat)}, trGo F n d = some l → Tr n d l
  | 0, _, _, _, h => by cases h
  | F + 1, n, d, l, h => by
    unfold trGo at h
    split at h
    · rename_i c
      cases h
      exact .done c
    · rename_i c
      simp only at h
      split at h
      · rename_i c2
        cases e : trGo F (strip2 40 n d 0).1 (nxd d) with
        | none => rw [e] at h; cases h
        | some l2 =>
          rw [e] at h
          cases h
          exact .step (by omega) c2.2 c2.1 (trGo_tr e)
      · cases h
theorem FLT.of {n : Int} {l l0 : List (Int × Nat)} (F : Nat) (h : trGo F n 2 = some l0) (g : FLT n l) : l = l0.filter realP := by
  obtain ⟨a, ha, rfl⟩ := g
  rw [ha.det (by decide) (trGo_tr h)]
theorem prodP_len : ∀ {l : List (Int × Nat)}, (∀ x ∈ l, 2 ≤ x.1 ∧ 1 ≤ x.2) → (l.length : Int) < prodP l
  | [], _ => by decide
  | x :: l, h => by
    obtain ⟨h1, h2⟩ := h x (List.mem_cons_self ..)
    have ih := prodP_len (l := l) fun y hy => h y (List.mem_cons_of_mem _ hy)
    obtain ⟨e, he⟩ : ∃ e, x.2 = e + 1 := ⟨x.2 - 1, by omega⟩
    have hp : 0 < x.1 ^ e := Int.pow_pos (by omega)
    have h3 : 2 ≤ x.1 ^ x.2 := by
      rw [he, Int.pow_succ]
      have := Int.mul_le_mul (show 1 ≤ x.1 ^ e by omega) h1 (by omega) (by omega)
      omega
    have h4 := Int.mul_le_mul h3 (show (l.length : Int) + 1 ≤ prodP l by omega) (by omega) (by omega)
    show ((l.length + 1 : Nat) : Int) < x.1 ^ x.2 * prodP l
    omega
theorem FLT.len {n : Int} {l : List (Int × Nat)} (hn : 0 < n) (h : FLT n l) : (l.length : Int) < n := by
  obtain ⟨a, ha, rfl⟩ := h
  obtain ⟨h1, h2⟩ := ha.prod (by decide) hn
  obtain ⟨h3, _⟩ := real_prod a
  rw [← h1, ← h3]
  refine prodP_len fun x hx => ?_
  obtain ⟨hx1, hx2⟩ := List.mem_filter.mp hx
  have := of_decide_eq_true hx2
  exact ⟨h2 x hx1, by omega⟩
theorem strip_ex {d : Int} (hd : 2 ≤ d) : ∀ (k : Nat) (n : Int), n.toNat ≤ k → 0 < n → ∃ (m : Int) (e : Nat), n = m * d ^ e ∧ m % d ≠ 0 ∧ 0 < m ∧ m ≤ n
  | 0, n, h, h0 => by omega
  | k + 1, n, h, h0 => by
    by_cases c : n % d = 0
    · obtain ⟨t1, t2, t3⟩ := div_turn (m := n * d ^ 0) (m' := n) (e := 0) hd h0 rfl c
      obtain ⟨m, e, h1, h2, h3, h4⟩ := strip_ex hd k (n / d) (by omega) t2
      refine ⟨m, e + 1, ?_, h2, h3, by omega⟩
      have e1 := Int.emod_add_mul_ediv n d
      rw [Int.pow_succ, ← Int.mul_assoc, ← h1]
      rw [Int.mul_comm]; omega
    · exact ⟨n, 0, by rw [Int.pow_zero, Int.mul_one], c, h0, Int.le_refl _⟩
theorem tr_ex : ∀ (k : Nat) (n d : Int), (n + 1 - d).toNat ≤ k → 0 < n → 2 ≤ d → ∃ l, Tr n d l
  | k, n, d, h, h0, hd => by
    by_cases c : n < d * d
    · exact ⟨_, .done c⟩
    · have hdn : d ≤ n := by
        have := Int.mul_le_mul_of_nonneg_right (show 1 ≤ d by omega) (show 0 ≤ d by omega)
        omega
      match k, h with
      | 0, h => omega
      | k + 1, h =>
        obtain ⟨m, e, h1, h2, h3, h4⟩ := strip_ex hd n.toNat n (Nat.le_refl _) h0
        have := nxd_ge (d := d)
        obtain ⟨l, hl⟩ := tr_ex k m (nxd d) (by omega) h3 (by omega)
        exact ⟨_, .step (by omega) h1 h2 hl⟩
theorem FLT.ex {n : Int} (h : 0 < n) : ∃ l, FLT n l := by
  obtain ⟨l, hl⟩ := tr_ex _ n 2 (Nat.le_refl _) h (by decide)
  exact ⟨_, l, hl, rfl⟩

-- uses: trial facl_ok gcd1 primew
/-! ### the list of divisors is whole -/
theorem tr_facok {n d : Int} {l : List (Int × Nat)} (h : Tr n d l) : 0 < n → (d = 2 ∨ (3 ≤ d ∧ d % 2 = 1)) → (∀ k : Int, 2 ≤ k → k < d → ¬ k ∣ n) → FacOk (l.filter realP) n d := by
  induction h with
  | @done n d h1 =>
    intro n0 hd hn
    by_cases c : 1 < n
    · rw [if_pos c, show [(n, 1)].filter realP = [(n, 1)] from rfl]
      refine ⟨by show n ^ 1 * 1 = n; rw [Int.pow_succ, Int.pow_zero]; omega, fun x hx => ?_, List.pairwise_singleton ..⟩
      rw [List.mem_singleton.mp hx]
      refine ⟨no_div_primeF (by omega) (by omega) h1 hn, Nat.le_refl _, ?_⟩
      rcases Int.lt_or_le n d with y | y
      · exact absurd (Int.dvd_refl n) (hn n (by omega) y)
      · exact y
    · rw [if_neg c]
      exact ⟨by show (1 : Int) = n; omega, fun x hx => (by cases hx), List.Pairwise.nil⟩
  | @step n d m e l h1 h2 h3 h4 ih =>
    intro n0 hd hn
    have d2 : 2 ≤ d := by omega
    have pp : 0 < d ^ e := Int.pow_pos (by omega)
    have m0 : 0 < m := by
      rcases Int.lt_or_le 0 m with y | y
      · exact y
      · have := Int.mul_le_mul_of_nonneg_right y (show 0 ≤ d ^ e by omega)
        omega
    have nd := nxd_ge (d := d)
    have mn : m ∣ n := ⟨d ^ e, h2⟩
    have hm : ∀ k : Int, 2 ≤ k → k < nxd d → ¬ k ∣ m := fun k k2 kd hk => by
      rcases (by omega : k < d ∨ k = d ∨ k = d + 1) with c | c | c
      · exact hn k k2 c (Int.dvd_trans hk mn)
      · subst c; exact h3 (Int.emod_eq_zero_of_dvd hk)
      · subst c
        rcases hd with rfl | ⟨_, ho⟩
        · unfold nxd at kd; rw [if_pos rfl] at kd; omega
        · exact hn 2 (by omega) (by omega) (Int.dvd_trans (Int.dvd_trans ⟨(d + 1) / 2, by omega⟩ hk) mn)
    obtain ⟨i1, i2, i3⟩ := ih m0 (by
      unfold nxd
      rcases hd with rfl | ⟨_, ho⟩
      · right; rw [if_pos rfl]; decide
      · right; rw [if_neg (by omega)]; omega) hm
    rw [List.filter_cons]
    by_cases z : 0 < e
    · rw [if_pos (show realP (d, e) = true by simp [realP, z])]
      obtain ⟨e', rfl⟩ : ∃ e', e = e' + 1 := ⟨e - 1, by omega⟩
      have hpd : d ∣ n := ⟨m * d ^ e', by rw [h2, Int.pow_succ]; grind⟩
      have hpp : primeI d = true := primeI_mk (by omega) fun j j2 jp hj => hn j j2 jp (Int.dvd_trans hj hpd)
      refine ⟨?_, ?_, ?_⟩
      · show d ^ (e' + 1) * prodP (l.filter realP) = n
        rw [i1, h2, Int.mul_comm]
      · intro x hx
        rcases List.mem_cons.mp hx with rfl | hx
        · exact ⟨hpp, by show 1 ≤ e' + 1; omega, Int.le_refl _⟩
        · obtain ⟨a, b, c⟩ := i2 x hx
          exact ⟨a, b, by omega⟩
      · refine List.Pairwise.cons (fun x hx => ?_) i3
        obtain ⟨a, b, c⟩ := i2 x hx
        show d < x.1
        omega
    · rw [if_neg (show ¬ realP (d, e) = true by simp [realP]; omega)]
      have z0 : e = 0 := by omega
      subst z0
      rw [Int.pow_zero, Int.mul_one] at h2
      subst h2
      exact ⟨i1, fun x hx => by obtain ⟨a, b, c⟩ := i2 x hx; exact ⟨a, b, by omega⟩, i3⟩
theorem nd_pow {p q : Int} (hp : primeI p = true) (q0 : 0 < q) (hq : q < p) : ∀ k : Nat, ¬ p ∣ q ^ k
  | 0, h => by
    rw [Int.pow_zero] at h
    have := Int.le_of_dvd (by decide) h
    have := (primeI_un hp).1
    omega
  | k + 1, h => by
    rw [Int.pow_succ, Int.mul_comm] at h
    have g := prime_gcd (b := q) hp (by rw [Int.emod_eq_of_lt (by omega) hq]; omega)
    exact nd_pow hp q0 hq k (dvd_of_gcd1 h (by rw [Int.gcd_comm]; exact g))
theorem nd_prod {p : Int} (hp : primeI p = true) : ∀ l : List (Int × Nat), (∀ x ∈ l, primeI x.1 = true ∧ x.1 < p) → ¬ p ∣ prodP l
  | [], _, h => by
    have := Int.le_of_dvd (by decide) (show p ∣ 1 from h)
    have := (primeI_un hp).1
    omega
  | x :: l, hl, h => by
    have h : p ∣ x.1 ^ x.2 * prodP l := h
    obtain ⟨h1, h2⟩ := hl x (List.mem_cons_self ..)
    have x2 := (primeI_un h1).1
    have n1 := nd_pow hp (show 0 < x.1 by omega) h2 x.2
    have g := prime_gcd (b := x.1 ^ x.2) hp (fun z => n1 (Int.dvd_of_emod_eq_zero z))
    exact nd_prod hp l (fun y hy => hl y (List.mem_cons_of_mem _ hy)) (dvd_of_gcd1 h (by rw [Int.gcd_comm]; exact g))
theorem dvd_mul_pow {p P : Int} (hp : primeI p = true) : ∀ (e : Nat) (d : Int), d ∣ P * p ^ e → ∃ k, k ≤ e ∧ ∃ d', d = d' * p ^ k ∧ d' ∣ P
  | 0, d, h => ⟨0, Nat.le_refl _, d, by rw [Int.pow_zero, Int.mul_one], by rwa [Int.pow_zero, Int.mul_one] at h⟩
  | e + 1, d, h => by
    have p2 := (primeI_un hp).1
    by_cases c : d % p = 0
    · obtain ⟨d1, rfl⟩ := Int.dvd_of_emod_eq_zero c
      obtain ⟨z, hz⟩ := h
      have h1 : d1 ∣ P * p ^ e := by
        refine ⟨z, Int.eq_of_mul_eq_mul_left (show p ≠ 0 by omega) ?_⟩
        rw [Int.pow_succ] at hz
        have : p * (P * p ^ e) = P * (p ^ e * p) := by grind
        rw [this, hz]; grind
      obtain ⟨k, hk, d', e1, e2⟩ := dvd_mul_pow hp e d1 h1
      exact ⟨k + 1, by omega, d', by rw [e1, Int.pow_succ]; grind, e2⟩
    · have g := prime_gcd hp c
      have h1 : d ∣ P * p ^ e := by
        refine dvd_of_gcd1 (b := p) ?_ g
        rw [Int.pow_succ] at h
        have : p * (P * p ^ e) = P * (p ^ e * p) := by grind
        rw [this]; exact h
      obtain ⟨k, hk, d', e1, e2⟩ := dvd_mul_pow hp e d h1
      exact ⟨k, by omega, d', e1, e2⟩
def DvOk (ns : List Int) (P : Int) : Prop := ns.Nodup ∧ ∀ d, d ∈ ns ↔ 1 ≤ d ∧ d ∣ P
theorem asc_ext : ∀ {l r : List Int}, l.Pairwise (· < ·) → r.Pairwise (· < ·) → (∀ x, x ∈ l ↔ x ∈ r) → l = r
  | [], [], _, _, _ => rfl
  | [], y :: r, _, _, h => by have := (h y).mpr (List.mem_cons_self ..); cases this
  | x :: l, [], _, _, h => by have := (h x).mp (List.mem_cons_self ..); cases this
  | x :: l, y :: r, hl, hr, h => by
    obtain ⟨l1, l2⟩ := List.pairwise_cons.mp hl
    obtain ⟨r1, r2⟩ := List.pairwise_cons.mp hr
    have e : x = y := by
      have hx := (h x).mp (List.mem_cons_self ..)
      have hy := (h y).mpr (List.mem_cons_self ..)
      rcases List.mem_cons.mp hx with c | c
      · exact c
      · rcases List.mem_cons.mp hy with c2 | c2
        · exact c2.symm
        · have := l1 y c2
          have := r1 x c
          omega
    subst e
    refine congrArg _ (asc_ext l2 r2 fun z => ?_)
    constructor
    · intro hz
      rcases List.mem_cons.mp ((h z).mp (List.mem_cons_of_mem _ hz)) with c | c
      · subst c; have := l1 z hz; omega
      · exact c
    · intro hz
      rcases List.mem_cons.mp ((h z).mpr (List.mem_cons_of_mem _ hz)) with c | c
      · subst c; have := r1 z hz; omega
      · exact c

theorem one_le_pow {b : Int} (h : 1 ≤ b) : ∀ e : Nat, 1 ≤ b ^ e
  | 0 => by rw [Int.pow_zero]; omega
  | e + 1 => by
    have ih := one_le_pow h e
    have := Int.mul_le_mul h ih (by omega) (by omega)
    rw [Int.pow_succ, Int.mul_comm]; omega
theorem pow_mono {b : Int} (h : 1 ≤ b) {i j : Nat} (hij : i ≤ j) : b ^ i ≤ b ^ j := by
  obtain ⟨k, rfl⟩ : ∃ k, j = i + k := ⟨j - i, by omega⟩
  rw [Int.pow_add]
  have h1 := one_le_pow h k
  have h2 := one_le_pow h i
  have := Int.mul_le_mul_of_nonneg_left h1 (show 0 ≤ b ^ i by omega)
  omega

-- uses: trial2 facl_ok dvw facp power
theorem prodP_two : ∀ {l : List (Int × Nat)}, (∀ x ∈ l, 2 ≤ x.1 ∧ 1 ≤ x.2) → (2 : Int) ^ l.length ≤ prodP l
  | [], _ => by decide
  | x :: l, h => by
    obtain ⟨h1, h2⟩ := h x (List.mem_cons_self ..)
    have ih := prodP_two (l := l) fun y hy => h y (List.mem_cons_of_mem _ hy)
    obtain ⟨e, he⟩ : ∃ e, x.2 = e + 1 := ⟨x.2 - 1, by omega⟩
    have hp : 0 < x.1 ^ e := Int.pow_pos (by omega)
    have h3 : 2 ≤ x.1 ^ x.2 := by
      rw [he, Int.pow_succ]
      have := Int.mul_le_mul (show 1 ≤ x.1 ^ e by omega) h1 (by omega) (by omega)
      omega
    have p2 : (0 : Int) < 2 ^ l.length := Int.pow_pos (by decide)
    have h4 := Int.mul_le_mul h3 ih (by omega) (by omega)
    show (2 : Int) ^ (l.length + 1) ≤ x.1 ^ x.2 * prodP l
    rw [Int.pow_succ, Int.mul_comm]; exact h4
theorem FLT.short {n : Int} {l : List (Int × Nat)} (hn : 0 < n) (hm : n ≤ 1000000000) (h : FLT n l) : l.length ≤ 30 := by
  obtain ⟨a, ha, rfl⟩ := h
  obtain ⟨h1, h2⟩ := ha.prod (by decide) hn
  obtain ⟨h3, _⟩ := real_prod a
  have h4 := prodP_two (l := a.filter realP) fun x hx => by
    obtain ⟨hx1, hx2⟩ := List.mem_filter.mp hx
    have := of_decide_eq_true hx2
    exact ⟨h2 x hx1, by omega⟩
  rw [h3, h1] at h4
  rcases Nat.lt_or_ge 30 (a.filter realP).length with c | c
  · obtain ⟨j, hj⟩ : ∃ j, (a.filter realP).length = 31 + j := ⟨_, (Nat.add_sub_of_le c).symm⟩
    rw [hj, Int.pow_add] at h4
    have p2 : (0 : Int) < 2 ^ j := Int.pow_pos (by decide)
    have := Int.mul_le_mul_of_nonneg_left (show 1 ≤ (2 : Int) ^ j by omega) (show (0 : Int) ≤ 2 ^ 31 by decide)
    omega
  · exact c
theorem prodP_pos : ∀ {l : List (Int × Nat)}, (∀ x ∈ l, 2 ≤ x.1) → 1 ≤ prodP l
  | [], _ => by decide
  | x :: l, h => by
    have c := prodP_pos (l := l) fun y hy => h y (List.mem_cons_of_mem _ hy)
    have x2 := h x (List.mem_cons_self ..)
    have pp : 1 ≤ x.1 ^ x.2 := one_le_pow (by omega) _
    have := Int.mul_le_mul pp c (by decide) (by omega)
    show 1 ≤ _ * _; omega
theorem prodP_take {l : List (Int × Nat)} (h : ∀ x ∈ l, 2 ≤ x.1) (i : Nat) : prodP (l.take i) ≤ prodP l := by
  have e := prodP_app (l.take i) (l.drop i)
  rw [List.take_append_drop] at e
  have h1 := prodP_pos (l := l.take i) fun x hx => h x (List.mem_of_mem_take hx)
  have h2 := prodP_pos (l := l.drop i) fun x hx => h x (List.mem_of_mem_drop hx)
  have := Int.mul_le_mul_of_nonneg_left h2 (show 0 ≤ prodP (l.take i) by omega)
  omega
theorem FLT.facok {n : Int} {l : List (Int × Nat)} (h : FLT n l) (h0 : 0 < n) : FacOk l n 2 := by
  obtain ⟨a, ha, rfl⟩ := h
  exact tr_facok ha h0 (.inl rfl) (fun k k2 kd => by omega)
theorem FLT.pos {n : Int} {l : List (Int × Nat)} (h : FLT n l) (h0 : 0 < n) : prodP l = n ∧ ∀ x ∈ l, 2 ≤ x.1 := by
  obtain ⟨a, b, c⟩ := h.facok h0
  exact ⟨a, fun x hx => (b x hx).2.2⟩
theorem FLT.part {n : Int} {l : List (Int × Nat)} (h : FLT n l) (h0 : 0 < n) (i : Nat) : 1 ≤ prodP (l.take i) ∧ prodP (l.take i) ≤ n := by
  obtain ⟨a, b⟩ := h.pos h0
  have h1 := prodP_pos (l := l.take i) fun x hx => b x (List.mem_of_mem_take hx)
  have h3 := prodP_take b i
  omega
theorem FLT.pow {n : Int} {l : List (Int × Nat)} (h : FLT n l) (h0 : 0 < n) {x : Int × Nat} (hx : x ∈ l) : 2 ≤ x.1 ∧ 1 ≤ x.2 ∧ ∀ k, k ≤ x.2 → 1 ≤ x.1 ^ k ∧ x.1 ^ k ≤ n := by
  obtain ⟨a, b, c⟩ := h.facok h0
  obtain ⟨b1, b2, b3⟩ := b x hx
  have hp : ∀ x ∈ l, 2 ≤ x.1 := fun y hy => (b y hy).2.2
  refine ⟨b3, b2, fun k hk => ?_⟩
  have h1 := one_le_pow (show 1 ≤ x.1 by omega) k
  have h2 := pow_mono (show 1 ≤ x.1 by omega) hk
  obtain ⟨l1, l2, rfl⟩ := List.append_of_mem hx
  have e := prodP_app l1 (x :: l2)
  have e2 : prodP (x :: l2) = x.1 ^ x.2 * prodP l2 := rfl
  have p1 := prodP_pos (l := l1) fun y hy => hp y (by simp [hy])
  have p2 := prodP_pos (l := l2) fun y hy => hp y (by simp [hy])
  have h3 := Int.mul_le_mul_of_nonneg_left p2 (show 0 ≤ x.1 ^ x.2 by omega)
  have h4 := Int.mul_le_mul_of_nonneg_right p1 (show 0 ≤ prodP (x :: l2) by omega)
  exact ⟨h1, by omega⟩
theorem nd_ppow {p q : Int} (hp : primeI p = true) (hq : primeI q = true) (ne : p ≠ q) : ∀ k : Nat, ¬ p ∣ q ^ k
  | 0, h => by
    rw [Int.pow_zero] at h
    have := Int.le_of_dvd (by decide) h
    have := (primeI_un hp).1
    omega
  | k + 1, h => by
    rw [Int.pow_succ, Int.mul_comm] at h
    by_cases c : q % p = 0
    · have d := Int.dvd_of_emod_eq_zero c
      have p2 := (primeI_un hp).1
      have q2 := (primeI_un hq).1
      have le := Int.le_of_dvd (by omega) d
      exact primeI_ndv hq p2 (by omega) d
    · have g := prime_gcd (b := q) hp c
      exact nd_ppow hp hq ne k (dvd_of_gcd1 h (by rw [Int.gcd_comm]; exact g))
theorem nd_pprod {p : Int} (hp : primeI p = true) : ∀ l : List (Int × Nat), (∀ x ∈ l, primeI x.1 = true ∧ p ≠ x.1) → ¬ p ∣ prodP l
  | [], _, h => by
    have := Int.le_of_dvd (by decide) (show p ∣ 1 from h)
    have := (primeI_un hp).1
    omega
  | x :: l, hl, h => by
    obtain ⟨h1, h2⟩ := hl x (List.mem_cons_self ..)
    have h : p ∣ x.1 ^ x.2 * prodP l := h
    by_cases c : (x.1 ^ x.2) % p = 0
    · exact nd_ppow hp h1 h2 _ (Int.dvd_of_emod_eq_zero c)
    · have g := prime_gcd (b := x.1 ^ x.2) hp c
      exact nd_pprod hp l (fun y hy => hl y (List.mem_cons_of_mem _ hy)) (dvd_of_gcd1 h (by rw [Int.gcd_comm]; exact g))
theorem facok_uniq : ∀ {l r : List (Int × Nat)} {n p q : Int}, FacOk l n p → FacOk r n q → l = r
  | [], [], _, _, _, _, _ => rfl
  | [], y :: r, n, p, q, h, g => by
    exfalso
    have y1 := (g.2.1 y (List.mem_cons_self ..))
    have hd : y.1 ∣ prodP (y :: r) := ⟨y.1 ^ (y.2 - 1) * prodP r, by
      show y.1 ^ y.2 * prodP r = _
      obtain ⟨e, he⟩ : ∃ e, y.2 = e + 1 := ⟨y.2 - 1, by omega⟩
      rw [he, Int.pow_succ, Nat.add_sub_cancel]; grind⟩
    rw [g.1, ← h.1] at hd
    exact nd_pprod y1.1 [] (fun x hx => by cases hx) hd
  | x :: l, [], n, p, q, h, g => by
    exfalso
    have y1 := (h.2.1 x (List.mem_cons_self ..))
    have hd : x.1 ∣ prodP (x :: l) := ⟨x.1 ^ (x.2 - 1) * prodP l, by
      show x.1 ^ x.2 * prodP l = _
      obtain ⟨e, he⟩ : ∃ e, x.2 = e + 1 := ⟨x.2 - 1, by omega⟩
      rw [he, Int.pow_succ, Nat.add_sub_cancel]; grind⟩
    rw [h.1, ← g.1] at hd
    exact nd_pprod y1.1 [] (fun x hx => by cases hx) hd
  | x :: l, y :: r, n, p, q, h, g => by
    have x1 := (h.2.1 x (List.mem_cons_self ..))
    have y1 := (g.2.1 y (List.mem_cons_self ..))
    have hx := (List.pairwise_cons.mp h.2.2).1
    have hy := (List.pairwise_cons.mp g.2.2).1
    have dx : x.1 ∣ prodP (x :: l) := ⟨x.1 ^ (x.2 - 1) * prodP l, by
      show x.1 ^ x.2 * prodP l = _
      obtain ⟨e, he⟩ : ∃ e, x.2 = e + 1 := ⟨x.2 - 1, by omega⟩
      rw [he, Int.pow_succ, Nat.add_sub_cancel]; grind⟩
    have dy : y.1 ∣ prodP (y :: r) := ⟨y.1 ^ (y.2 - 1) * prodP r, by
      show y.1 ^ y.2 * prodP r = _
      obtain ⟨e, he⟩ : ∃ e, y.2 = e + 1 := ⟨y.2 - 1, by omega⟩
      rw [he, Int.pow_succ, Nat.add_sub_cancel]; grind⟩
    have xy : x.1 = y.1 := by
      rcases (by omega : x.1 < y.1 ∨ y.1 < x.1 ∨ x.1 = y.1) with c | c | c
      · exfalso
        rw [h.1, ← g.1] at dx
        refine nd_pprod x1.1 (y :: r) (fun z hz => ⟨(g.2.1 z hz).1, ?_⟩) dx
        rcases List.mem_cons.mp hz with rfl | hz
        · omega
        · have := hy z hz; omega
      · exfalso
        rw [g.1, ← h.1] at dy
        refine nd_pprod y1.1 (x :: l) (fun z hz => ⟨(h.2.1 z hz).1, ?_⟩) dy
        rcases List.mem_cons.mp hz with rfl | hz
        · omega
        · have := hx z hz; omega
      · exact c
    have nx : prodP l % x.1 ≠ 0 := fun z => nd_pprod x1.1 l (fun z hz => ⟨(h.2.1 z (List.mem_cons_of_mem _ hz)).1, by have := hx z hz; omega⟩) (Int.dvd_of_emod_eq_zero z)
    have ny : prodP r % x.1 ≠ 0 := fun z => nd_pprod x1.1 r (fun z hz => ⟨(g.2.1 z (List.mem_cons_of_mem _ hz)).1, by have := hy z hz; omega⟩) (Int.dvd_of_emod_eq_zero z)
    have e1 : prodP l * x.1 ^ x.2 = prodP r * x.1 ^ y.2 := by
      have a : x.1 ^ x.2 * prodP l = n := h.1
      have b : y.1 ^ y.2 * prodP r = n := g.1
      rw [← xy] at b
      rw [Int.mul_comm, a, Int.mul_comm, b]
    obtain ⟨e2, e3⟩ := mult_uniq (primeI_un x1.1).1 e1 nx ny
    have := facok_uniq (l := l) (r := r) (n := prodP l) (p := p) (q := q) ⟨rfl, fun z hz => h.2.1 z (List.mem_cons_of_mem _ hz), (List.pairwise_cons.mp h.2.2).2⟩ ⟨e3.symm, fun z hz => g.2.1 z (List.mem_cons_of_mem _ hz), (List.pairwise_cons.mp g.2.2).2⟩
    rw [this]
    congr 1
    exact Prod.ext xy e2
theorem facL_flt {n : Int} {l : List (Int × Nat)} (n0 : 0 < n) (h : FLT n l) : facL n = l := facok_uniq (facL_ok n0) (h.facok n0)
theorem flt_facL {n : Int} (n0 : 0 < n) : FLT n (facL n) := by
  obtain ⟨l, hl⟩ := tr_ex _ n 2 (Nat.le_refl _) n0 (by decide)
  have h : FLT n (l.filter realP) := ⟨l, hl, rfl⟩
  rwa [facL_flt n0 h]

-- uses: is_small_prime facl_ok fltw
/-! ### the primes around -/
def IsNx (n r : Int) : Prop := primeI r = true ∧ n < r ∧ ∀ k, n < k → k < r → primeI k = false
theorem IsNx.uniq {n r s : Int} (h : IsNx n r) (g : IsNx n s) : r = s := by
  rcases Int.lt_trichotomy r s with c | c | c
  · have := g.2.2 r h.2.1 c; rw [h.1] at this; cases this
  · exact c
  · have := h.2.2 s g.2.1 c; rw [g.1] at this; cases this
def IsPv (n : Int) (r : R) : Prop := (∃ p, r = .int p ∧ primeI p = true ∧ p < n ∧ ∀ k, p < k → k < n → primeI k = false) ∨ (r = .non ∧ ∀ k, k < n → primeI k = false)
theorem IsPv.uniq {n : Int} {r s : R} (h : IsPv n r) (g : IsPv n s) : r = s := by
  rcases h with ⟨p, rfl, h1, h2, h3⟩ | ⟨rfl, h⟩
  · rcases g with ⟨q, rfl, g1, g2, g3⟩ | ⟨rfl, g⟩
    · rcases Int.lt_trichotomy p q with c | c | c
      · have := h3 q c g2; rw [g1] at this; cases this
      · rw [c]
      · have := g3 p c h2; rw [h1] at this; cases this
    · have := g p h2; rw [h1] at this; cases this
  · rcases g with ⟨q, rfl, g1, g2, g3⟩ | ⟨rfl, g⟩
    · have := h q g2; rw [g1] at this; cases this
    · rfl
/-- trial division with few steps, for one great prime -/
def tdv (n : Nat) : Nat → Nat → Bool
  | 0, _ => true
  | f + 1, d => n % d != 0 && tdv n f (d + 1)
theorem tdv_at {n : Nat} : ∀ (f d : Nat), tdv n f d = true → ∀ k, d ≤ k → k < d + f → n % k ≠ 0
  | 0, d, _, k, h1, h2 => by omega
  | f + 1, d, h, k, h1, h2 => by
    rw [tdv, Bool.and_eq_true] at h
    rcases Nat.eq_or_lt_of_le h1 with c | c
    · subst c; simpa using h.1
    · exact tdv_at f (d + 1) h.2 k c (by omega)
theorem big_tdv : tdv 1000000007 31622 2 = true := by decide +kernel
theorem big_prime : primeI 1000000007 = true := by
  refine no_div_prime (d := 31624) (by decide) (by decide) (by decide) fun k k2 k3 hk => ?_
  have h := tdv_at 31622 2 big_tdv k.toNat (by omega) (by omega)
  apply h
  have h2 := Int.emod_eq_zero_of_dvd hk
  obtain ⟨m, rfl⟩ := Int.eq_ofNat_of_zero_le (show 0 ≤ k by omega)
  rw [Int.toNat_natCast]
  have h3 : (((1000000007 % m : Nat) : Int)) = 0 := by rw [Int.natCast_emod]; exact h2
  omega
theorem prime_dv : ∀ (m : Nat) (k : Int), 2 ≤ k → k.toNat ≤ m → ∃ q, primeI q = true ∧ q ∣ k ∧ q ≤ k
  | 0, k, h, hm => by omega
  | m + 1, k, h, hm => by
    cases e : primeI k
    · have : ¬ ∀ d : Int, 2 ≤ d → d < k → ¬ d ∣ k := fun g => by rw [primeI_mk (by omega) g] at e; cases e
      obtain ⟨d, hd⟩ := Classical.not_forall.mp this
      have hd := Classical.not_imp.mp hd
      have hd2 := Classical.not_imp.mp hd.2
      have hd3 := Classical.not_not.mp hd2.2
      obtain ⟨q, q1, q2, q3⟩ := prime_dv m d hd.1 (by omega)
      exact ⟨q, q1, Int.dvd_trans q2 hd3, by omega⟩
    · exact ⟨k, e, Int.dvd_refl k, Int.le_refl k⟩
theorem IsLd.of_flt {n : Int} {l : List (Int × Nat)} (n2 : 2 ≤ n) (h : FLT n l) : ∃ p e r, l = (p, e) :: r ∧ IsLd n p := by
  obtain ⟨h1, h2, h3⟩ := h.facok (by omega)
  cases l with
  | nil => exfalso; have : (1 : Int) = n := h1; omega
  | cons x r =>
    obtain ⟨p, e⟩ := x
    refine ⟨p, e, r, rfl, ?_, ?_, fun k k2 kp hk => ?_⟩
    · exact (h2 _ (List.mem_cons_self ..)).2.2
    · have he := (h2 _ (List.mem_cons_self ..)).2.1
      have h1 : p ^ e * prodP r = n := h1
      obtain ⟨f, rfl⟩ : ∃ f, e = f + 1 := ⟨e - 1, by have : 1 ≤ e := he; omega⟩
      rw [← h1, Int.pow_succ]
      exact ⟨p ^ f * prodP r, by grind⟩
    · obtain ⟨q, q1, q2, q3⟩ := prime_dv _ k k2 (Nat.le_refl _)
      refine nd_pprod q1 ((p, e) :: r) (fun x hx => ⟨(h2 x hx).1, ?_⟩) (by rw [h1]; exact Int.dvd_trans q2 hk)
      rcases List.mem_cons.mp hx with rfl | hx
      · show q ≠ p; omega
      · have : p < x.1 := (List.pairwise_cons.mp h3).1 x hx
        omega

-- uses: pwm primw
/-! ### the strong test -/
def StrP (n b : Int) (s D : Nat) : Prop := b ^ D % n = 1 ∨ ∃ i : Nat, i < s ∧ b ^ (2 ^ i * D) % n = n - 1
def Strong (n b : Int) : Prop := ∃ s D : Nat, D % 2 = 1 ∧ (n - 1).toNat = 2 ^ s * D ∧ StrP n b s D
theorem split_uniq : ∀ {s t D F : Nat}, D % 2 = 1 → F % 2 = 1 → 2 ^ s * D = 2 ^ t * F → s = t ∧ D = F
  | 0, 0, D, F, _, _, h => ⟨rfl, by simpa using h⟩
  | 0, t + 1, D, F, h1, _, h => by
    rw [Nat.pow_succ, show 2 ^ t * 2 * F = 2 * (2 ^ t * F) by grind] at h
    omega
  | s + 1, 0, D, F, _, h2, h => by
    rw [Nat.pow_succ, show 2 ^ s * 2 * D = 2 * (2 ^ s * D) by grind] at h
    omega
  | s + 1, t + 1, D, F, h1, h2, h => by
    rw [Nat.pow_succ, Nat.pow_succ, show 2 ^ s * 2 * D = 2 * (2 ^ s * D) by grind, show 2 ^ t * 2 * F = 2 * (2 ^ t * F) by grind] at h
    obtain ⟨a, b⟩ := split_uniq (s := s) (t := t) h1 h2 (by omega)
    exact ⟨by omega, b⟩
theorem Strong_iff {n b : Int} {s D : Nat} (h1 : D % 2 = 1) (h2 : (n - 1).toNat = 2 ^ s * D) : Strong n b ↔ StrP n b s D := by
  constructor
  · rintro ⟨t, F, g1, g2, g⟩
    obtain ⟨rfl, rfl⟩ := split_uniq h1 g1 (h2.symm.trans g2)
    exact g
  · exact fun g => ⟨s, D, h1, h2, g⟩
@[irreducible] noncomputable def strB (n b : Int) : Bool := @decide (Strong n b) (Classical.propDecidable _)
theorem strB_of {n b : Int} {r : Bool} (h : r = true ↔ Strong n b) : strB n b = r := by
  unfold strB
  cases r
  · exact @decide_eq_false _ (Classical.propDecidable _) fun z => by have := h.mpr z; cases this
  · exact @decide_eq_true _ (Classical.propDecidable _) (h.mp rfl)
theorem strB_un {n b : Int} : strB n b = true ↔ Strong n b := by
  unfold strB
  exact @decide_eq_true_iff _ (Classical.propDecidable _)
theorem neg_one_odd {D : Nat} (h : D % 2 = 1) : (-1 : Int) ^ D = -1 := by
  obtain ⟨k, rfl⟩ : ∃ k, D = 2 * k + 1 := ⟨D / 2, by omega⟩
  rw [Int.pow_succ, sq_pow, show (-1 : Int) * -1 = 1 by decide, Int.one_pow]; rfl
theorem pow_sq_mod (b n : Int) (i D : Nat) : b ^ (2 ^ (i + 1) * D) % n = (b ^ (2 ^ i * D) % n) * (b ^ (2 ^ i * D) % n) % n := by
  rw [← Int.mul_emod, ← Int.pow_add]
  congr 2
  rw [Nat.pow_succ]; grind
theorem pow_one_mod {b n : Int} (hn : 1 < n) {k : Nat} (h : b ^ k % n = 1) (j : Nat) : b ^ (j * k) % n = 1 := by
  induction j with
  | zero => rw [Nat.zero_mul, Int.pow_zero]; exact Int.emod_eq_of_lt (by decide) hn
  | succ j ih => rw [Nat.succ_mul, Int.pow_add, Int.mul_emod, ih, h]; exact Int.emod_eq_of_lt (by decide) hn
/-- what passes strongly passes -/
theorem Strong.fermat {n b : Int} (hn : 2 < n) (h : Strong n b) : b ^ (n - 1).toNat % n = 1 := by
  obtain ⟨s, D, h1, h2, h⟩ := h
  rw [h2]
  rcases h with h | ⟨i, hi, h⟩
  · exact pow_one_mod (by omega) h _
  · obtain ⟨j, rfl⟩ : ∃ j, s = j + (i + 1) := ⟨s - (i + 1), by omega⟩
    rw [Nat.pow_add, Nat.mul_assoc]
    refine pow_one_mod (by omega) ?_ _
    rw [pow_sq_mod, h, show (n - 1) * (n - 1) = 1 + n * (n - 2) by grind, Int.add_mul_emod_self_left]
    exact Int.emod_eq_of_lt (by decide) (by omega)
theorem mod_down {u n x r : Int} (hu : u ∣ n) (h : x % n = r) : x % u = r % u := by
  rw [← h, Int.emod_emod_of_dvd x hu]
/-- a product of two coprime parts -/
theorem wit_two {u v : Int} (hu : 3 ≤ u) (hv : 3 ≤ v) (hg : Int.gcd u v = 1) : ∃ b, 2 ≤ b ∧ b ≤ u * v - 2 ∧ ¬ Strong (u * v) b := by
  have uv : 9 ≤ u * v := Int.mul_le_mul hu hv (by omega) (by omega)
  obtain ⟨x, hx⟩ := inv_ex (p := v) (b := u) (by omega) hg
  have du : u ∣ u * v := Int.dvd_mul_right ..
  have dv : v ∣ u * v := Int.dvd_mul_left ..
  have b0 := Int.emod_nonneg (-1 + 2 * (u * x)) (show u * v ≠ 0 by omega)
  have b1 := Int.emod_lt_of_pos (-1 + 2 * (u * x)) (show 0 < u * v by omega)
  have eu : ((-1 + 2 * (u * x)) % (u * v)) % u = (-1) % u := by
    rw [Int.emod_emod_of_dvd _ du, show -1 + 2 * (u * x) = -1 + u * (2 * x) by grind, Int.add_mul_emod_self_left]
  have ev : ((-1 + 2 * (u * x)) % (u * v)) % v = 1 := by
    have e := Int.emod_add_mul_ediv (u * x) v
    rw [hx, Int.emod_eq_of_lt (by decide) (by omega)] at e
    rw [Int.emod_emod_of_dvd _ dv, show -1 + 2 * (u * x) = 1 + v * (2 * (u * x / v)) by grind, Int.add_mul_emod_self_left]
    exact Int.emod_eq_of_lt (by decide) (by omega)
  generalize (-1 + 2 * (u * x)) % (u * v) = b at *
  have m1 : (-1 : Int) % u = u - 1 := by
    rw [show (-1 : Int) = (u - 1) + u * (-1) by grind, Int.add_mul_emod_self_left]
    exact Int.emod_eq_of_lt (by omega) (by omega)
  refine ⟨b, ?_, ?_, ?_⟩
  · rcases (by omega : b = 0 ∨ b = 1 ∨ 2 ≤ b) with rfl | rfl | h
    · rw [Int.zero_emod] at ev; omega
    · rw [m1, Int.emod_eq_of_lt (by decide) (by omega)] at eu; omega
    · exact h
  · rcases (by omega : b = u * v - 1 ∨ b ≤ u * v - 2) with rfl | h
    · rw [show u * v - 1 = (v - 1) + v * (u - 1) by grind, Int.add_mul_emod_self_left, Int.emod_eq_of_lt (by omega) (by omega)] at ev
      omega
    · exact h
  · rintro ⟨s, D, h1, h2, h⟩
    rcases h with h | ⟨i, hi, h⟩
    · have h3 := mod_down du h
      rw [← pow_mod, eu, pow_mod, neg_one_odd h1, m1, Int.emod_eq_of_lt (by decide) (by omega)] at h3
      omega
    · have h3 := mod_down dv h
      rw [← pow_mod, ev, Int.one_pow, Int.emod_eq_of_lt (by decide) (by omega), show u * v - 1 = (v - 1) + v * (u - 1) by grind, Int.add_mul_emod_self_left, Int.emod_eq_of_lt (by omega) (by omega)] at h3
      omega
theorem one_add_pow {n t : Int} (h : n ∣ t * t) : ∀ k : Nat, n ∣ (1 + t) ^ k - (1 + k * t)
  | 0 => by rw [Int.pow_zero]; exact ⟨0, by simp⟩
  | k + 1 => by
    obtain ⟨a, ha⟩ := one_add_pow h k
    obtain ⟨c, hc⟩ := h
    refine ⟨a * (1 + t) + k * c, ?_⟩
    rw [Int.pow_succ]
    have e1 : (1 + t) ^ k = n * a + (1 + k * t) := by omega
    have e2 : ((k + 1 : Nat) : Int) = k + 1 := rfl
    rw [e1, e2]
    have e3 : n * (a * (1 + t) + k * c) = n * a * (1 + t) + k * (t * t) := by rw [hc]; grind
    rw [e3]
    grind
/-- a multiple of a square -/
theorem wit_sq {p m : Int} (hp : 3 ≤ p) (hm : 1 ≤ m) : ∃ b, 2 ≤ b ∧ b ≤ p * (p * m) - 2 ∧ ¬ Strong (p * (p * m)) b := by
  have h1 : 3 ≤ p * m := by have := Int.mul_le_mul hp hm (by decide) (by omega); omega
  have h2 : 3 * (p * m) ≤ p * (p * m) := Int.mul_le_mul_of_nonneg_right hp (by omega)
  refine ⟨1 + p * m, by omega, by omega, fun h => ?_⟩
  have h3 := h.fermat (by omega)
  obtain ⟨a, ha⟩ := one_add_pow (n := p * (p * m)) (t := p * m) ⟨m, by grind⟩ (p * (p * m) - 1).toNat
  rw [show (((p * (p * m) - 1).toNat : Nat) : Int) = p * (p * m) - 1 by omega] at ha
  have h4 := Int.emod_add_mul_ediv ((1 + p * m) ^ (p * (p * m) - 1).toNat) (p * (p * m))
  rw [h3] at h4
  generalize (1 + p * m) ^ (p * (p * m) - 1).toNat = X at *
  generalize X / (p * (p * m)) = y at *
  -- p (p m) divides p m
  have h5 : p * m = p * (p * m) * (a - y + p * m) := by
    have e1 : (p * (p * m) - 1) * (p * m) = p * (p * m) * (p * m) - p * m := by grind
    have e2 : p * (p * m) * (a - y + p * m) = p * (p * m) * a - p * (p * m) * y + p * (p * m) * (p * m) := by grind
    rw [e1] at ha
    omega
  have := Int.le_of_dvd (by omega) (show p * (p * m) ∣ p * m from ⟨_, h5⟩)
  omega
theorem wit_ex {n : Int} (hn : 5 ≤ n) (ho : n % 2 = 1) (hp : primeI n = false) : ∃ b, 2 ≤ b ∧ b ≤ n - 2 ∧ ¬ Strong n b := by
  obtain ⟨p, pp, ⟨m, rfl⟩, hle⟩ := prime_dv n.toNat n (by omega) (by omega)
  have p2 := (primeI_un pp).1
  have p3 : 3 ≤ p := by
    rcases (by omega : p = 2 ∨ 3 ≤ p) with rfl | c
    · omega
    · exact c
  have m0 : 0 < m := by
    rcases Int.lt_or_le 0 m with c | c
    · exact c
    · have := Int.mul_le_mul_of_nonneg_left c (show 0 ≤ p by omega); omega
  by_cases c : m % p = 0
  · obtain ⟨k, rfl⟩ := Int.dvd_of_emod_eq_zero c
    refine wit_sq p3 ?_
    rcases Int.lt_or_le 0 k with c | c
    · exact c
    · have := Int.mul_le_mul_of_nonneg_left c (show 0 ≤ p by omega); omega
  · refine wit_two p3 ?_ (by rw [Int.gcd_comm]; exact prime_gcd pp c)
    rcases (by omega : m = 1 ∨ m = 2 ∨ 3 ≤ m) with rfl | rfl | h
    · rw [Int.mul_one, pp] at hp; cases hp
    · omega
    · exact h

-- uses: strongw remainder_power
def W_is_passed : Wt := fun rs C Q _ => match rs with
  | [.int n, .int b] => ((5 ≤ n ∧ n ≤ 1000000000 ∧ n % 2 = 1) ∧ 0 ≤ b ∧ b ≤ 1000000000) ∧ Q (.bl (strB n b)) C
  | _ => False
def m_is_passed (ex : Gm → MX) : MS :=
  (mSeq (mPar 4 5 (mCons (mOp oSub (mVar 0) (mC (.int 1))) (mCons (mC (.int 0)) mNil)))
  (mSeq (mWhile (mVal (mOp oEq (mOp oMod (mVar 4) (mC (.int 2))) (mC (.int 0)))) (mPar 4 5 (mCons (mOp oDiv (mVar 4) (mC (.int 2))) (mCons (mOp (oPlus false) (mVar 5) (mC (.int 1))) mNil))))
  (mSeq (mAsg (mCall W_remainder_power ex (mCons (mVar 1) (mCons (mVar 4) (mCons (mVar 0) mNil)))) (gNm 2))
  (mSeq (mIfS (mVal (mOp oEq (mVar 2) (mC (.int 1)))) (mRet (mC (.bl true))) mNext)
  (mSeq (mFor (iRg1 (mCons (mVar 5) mNil)) (gNm 3) (mSeq (mIfS (mVal (mOp oEq (mVar 2) (mOp oSub (mVar 0) (mC (.int 1))))) (mRet (mC (.bl true))) mNext)
  (mAsg (mOp oMod (mOp (oTimes false) (mVar 2) (mVar 2)) (mVar 0)) (gNm 2))))
  (mRet (mC (.bl false))))))))
theorem pwm_nat (b n : Int) (k : Nat) : pwm b (k : Int) n = b ^ k % n := by unfold pwm; rfl
theorem kp_is_passed : Keeps 6 m_is_passed 2 W_is_passed := by
  intro rs C Q E hl h
  unfold W_is_passed at h
  split at h
  · rename_i n b
    obtain ⟨⟨⟨n0, n1, n2⟩, b0, b1⟩, q⟩ := h
    walk_at "nb gt"
    refine while_of (fun s Γ C' => C = C' ∧ ∃ D t : Nat, D = s ∧ 0 < D ∧ (n - 1).toNat = 2 ^ t * D ∧ t ≤ (n - 1).toNat ∧ Γ = [some (.int n), some (.int b), none, none, some (.int (D : Int)), some (.int (t : Int))]) (n - 1).toNat ⟨rfl, (n - 1).toNat, 0, rfl, by omega, by simp, by omega, by rw [show (((n - 1).toNat : Nat) : Int) = n - 1 by omega]; rfl⟩ ?_
    rintro _ _ _ ⟨rfl, D, t, rfl, d0, hD, ht, rfl⟩ K hK
    have hle : D ≤ (n - 1).toNat := by rw [hD]; exact Nat.le_mul_of_pos_left _ (Nat.two_pow_pos _)
    walk_at "nb gt"
    · rename_i c
      have h3 : (n - 1).toNat = 2 ^ (t + 1) * (D / 2) := by
        rw [hD, Nat.pow_succ, Nat.mul_assoc, show 2 * (D / 2) = D by omega]
      refine hK (D / 2) _ _ (by omega) ⟨rfl, D / 2, t + 1, rfl, by omega, h3, ?_, by rw [show ((D / 2 : Nat) : Int) = (D : Int) / 2 by omega, show ((t + 1 : Nat) : Int) = (t : Int) + 1 by omega]; rfl⟩
      rw [h3]
      have := Nat.lt_two_pow_self (n := t + 1)
      have h4 := Nat.le_mul_of_pos_right (2 ^ (t + 1)) (show 0 < D / 2 by omega)
      omega
    · rename_i c c1
      rw [pwm_nat] at c1
      rw [strB_of (r := true) ⟨fun _ => (Strong_iff (b := b) (by omega) hD).mpr (.inl c1), fun _ => rfl⟩] at q
      exact end_l q
    · rename_i c c1
      have hS := Strong_iff (b := b) (by omega) hD
      have bd : ∀ k : Nat, 0 ≤ b ^ k % n ∧ b ^ k % n < n := fun k => ⟨Int.emod_nonneg _ (by omega), Int.emod_lt_of_pos _ (by omega)⟩
      rw [pwm_nat] at c1 ⊢
      refine forR_inv (fun i Γ C' => C = C' ∧ (∀ j : Nat, j < i → b ^ (2 ^ j * D) % n ≠ n - 1) ∧ ∃ x3, Γ = [some (.int n), some (.int b), some (.int (b ^ (2 ^ i * D) % n)), x3, some (.int (D : Int)), some (.int (t : Int))]) _ ⟨rfl, by omega, none, by rw [Nat.pow_zero, Nat.one_mul]; rfl⟩ ?_ ?_
      · rintro i _ _ hi ⟨rfl, hn, x3, rfl⟩ K2 hK2
        have bi := bd (2 ^ i * D)
        have li : Ln 40 (b ^ (2 ^ i * D) % n) := Ln_mk (by omega)
        walk_at "nb gt"
        · rename_i c2
          rw [strB_of (r := true) ⟨fun _ => hS.mpr (.inr ⟨i, by omega, c2⟩), fun _ => rfl⟩] at q
          exact end_l q
        · rename_i c2
          refine hK2 _ _ ⟨rfl, fun j hj => ?_, _, by rw [pow_sq_mod]; rfl⟩
          rcases Nat.lt_or_ge j i with z | z
          · exact hn j z
          · rw [show j = i by omega]; exact c2
      · rintro _ _ ⟨rfl, hn, x3, rfl⟩
        walk_at "nb gt"
        have hno : ¬ Strong n b := fun z => by
          rcases hS.mp z with z | ⟨i, hi, z⟩
          · exact c1 z
          · exact hn i (by omega) z
        rw [strB_of (r := false) ⟨fun z => absurd z (by decide), fun z => absurd z hno⟩] at q
        exact end_l q
  · exact h.elim

-- uses: passes_fermat is_passed
def W_passes_strong : Wt := fun rs C Q E => match rs with
  | [x, y] => (tyd C x = true ∧ tyd C y = true) ∧ PfA x y (fun n b => Q (.bl (strB n b)) C) (fun v => E "InvalidNumber" [("given", v)] C) (fun v => E "InvalidBase" [("given", v)] C)
  | _ => False
def m_passes_strong (ex : Gm → MX) : MS :=
  (mSeq (mDrop (mCall W_check_odd ex (mCons (mVar 0) mNil)))
  (mSeq (mDrop (mCall W_check_base ex (mCons (mVar 0) (mCons (mVar 1) mNil))))
  (mRet (mCall W_is_passed ex (mCons (mVar 0) (mCons (mVar 1) mNil))))))
theorem kp_passes_strong : Keeps 2 m_passes_strong 2 W_passes_strong := by
  intro rs C Q E hl h
  unfold W_passes_strong at h
  split at h
  · rename_i x y
    obtain ⟨⟨h1, h2⟩, q⟩ := h
    unfold PfA at q
    walk_at "nb gt"
    cases c : odB x <;> rw [c] at q
    · walk_at "nb gt"
      exact ex_l q
    · obtain ⟨n, rfl, n1, n2, n3⟩ := odB_un c
      have q := q n rfl n1 n2 n3
      walk_at "nb gt"
      cases c2 : btw 2 (n - 2) y <;> rw [c2] at q
      · walk_at "nb gt"
        exact ex_l q
      · obtain ⟨b, rfl, b1, b2⟩ := btw_un c2
        have q := q b rfl b1 b2
        walk_at "nb gt"
        exact end_l q
  · exact h.elim

-- uses: check_odd is_small_prime is_passed
/-- None for a prime, the least base that does not pass for others -/
@[irreducible] def WitOk (n : Int) (r : R) : Prop := (primeI n = true ∧ r = .non) ∨ (primeI n = false ∧ ∃ b, r = .int b ∧ 2 ≤ b ∧ b ≤ n - 2 ∧ ¬ Strong n b ∧ ∀ c, 2 ≤ c → c < b → Strong n c)
theorem WitOk.uniq {n : Int} {r s : R} (h : WitOk n r) (g : WitOk n s) : r = s := by
  unfold WitOk at h g
  rcases h with ⟨h1, rfl⟩ | ⟨h1, b, rfl, h2, h3, h4, h5⟩
  · rcases g with ⟨_, rfl⟩ | ⟨g1, _⟩
    · rfl
    · rw [h1] at g1; cases g1
  · rcases g with ⟨g1, _⟩ | ⟨g1, c, rfl, g2, g3, g4, g5⟩
    · rw [h1] at g1; cases g1
    · rcases Int.lt_trichotomy b c with z | z | z
      · exact absurd (g5 b h2 z) h4
      · rw [z]
      · exact absurd (h5 c g2 z) g4
@[irreducible] def WiA (x : R) (Q : Int → Prop) (E : R → Prop) : Prop := ifP (odB x) (∀ n, x = .int n → 5 ≤ n → n ≤ 1000000000 → n % 2 = 1 → Q n) (E x)
theorem WiA_mono {x : R} {Q Q' : Int → Prop} {E E' : R → Prop} (h : WiA x Q E) (q : ∀ n, Q n → Q' n) (e : E x → E' x) : WiA x Q' E' := by
  unfold WiA at *
  cases c : odB x <;> rw [c] at h
  · exact e h
  · exact fun n h1 h2 h3 h4 => q n (h n h1 h2 h3 h4)
theorem WiA_ok {n : Int} {Q : Int → Prop} {E : R → Prop} (h1 : 5 ≤ n) (h2 : n ≤ 1000000000) (h3 : n % 2 = 1) (q : Q n) : WiA (.int n) Q E := by
  unfold WiA
  rw [odB_mk h1 h2 h3]
  intro m e _ _ _
  cases e
  exact q
theorem WiA_no {x : R} {Q : Int → Prop} {E : R → Prop} (h : odB x = false) (q : E x) : WiA x Q E := by
  unfold WiA; rw [h]; exact q
def W_strong_witness : Wt := fun rs C Q E => match rs with
  | [x] => tyd C x = true ∧ WiA x (fun n => ∀ r, WitOk n r → Q r C) (fun v => E "InvalidNumber" [("given", v)] C)
  | _ => False
def m_strong_witness (ex : Gm → MX) : MS :=
  (mSeq (mDrop (mCall W_check_odd ex (mCons (mVar 0) mNil)))
  (mSeq (mIfS (mTru (mCall W_is_small_prime ex (mCons (mVar 0) mNil))) (mRet (mC .non)) mNext)
  (mSeq (mAsg (mC (.int 2)) (gNm 1))
  (mSeq (mWhile (mTru (mCall W_is_passed ex (mCons (mVar 0) (mCons (mVar 1) mNil)))) (mAug 1 oAdd (mC (.int 1))))
  (mRet (mVar 1))))))
theorem kp_strong_witness : Keeps 2 m_strong_witness 1 W_strong_witness := by
  intro rs C Q E hl h
  unfold W_strong_witness at h
  split at h
  · rename_i x
    obtain ⟨h1, q⟩ := h
    unfold WiA at q
    walk_at "nb gt"
    cases c : odB x <;> rw [c] at q
    · walk_at "nb gt"
      exact ex_l q
    · obtain ⟨n, rfl, n1, n2, n3⟩ := odB_un c
      have q := q n rfl n1 n2 n3
      walk_at "nb gt"
      cases e : primeI n
      · walk_at "nb gt"
        obtain ⟨w, w1, w2, w3⟩ := wit_ex n1 n3 e
        refine while_of (fun s Γ C' => C = C' ∧ ∃ b : Int, (w - b).toNat = s ∧ 2 ≤ b ∧ b ≤ w ∧ (∀ c, 2 ≤ c → c < b → Strong n c) ∧ Γ = [some (.int n), some (.int b)]) (w - 2).toNat ⟨rfl, 2, rfl, by omega, w1, by omega, rfl⟩ ?_
        rintro _ _ _ ⟨rfl, b, rfl, b1, b2, hb, rfl⟩ K hK
        walk_at "nb gt"
        cases c2 : strB n b
        · have c3 : ¬ Strong n b := fun z => by rw [strB_un.mpr z] at c2; cases c2
          walk_at "nb gt"
          exact end_l (q _ (by unfold WitOk; exact .inr ⟨e, b, rfl, b1, by omega, c3, hb⟩))
        · have c3 := strB_un.mp c2
          have hlt : b < w := by
            rcases (by omega : b = w ∨ b < w) with z | z
            · subst z; exact absurd c3 w3
            · exact z
          walk_at "nb gt"
          refine hK (w - (b + 1)).toNat _ _ (by omega) ⟨rfl, b + 1, rfl, by omega, by omega, fun c g1 g2 => ?_, rfl⟩
          rcases (by omega : c < b ∨ c = b) with z | z
          · exact hb c g1 z
          · subst z; exact c3
      · walk_at "nb gt"
        exact end_l (q _ (by unfold WitOk; exact .inl ⟨e, rfl⟩))
  · exact h.elim

/-- data without cells, no list, no dict -/
structure StillD (r : R) : Prop where
  res : ∀ C, resN 9 C r = some r
  ty : ∃ t, (∀ C, tyOf C r = some t) ∧ t ≠ "list" ∧ t ≠ "dict"
  w : wR r ≤ 1000
  ok : shwOk r = true
  int : ∀ i, r = .int i → i ≤ 0
  nc : ∀ p, r ≠ .cell p
/-- odd values that laws hand over and change: small data, or a list or a dict that stands at a cell from p0 on -/
def OddV (C : Cs) (p0 : Nat) (r : R) : Prop :=
  StillD r ∨ (∃ p xs, r = .cell p ∧ p0 ≤ p ∧ C[p]? = some (.lst xs) ∧ (xs = [] ∨ xs = [.int 5])) ∨ (∃ p, r = .cell p ∧ p0 ≤ p ∧ C[p]? = some (.dct [(.inr "n", .int 5)]))
theorem OddV.tyd {C : Cs} {p0 : Nat} {r : R} (h : OddV C p0 r) : NB.tyd C r = true := by
  rcases h with h | ⟨p, xs, rfl, _, e, _⟩ | ⟨p, rfl, _, e⟩
  · obtain ⟨t, h, _⟩ := h.ty; unfold NB.tyd; rw [h C]; rfl
  · unfold NB.tyd tyOf; simp only [e]; rfl
  · unfold NB.tyd tyOf; simp only [e]; rfl
theorem OddV.int {C : Cs} {p0 : Nat} {i : Int} (h : OddV C p0 (.int i)) : i ≤ 0 := by
  rcases h with h | ⟨p, xs, e, _⟩ | ⟨p, e, _⟩
  · exact h.int i rfl
  · cases e
  · cases e
/-- the same behind changes that leave the cells from p0 on as they are -/
theorem OddV.go {C C' : Cs} {p0 p1 : Nat} {r : R} (h : OddV C p0 r) (l : p1 ≤ p0) (k : ∀ p c, p0 ≤ p → C[p]? = some c → C'[p]? = some c) : OddV C' p1 r := by
  rcases h with h | ⟨p, xs, rfl, h1, e, h2⟩ | ⟨p, rfl, h1, e⟩
  · exact .inl h
  · exact .inr (.inl ⟨p, xs, rfl, by omega, k _ _ h1 e, h2⟩)
  · exact .inr (.inr ⟨p, rfl, by omega, k _ _ h1 e⟩)
theorem StillD.repr {r : R} (h : StillD r) (C : Cs) : reprN C r = some r := by
  cases r with
  | cell p => exact absurd rfl (h.nc p)
  | _ => exact h.res C
/-- what _law_very leaves: the same cells, or a list, a dict that has grown -/
def Grown (C : Cs) (p0 : Nat) (r : R) (C' : Cs) : Prop := C' = C ∨ ∃ p c, r = .cell p ∧ p0 ≤ p ∧ C' = C.set p c ∧ p < C.length ∧ okC C.length [c] ∧ ∀ n, c ≠ .box n

-- uses: oddv
theorem log_lt {i : Int} {m : Nat} (h : i.natAbs < 2 ^ m) (h0 : 0 < m) : i.natAbs.log2 < m := by
  rcases Nat.eq_zero_or_pos i.natAbs with e | e
  · rw [e]; simpa using h0
  · exact (Nat.log2_lt (by omega)).mpr h
theorem wRs_ints : ∀ {xs : List Int}, (∀ x ∈ xs, x.natAbs < 2 ^ 100) → wRs (xs.map .int) ≤ 110 * xs.length ∧ shwOks (xs.map .int) = true
  | [], _ => ⟨Nat.le_refl _, rfl⟩
  | x :: xs, h => by
    obtain ⟨a, b⟩ := wRs_ints (xs := xs) fun y hy => h y (List.mem_cons_of_mem _ hy)
    have := log_lt (h x (List.mem_cons_self ..)) (by decide)
    refine ⟨?_, ?_⟩
    · simp only [List.map_cons, wRs, wR, List.length_cons]; omega
    · simp only [List.map_cons, shwOks, shwOk, b, Bool.and_true, decide_eq_true_eq]; omega
def Keep (p0 : Nat) (C C' : Cs) : Prop := ∀ p c, p0 ≤ p → C[p]? = some c → C'[p]? = some c
/-- neither list nor dict, the same whatever happens to cells that are not its own -/
def FixV (C : Cs) (p0 : Nat) (r : R) : Prop := ∃ t q, t ≠ "list" ∧ t ≠ "dict" ∧ wR q ≤ 100000 ∧ shwOk q = true ∧ ∀ C', Keep p0 C C' → tyOf C' r = some t ∧ reprN C' r = some q
def RepV (C : Cs) (p0 : Nat) (r : R) : Prop :=
  FixV C p0 r ∨ (∃ (p : Nat) (xs : List Int), r = .cell p ∧ p0 ≤ p ∧ C[p]? = some (.lst (xs.map .int)) ∧ xs.length ≤ 61 ∧ ∀ x ∈ xs, x.natAbs < 2 ^ 100) ∨
    (∃ p s i, r = .cell p ∧ p0 ≤ p ∧ C[p]? = some (.dct [(.inr (Str.ofString s), .int i)]) ∧ (s = "n" ∧ i = 5 ∨ s = "a" ∧ i = 1))
theorem Keep.refl {p0 : Nat} {C : Cs} : Keep p0 C C := fun _ _ _ h => h
theorem Keep.trans {p0 p1 : Nat} {C C1 C2 : Cs} (h : Keep p0 C C1) (g : Keep p1 C1 C2) (l : p1 ≤ p0) : Keep p0 C C2 := fun p c hp e => g p c (by omega) (h p c hp e)
theorem RepV.go {C C' : Cs} {p0 p1 : Nat} {r : R} (h : RepV C p0 r) (l : p1 ≤ p0) (k : Keep p0 C C') : RepV C' p1 r := by
  rcases h with ⟨t, q, h1, h2, h3, h4, h5⟩ | ⟨p, xs, rfl, hp, e, h⟩ | ⟨p, s, i, rfl, hp, e, h⟩
  · exact .inl ⟨t, q, h1, h2, h3, h4, fun C2 k2 => h5 C2 (k.trans k2 l)⟩
  · exact .inr (.inl ⟨p, xs, rfl, by omega, k _ _ hp e, h⟩)
  · exact .inr (.inr ⟨p, s, i, rfl, by omega, k _ _ hp e, h⟩)
theorem RepV.tyd {C : Cs} {p0 : Nat} {r : R} (h : RepV C p0 r) : NB.tyd C r = true := by
  rcases h with ⟨t, q, _, _, _, _, h⟩ | ⟨p, xs, rfl, _, e, _⟩ | ⟨p, s, i, rfl, _, e, _⟩
  · unfold NB.tyd; rw [(h C Keep.refl).1]; rfl
  · unfold NB.tyd tyOf; simp only [e]; rfl
  · unfold NB.tyd tyOf; simp only [e]; rfl
theorem RepV.lt {C : Cs} {p0 p : Nat} (h : RepV C p0 (.cell p)) (nf : ∀ t, tyOf C (.cell p) = some t → t = "list" ∨ t = "dict") : p < C.length := by
  rcases h with ⟨t, q, h1, h2, _, _, h⟩ | ⟨q, xs, e, _, e2, _⟩ | ⟨q, s, i, e, _, e2, _⟩
  · rcases nf t (h C Keep.refl).1 with e | e
    · exact absurd e h1
    · exact absurd e h2
  · cases e; exact (List.getElem?_eq_some_iff.mp e2).1
  · cases e; exact (List.getElem?_eq_some_iff.mp e2).1
theorem fixV {C : Cs} {p0 : Nat} {r : R} (t : String) (res : ∀ C, reprN C r = some r) (ty : ∀ C, tyOf C r = some t) (h1 : t ≠ "list") (h2 : t ≠ "dict") (w : wR r ≤ 100000) (ok : shwOk r = true) : RepV C p0 r :=
  .inl ⟨t, r, h1, h2, w, ok, fun C' _ => ⟨ty C', res C'⟩⟩
theorem RepV.int {C : Cs} {p0 : Nat} {i : Int} (h : i.natAbs < 2 ^ 100) : RepV C p0 (.int i) :=
  have := log_lt h (by decide)
  fixV "int" (fun _ => rfl) (fun _ => rfl) (by decide) (by decide) (by simp only [wR]; omega) (by simp only [shwOk, decide_eq_true_eq]; omega)
theorem RepV.odd {C : Cs} {p0 : Nat} {r : R} (h : OddV C p0 r) : RepV C p0 r := by
  rcases h with h | ⟨p, xs, rfl, hp, e, h⟩ | ⟨p, rfl, hp, e⟩
  · obtain ⟨t, ht, t1, t2⟩ := h.ty
    exact fixV t h.repr ht t1 t2 (Nat.le_trans h.w (by decide)) h.ok
  · rcases h with rfl | rfl
    · exact .inr (.inl ⟨p, [], rfl, hp, e, by decide, fun x hx => by cases hx⟩)
    · exact .inr (.inl ⟨p, [5], rfl, hp, e, by decide, fun x hx => by rw [List.mem_singleton.mp hx]; decide⟩)
  · exact .inr (.inr ⟨p, "n", 5, rfl, hp, e, .inl ⟨rfl, rfl⟩⟩)
theorem Ext.keepA {D D' : Cs} {k n p0 : Nat} (h : Ext D k n D') (hk : k < p0) : Keep p0 D D' := by
  intro p c hp e
  obtain ⟨hk, _, _, L, rfl⟩ := h
  have hl := (List.getElem?_eq_some_iff.mp e).1
  rw [List.getElem?_append_left (by simpa using hl), List.getElem?_set_ne (by omega)]
  exact e
theorem RepV.ext {D D' : Cs} {k n p0 p1 : Nat} {r : R} (o : RepV D p0 r) (h : Ext D k n D') (hk : k < p0) (l : p1 ≤ p0) : RepV D' p1 r := o.go l (h.keepA hk)
theorem OddV.ext {D D' : Cs} {k n p0 p1 : Nat} {r : R} (o : OddV D p0 r) (h : Ext D k n D') (hk : k < p0) (l : p1 ≤ p0) : OddV D' p1 r := o.go l (h.keepA hk)
theorem no_int {r : R} (h : ∀ i, r ≠ .int i) : intB (.int 0) .non r = false ∧ btw 2 36 r = false ∧ ∀ n, r = .int n → 0 ≤ n → Ln 110 n := by
  cases r with
  | int i => exact absurd rfl (h i)
  | _ => exact ⟨rfl, rfl, fun n e => by cases e⟩
theorem Ext.grow {D C C' : Cs} {k n p0 : Nat} {r : R} (h : Ext D k n C) (g : Grown C p0 r C') (l : D.length ≤ p0) : Ext D k n C' := by
  rcases g with rfl | ⟨p, c, _, hp, rfl, _, ok, _⟩
  · exact h
  · exact h.write (by omega) ok

-- uses: repv
def W_l_very : Wt := fun rs C Q _ => match rs with
  | [r, r2] => ∃ p0, (r2 = r ∧ RepV C p0 r) ∧ ∀ C', Grown C p0 r C' → Q (.bl true) C'
  | _ => False
def m_l_very (shw : R → Str) (ex : Gm → MX) : MS :=
  (mSeq (mIfS (mVal (mOp oNe (mFn (fRepr shw) (mCons (mVar 0) mNil)) (mFn (fRepr shw) (mCons (mVar 1) mNil)))) (mRet (mC (.bl false))) mNext)
  (mSeq (mIfS (mTru (mFn (fIsi "list") (mCons (mVar 1) mNil))) (mDrop (mIns (mVar 1) (mC (.int 0)) (mC (.str "more")))) mNext)
  (mSeq (mIfS (mTru (mFn (fIsi "dict") (mCons (mVar 1) mNil))) (mAsg (mC (.int 1)) (gIx (mVar 1) (mC (.str "more")))) mNext)
  (mRet (mOp oEq (mFn (fRepr shw) (mCons (mVar 0) mNil)) (mFn (fRepr shw) (mCons (mVar 1) mNil)))))))
theorem isiM_ne {t c : String} (h : t ≠ c) (h2 : c ≠ "int") : isiM t c = some false := by
  unfold isiM
  rw [if_neg h, if_neg (fun z => h2 z.2)]
theorem kp_l_very (shw : R → Str) : Keeps 2 (m_l_very shw) 2 W_l_very := by
  intro rs C Q E hl h
  unfold W_l_very at h
  split at h
  · rename_i r r2
    obtain ⟨p0, ⟨rfl, ho⟩, q⟩ := h
    have eqs : ∀ s : Str, decide (s.cps = s.cps) = true := fun s => by simp
    rcases ho with ⟨t, qq, t1, t2, hw, hk, hf⟩ | ⟨p, xs, rfl, hp0, e, hx1, hx2⟩ | ⟨p, s, i, rfl, hp0, e, hsi⟩
    · obtain ⟨ht, hr⟩ := hf C Keep.refl
      have i1 := isiM_ne (c := "list") t1 (by decide)
      have i2 := isiM_ne (c := "dict") t2 (by decide)
      have hw : wR qq ≤ 1000000 := Nat.le_trans hw (by decide)
      walk_at "nb gt"
      · rename_i h; exact absurd rfl h
      · refine end_l ?_
        rw [eqs]
        exact q C (.inl rfl)
    · have lt := (List.getElem?_eq_some_iff.mp e).1
      have e2 : (C.set p (.lst (.str "more" :: xs.map .int)))[p]? = some (.lst (.str "more" :: xs.map .int)) := get_set e
      have k1 : reprN C (.cell p) = some (.lst (xs.map .int)) := by
        unfold reprN; simp only [e]
        unfold resN; simp only [e]
        rw [res_ints]; rfl
      have k2 : reprN (C.set p (.lst (.str "more" :: xs.map .int))) (.cell p) = some (.lst (.str "more" :: xs.map .int)) := by
        unfold reprN; simp only [e2]
        unfold resN; simp only [e2]
        have st : resN 8 (C.set p (.lst (.str "more" :: xs.map .int))) (.str "more") = some (.str "more") := by
          unfold resN; dsimp only; rw [if_pos (by decide +kernel)]
        rw [mapM_res fun x hx => ?_]
        · rfl
        · rcases List.mem_cons.mp hx with rfl | hx
          · exact st
          · obtain ⟨y, -, rfl⟩ := List.mem_map.mp hx
            rfl
      obtain ⟨w1, w2⟩ := wRs_ints hx2
      have ws : wR (.str "more") ≤ 100 := by decide +kernel
      have hw : wR (.lst (xs.map .int)) ≤ 1000000 := by simp only [wR]; omega
      have hk : shwOk (.lst (xs.map .int)) = true := by simp only [shwOk, w2]
      have hw2 : wR (.lst (.str "more" :: xs.map .int)) ≤ 1000000 := by simp only [wR, wRs] at ws ⊢; omega
      have hk2 : shwOk (.lst (.str "more" :: xs.map .int)) = true := by simp only [shwOk, shwOks, w2, Bool.and_self]
      have ht : tyOf C (.cell p) = some "list" := by simp only [tyOf, e]
      have ht2 : tyOf (C.set p (.lst (.str "more" :: xs.map .int))) (.cell p) = some "list" := by simp only [tyOf, e2]
      have i1 : isiM "list" "list" = some true := by decide
      have i2 : isiM "list" "dict" = some false := by decide
      have cl := isCl_of e
      have hm : (xs.map R.int).length = xs.length := List.length_map ..
      walk_at "nb gt"
      · rename_i h; exact absurd rfl h
      · refine lstP_of e ?_
        have ex : List.take (Int.toNat 0) (xs.map R.int) ++ [R.str "more"] ++ List.drop (Int.toNat 0) (xs.map R.int) = .str "more" :: xs.map .int := by simp
        rw [ex]
        walk_at "nb gt"
        refine end_l ?_
        rw [eqs]
        exact q _ (.inr ⟨p, _, rfl, hp0, rfl, lt, ⟨⟨trivial, okL_int⟩, trivial⟩, fun _ => by simp⟩)
    · have lt := (List.getElem?_eq_some_iff.mp e).1
      rcases hsi with ⟨rfl, rfl⟩ | ⟨rfl, rfl⟩
      · have ep : putD (κ := Sum Int Str) [(.inr "n", .int 5)] (.inr "more") (.int 1) = [(.inr "n", .int 5), (.inr "more", .int 1)] := by
          unfold putD
          rw [if_neg (by decide +kernel)]; rfl
        have e2 : (C.set p (.dct [(.inr "n", .int 5), (.inr "more", .int 1)]))[p]? = some (.dct [(.inr "n", .int 5), (.inr "more", .int 1)]) := get_set e
        have k1 : reprN C (.cell p) = some (.scr (flatD [(.inr "n", .int 5)])) := by
          unfold reprN; simp only [e]
          rw [if_pos (by decide +kernel)]
        have k2 : reprN (C.set p (.dct [(.inr "n", .int 5), (.inr "more", .int 1)])) (.cell p) = some (.scr (flatD [(.inr "n", .int 5), (.inr "more", .int 1)])) := by
          unfold reprN; simp only [e2]
          rw [if_pos (by decide +kernel)]
        have hw : wR (.scr (flatD [(.inr "n", .int 5)])) ≤ 1000000 := by decide +kernel
        have hk : shwOk (.scr (flatD [(.inr "n", .int 5)])) = true := by decide +kernel
        have hw2 : wR (.scr (flatD [(.inr "n", .int 5), (.inr "more", .int 1)])) ≤ 1000000 := by decide +kernel
        have hk2 : shwOk (.scr (flatD [(.inr "n", .int 5), (.inr "more", .int 1)])) = true := by decide +kernel
        have ht : tyOf C (.cell p) = some "dict" := by simp only [tyOf, e]
        have i1 : isiM "dict" "list" = some false := by decide
        have i2 : isiM "dict" "dict" = some true := by decide
        walk_at "nb gt"
        · rename_i h; exact absurd rfl h
        · refine dctP_of e ?_
          refine And.intro (by decide) ?_
          rw [ep]
          walk_at "nb gt"
          refine end_l ?_
          rw [eqs]
          exact q _ (.inr ⟨p, _, rfl, hp0, rfl, lt, ⟨⟨trivial, trivial, trivial⟩, trivial⟩, fun _ => by simp⟩)
      · have ep : putD (κ := Sum Int Str) [(.inr "a", .int 1)] (.inr "more") (.int 1) = [(.inr "a", .int 1), (.inr "more", .int 1)] := by
          unfold putD
          rw [if_neg (by decide +kernel)]; rfl
        have e2 : (C.set p (.dct [(.inr "a", .int 1), (.inr "more", .int 1)]))[p]? = some (.dct [(.inr "a", .int 1), (.inr "more", .int 1)]) := get_set e
        have k1 : reprN C (.cell p) = some (.scr (flatD [(.inr "a", .int 1)])) := by
          unfold reprN; simp only [e]
          rw [if_pos (by decide +kernel)]
        have k2 : reprN (C.set p (.dct [(.inr "a", .int 1), (.inr "more", .int 1)])) (.cell p) = some (.scr (flatD [(.inr "a", .int 1), (.inr "more", .int 1)])) := by
          unfold reprN; simp only [e2]
          rw [if_pos (by decide +kernel)]
        have hw : wR (.scr (flatD [(.inr "a", .int 1)])) ≤ 1000000 := by decide +kernel
        have hk : shwOk (.scr (flatD [(.inr "a", .int 1)])) = true := by decide +kernel
        have hw2 : wR (.scr (flatD [(.inr "a", .int 1), (.inr "more", .int 1)])) ≤ 1000000 := by decide +kernel
        have hk2 : shwOk (.scr (flatD [(.inr "a", .int 1), (.inr "more", .int 1)])) = true := by decide +kernel
        have ht : tyOf C (.cell p) = some "dict" := by simp only [tyOf, e]
        have i1 : isiM "dict" "list" = some false := by decide
        have i2 : isiM "dict" "dict" = some true := by decide
        walk_at "nb gt"
        · rename_i h; exact absurd rfl h
        · refine dctP_of e ?_
          refine And.intro (by decide) ?_
          rw [ep]
          walk_at "nb gt"
          refine end_l ?_
          rw [eqs]
          exact q _ (.inr ⟨p, _, rfl, hp0, rfl, lt, ⟨⟨trivial, trivial, trivial⟩, trivial⟩, fun _ => by simp⟩)
  · exact h.elim

-- uses: oddv
/-- an odd value, behind a few more cells -/
def W_l_odd_value : Wt := fun rs C Q _ => match rs with
  | [.cell k] => okC C.length C ∧ Bx k 1 C fun n => ∀ r C', Ext C k n C' → OddV C' C.length r → (∀ i, r ≠ .int i) → Q r C'
  | _ => False
def m_l_odd_value (ex : Gm → MX) : MS :=
  (mRet (mOp oIx (mLst false (mCons (mC (.bl true)) (mCons (mC (.bl false)) (mCons (mC .non) (mCons (mC (.str "5")) (mCons (mTup (mCons (mC (.int 5)) mNil)) (mCons (mLst true (mCons (mC (.int 5)) mNil)) (mCons (mDct1 "n" (mC (.int 5))) (mCons (mC (.str "")) (mCons (mTup mNil) (mCons (mLst true mNil) (mCons (mC (.str "-1")) (mCons (mTup (mCons (mTup (mCons (mC (.int 1)) (mCons (mC (.int 2)) mNil))) mNil)) mNil))))))))))))) (mCall W_l_take ex (mCons (mVar 0) (mCons (mC (.int 12)) mNil)))))
theorem stillD {r : R} (t : String) (res : ∀ C, resN 9 C r = some r) (ty : ∀ C, tyOf C r = some t) (h1 : t ≠ "list") (h2 : t ≠ "dict") (w : wR r ≤ 1000) (ok : shwOk r = true) (int : ∀ i, r = .int i → i ≤ 0) (nc : ∀ p, r ≠ .cell p) : StillD r :=
  ⟨res, ⟨t, ty, h1, h2⟩, w, ok, int, nc⟩
theorem res_str {n : Nat} {C : Cs} {z : Str} (h : (z.cps.all fun c => decide (c < 0x110000)) = true) : resN (n + 1) C (.str z) = some (.str z) := by
  unfold resN; dsimp only; rw [if_pos h]
theorem kp_l_odd_value : Keeps 1 m_l_odd_value 1 W_l_odd_value := by
  intro rs C Q E hl h
  unfold W_l_odd_value at h
  split at h
  · rename_i k
    obtain ⟨hc, n, hk0, hn, q⟩ := h
    have e0 := Ext.start hk0 hc
    walk_at "nb gt"
    have e1 : Ext C k n (C ++ [.lst [.int 5]]) := e0.push ⟨⟨trivial, trivial⟩, trivial⟩
    have e2 := e1.push (c := .dct [(.inr "n", .int 5)]) ⟨⟨trivial, trivial⟩, trivial⟩
    have e3 := e2.push (c := .lst []) ⟨trivial, trivial⟩
    have g1 : (C ++ [Ct.lst [.int 5]] ++ [Ct.dct [(.inr "n", .int 5)]] ++ [Ct.lst []])[C.length]? = some (.lst [.int 5]) := by simp
    have g2 : (C ++ [Ct.lst [.int 5]] ++ [Ct.dct [(.inr "n", .int 5)]] ++ [Ct.lst []])[(C ++ [Ct.lst [.int 5]]).length]? = some (.dct [(.inr "n", .int 5)]) := by simp
    have g3 : (C ++ [Ct.lst [.int 5]] ++ [Ct.dct [(.inr "n", .int 5)]] ++ [Ct.lst []])[(C ++ [Ct.lst [.int 5]] ++ [Ct.dct [(.inr "n", .int 5)]]).length]? = some (.lst []) := by simp
    have l1 : C.length ≤ (C ++ [Ct.lst [.int 5]]).length := by simp
    have l2 : C.length ≤ (C ++ [Ct.lst [.int 5]] ++ [Ct.dct [(.inr "n", .int 5)]]).length := by simp
    generalize (C ++ [Ct.lst [.int 5]] ++ [Ct.dct [(.inr "n", .int 5)]]).length = p3 at g3 l2 ⊢
    generalize (C ++ [Ct.lst [.int 5]]).length = p2 at g2 l1 ⊢
    generalize hC3 : C ++ [Ct.lst [.int 5]] ++ [Ct.dct [(.inr "n", .int 5)]] ++ [Ct.lst []] = C3 at e3 g1 g2 g3
    have hk3 := e3.get
    have e4 : Ext C k (n + 1) (C3.set k (.box (n + 1))) := e3.put
    walk_at "nb gt"
    have st : ∀ r, StillD r → (∀ i, r ≠ .int i) → endD C.length Q r (C3.set k (.box (n + 1))) := fun r h g => end_l (q _ (by omega) _ _ e4 (.inl h) g)
    have hne : ∀ {p : Nat} {c : Ct}, C3[p]? = some c → (∀ m, c ≠ .box m) → (C3.set k (.box (n + 1)))[p]? = some c := fun {p c} h hb => get_ne h hk3 (fun z => hb _ z.symm)
    walk_at "nb ats"
    · exact st _ (stillD "bool" (fun _ => rfl) (fun _ => rfl) (by decide) (by decide) (by decide) rfl (fun _ h => by cases h) (fun _ h => by cases h)) (fun _ h => by cases h)
    · exact st _ (stillD "bool" (fun _ => rfl) (fun _ => rfl) (by decide) (by decide) (by decide) rfl (fun _ h => by cases h) (fun _ h => by cases h)) (fun _ h => by cases h)
    · exact st _ (stillD "NoneType" (fun _ => rfl) (fun _ => rfl) (by decide) (by decide) (by decide) rfl (fun _ h => by cases h) (fun _ h => by cases h)) (fun _ h => by cases h)
    · exact st _ (stillD "str" (fun _ => res_str (by decide +kernel)) (fun _ => rfl) (by decide) (by decide) (by decide) rfl (fun _ h => by cases h) (fun _ h => by cases h)) (fun _ h => by cases h)
    · exact st _ (stillD "tuple" (fun _ => rfl) (fun _ => rfl) (by decide) (by decide) (by decide +kernel) (by decide +kernel) (fun _ h => by cases h) (fun _ h => by cases h)) (fun _ h => by cases h)
    · exact end_l (q _ (by omega) _ _ e4 (.inr (.inl ⟨_, _, rfl, Nat.le_refl _, hne g1 (fun _ => by simp), .inr rfl⟩)) (fun _ h => by cases h))
    · exact end_l (q _ (by omega) _ _ e4 (.inr (.inr ⟨_, rfl, l1, hne g2 (fun _ => by simp)⟩)) (fun _ h => by cases h))
    · exact st _ (stillD "str" (fun _ => res_str (by decide +kernel)) (fun _ => rfl) (by decide) (by decide) (by decide) rfl (fun _ h => by cases h) (fun _ h => by cases h)) (fun _ h => by cases h)
    · exact st _ (stillD "tuple" (fun _ => rfl) (fun _ => rfl) (by decide) (by decide) (by decide) rfl (fun _ h => by cases h) (fun _ h => by cases h)) (fun _ h => by cases h)
    · exact end_l (q _ (by omega) _ _ e4 (.inr (.inl ⟨_, _, rfl, l2, hne g3 (fun _ => by simp), .inl rfl⟩)) (fun _ h => by cases h))
    · exact st _ (stillD "str" (fun _ => res_str (by decide +kernel)) (fun _ => rfl) (by decide) (by decide) (by decide) rfl (fun _ h => by cases h) (fun _ h => by cases h)) (fun _ h => by cases h)
    · exact st _ (stillD "tuple" (fun _ => rfl) (fun _ => rfl) (by decide) (by decide) (by decide +kernel) (by decide +kernel) (fun _ h => by cases h) (fun _ h => by cases h)) (fun _ h => by cases h)
  · exact h.elim

-- uses: pwm
def W_l_power : Wt := fun rs C Q _ => match rs with
  | [.int b, .int e, .int m] => ((0 < m ∧ m ≤ 1000000000) ∧ (0 ≤ e ∧ e ≤ 1000000000000) ∧ 0 ≤ b ∧ b ≤ 1000000000) ∧ Q (.int (pwm b e m)) C
  | _ => False
def m_l_power (ex : Gm → MX) : MS :=
  (mSeq (mPar 3 4 (mCons (mOp oMod (mC (.int 1)) (mVar 2)) (mCons (mOp oMod (mFn fInt (mCons (mVar 0) mNil)) (mVar 2)) mNil)))
  (mSeq (mWhile (mVal (mOp oGt (mVar 1) (mC (.int 0)))) (mSeq (mIfS (mTru (mOp oAnd (mVar 1) (mC (.int 1)))) (mAsg (mOp oMod (mFn fInt (mCons (mOp (oTimes false) (mVar 3) (mVar 4)) mNil)) (mVar 2)) (gNm 3)) mNext)
  (mPar 4 1 (mCons (mOp oMod (mFn fInt (mCons (mOp (oTimes false) (mVar 4) (mVar 4)) mNil)) (mVar 2)) (mCons (mOp oShr (mVar 1) (mC (.int 1))) mNil)))))
  (mRet (mVar 3))))
theorem kp_l_power : Keeps 5 m_l_power 3 W_l_power := by
  intro rs C Q E hl h
  unfold W_l_power at h
  split at h
  · rename_i b E0 m
    obtain ⟨⟨⟨m0, m1⟩, ⟨h1, h2⟩, b0, b1⟩, q⟩ := h
    walk_at "nb gt"
    refine while_of (fun s Γ C' => C' = C ∧ ∃ e f w : Int, e.toNat = s ∧ e ≤ 1000000000000 ∧ PwI f w e b E0 m ∧ Γ = [some (.int b), some (.int e), some (.int m), some (.int f), some (.int w)]) E0.toNat ⟨rfl, E0, _, _, rfl, h2, PwI.start m0 h1, rfl⟩ ?_
    rintro _ _ _ ⟨rfl, e, f, w, rfl, e9, hi, rfl⟩ K hK
    obtain ⟨⟨f0, f1⟩, ⟨w0, w1⟩, e0, _⟩ := id hi
    have l1 : Ln 40 f := Ln_mk (by omega)
    have l2 : Ln 40 w := Ln_mk (by omega)
    have e2 : e / 2 ^ Int.toNat 1 = e / 2 := rfl
    walk_at "nb gt"
    · rename_i c1 c2
      rw [e2]
      exact hK _ _ _ (by omega) ⟨rfl, e / 2, _, _, rfl, by omega, hi.odd m0 (by omega), rfl⟩
    · rename_i c1 c2
      rw [e2]
      exact hK _ _ _ (by omega) ⟨rfl, e / 2, _, _, rfl, by omega, hi.even m0 (by omega), rfl⟩
    · rename_i c1
      have : e = 0 := by omega
      subst this
      rw [hi.end_]
      exact end_l q
  · exact h.elim

-- uses: trial2
def W_l_factors : Wt := fun rs C Q _ => match rs with
  | [.int n] => (1 ≤ n ∧ n ≤ 1000000007) ∧ okC C.length C ∧ ∀ l, FLT n l → Q (.lst (l.map peR)) C
  | _ => False
def m_l_factors (ex : Gm → MX) : MS :=
  (mSeq (mPar 1 2 (mCons (mLst true mNil) (mCons (mC (.int 2)) mNil)))
  (mSeq (mWhile (mVal (mOp oLe (mOp (oTimes false) (mVar 2) (mVar 2)) (mVar 0))) (mSeq (mAsg (mC (.int 0)) (gNm 3))
  (mSeq (mWhile (mVal (mOp oEq (mOp oMod (mFn fInt (mCons (mVar 0) mNil)) (mVar 2)) (mC (.int 0)))) (mPar 0 3 (mCons (mOp oDiv (mVar 0) (mVar 2)) (mCons (mOp (oPlus false) (mVar 3) (mC (.int 1))) mNil))))
  (mSeq (mIfS (mVal (mOp oGt (mVar 3) (mC (.int 0)))) (mDrop (mApp (mVar 1) (mTup (mCons (mVar 2) (mCons (mVar 3) mNil))))) mNext)
  (mAsg (mIfE (mVal (mOp oEq (mVar 2) (mC (.int 2)))) (mOp (oPlus false) (mVar 2) (mC (.int 1))) (mOp (oPlus false) (mVar 2) (mC (.int 2)))) (gNm 2))))))
  (mIce 1 (mRet (mIfE (mVal (mOp oGt (mVar 0) (mC (.int 1)))) (mOp (oPlus false) (mVar 1) (mLst false (mCons (mTup (mCons (mVar 0) (mCons (mC (.int 1)) mNil))) mNil))) (mVar 1))))))
theorem kp_l_factors : Keeps 4 m_l_factors 1 W_l_factors := by
  intro rs C Q E hl h
  unfold W_l_factors at h
  split at h
  · rename_i n
    obtain ⟨⟨h0, h1⟩, hc, q⟩ := h
    walk_at "nb gt"
    refine while_of (fun s Γ C' => ∃ m d pre x3, (n + 3 - d).toNat = s ∧ (0 < m ∧ m ≤ n) ∧ ((2 ≤ d ∧ d ≤ n + 2) ∧ d ≤ 31700) ∧ (∀ l, Tr m d l → Tr n 2 (pre ++ l)) ∧ (pre.length : Int) + 2 ≤ d ∧ C' = C ++ [.lst ((pre.filter realP).map peR)] ∧ Γ = [some (.int m), some (.cell C.length), some (.int d), x3]) (n + 3 - 2).toNat ⟨n, 2, [], none, rfl, ⟨by omega, by omega⟩, ⟨⟨by omega, by omega⟩, by omega⟩, fun l h => h, by simp, rfl, rfl⟩ ?_
    rintro _ _ _ ⟨m, d, pre, x3, rfl, ⟨m0, m1⟩, ⟨⟨d0, d1⟩, d2⟩, hp, hlen, rfl, rfl⟩ K hK
    have hle : (pre.filter realP).length ≤ pre.length := List.length_filter_le _ _
    have ll : ((pre.filter realP).map peR).length ≤ pre.length := by rw [List.length_map]; exact hle
    walk_at "nb gt"
    · rename_i hdd
      have hdm : d ≤ m := by
        have := Int.mul_le_mul_of_nonneg_right (show 2 ≤ d by omega) (show 0 ≤ d by omega)
        omega
      have hd31 : d ≤ 31623 := by
        rcases Int.lt_or_le 31623 d with c | c
        · have := Int.mul_le_mul (show 31624 ≤ d by omega) (show 31624 ≤ d by omega) (by omega) (by omega)
          omega
        · exact c
      refine while_of (fun s Γ C' => ∃ m' e, m'.toNat = s ∧ (0 < m' ∧ m' ≤ m) ∧ m = m' * d ^ e ∧ C' = C ++ [.lst ((pre.filter realP).map peR)] ∧ Γ = [some (.int m'), some (.cell C.length), some (.int d), some (.int ((e : Nat) : Int))]) m.toNat ⟨m, 0, rfl, ⟨m0, by omega⟩, by rw [Int.pow_zero, Int.mul_one], rfl, rfl⟩ ?_
      rintro _ _ _ ⟨m', e, rfl, ⟨m2, m3⟩, hm, rfl, rfl⟩ K2 hK2
      walk_at "nb gt"
      · rename_i hz
        obtain ⟨t1, t2, t3⟩ := div_turn d0 m2 hm hz
        exact hK2 _ _ _ (by omega) ⟨m' / d, e + 1, rfl, ⟨t2, by omega⟩, t1, rfl, rfl⟩
      · rename_i hz he
        have hT := tr_turn hp hdd hm hz
        have cl : isCl (C ++ [.lst ((pre.filter realP).map peR)]) (.cell C.length) := isCl_of app_at
        have hf : ((pre ++ [(d, e)]).filter realP).map peR = (pre.filter realP).map peR ++ [peR (d, e)] := by
          rw [List.filter_append, List.map_append, List.filter_cons_of_pos (by simp [realP]; omega)]; rfl
        walk_at "nb gt"
        refine lstP_of app_at ?_
        rw [app_set]
        walk_at "nb gt"
        · rename_i h2
          exact hK _ _ _ (by have := nxd_ge (d := d); omega) ⟨m', nxd d, pre ++ [(d, e)], _, rfl, ⟨m2, by omega⟩, by unfold nxd; rw [if_pos h2]; exact ⟨⟨by omega, by omega⟩, by omega⟩, hT, by rw [List.length_append]; unfold nxd; rw [if_pos h2]; simp; omega, by rw [hf], by unfold nxd; rw [if_pos h2]; rfl⟩
        · rename_i h2
          exact hK _ _ _ (by have := nxd_ge (d := d); omega) ⟨m', nxd d, pre ++ [(d, e)], _, rfl, ⟨m2, by omega⟩, by unfold nxd; rw [if_neg h2]; exact ⟨⟨by omega, by omega⟩, by omega⟩, hT, by rw [List.length_append]; unfold nxd; rw [if_neg h2]; simp; omega, by rw [hf], by unfold nxd; rw [if_neg h2]; rfl⟩
      · rename_i hz he h2
        have hT := tr_turn hp hdd hm hz
        have hf : ((pre ++ [(d, e)]).filter realP).map peR = (pre.filter realP).map peR := by
          rw [List.filter_append, List.map_append, List.filter_cons_of_neg (by simp [realP]; omega)]; simp
        exact hK _ _ _ (by have := nxd_ge (d := d); omega) ⟨m', nxd d, pre ++ [(d, e)], _, rfl, ⟨m2, by omega⟩, by unfold nxd; rw [if_pos h2]; exact ⟨⟨by omega, by omega⟩, by omega⟩, hT, by rw [List.length_append]; unfold nxd; rw [if_pos h2]; simp; omega, by rw [hf], by unfold nxd; rw [if_pos h2]; rfl⟩
      · rename_i hz he h2
        have hT := tr_turn hp hdd hm hz
        have hf : ((pre ++ [(d, e)]).filter realP).map peR = (pre.filter realP).map peR := by
          rw [List.filter_append, List.map_append, List.filter_cons_of_neg (by simp [realP]; omega)]; simp
        exact hK _ _ _ (by have := nxd_ge (d := d); omega) ⟨m', nxd d, pre ++ [(d, e)], _, rfl, ⟨m2, by omega⟩, by unfold nxd; rw [if_neg h2]; exact ⟨⟨by omega, by omega⟩, by omega⟩, hT, by rw [List.length_append]; unfold nxd; rw [if_neg h2]; simp; omega, by rw [hf], by unfold nxd; rw [if_neg h2]; rfl⟩
    · rename_i hdd
      have hT : FLT n ((pre ++ if 1 < m then [(m, 1)] else []).filter realP) := ⟨_, hp _ (.done (by omega)), rfl⟩
      refine lstP_of app_at ?_
      walk_at "nb gt"
      · rename_i h2
        rw [if_pos h2, List.filter_append, List.filter_cons_of_pos (by simp [realP])] at hT
        have e1 : (pre.filter realP).map peR ++ [R.tup [R.int m, R.int 1]] = (pre.filter realP ++ (m, 1) :: [].filter realP).map peR := by rw [List.map_append]; rfl
        have e2 : ((pre.filter realP).map peR ++ [R.tup [R.int m, R.int 1]]).length ≤ 16777216 := by rw [List.length_append, List.length_cons, List.length_nil]; omega
        walk_at "nb gt"
        rw [e1]
        rw [app_set]
        refine end_r C.length (Nat.le_refl _) okL_peR ?_ ?_
        · rw [app_take]; exact hc
        · rw [app_take]; exact q _ hT
      · rename_i h2
        rw [if_neg h2, List.append_nil] at hT
        rw [app_set]
        refine end_r C.length (Nat.le_refl _) okL_peR ?_ ?_
        · rw [app_take]; exact hc
        · rw [app_take]; exact q _ hT
  · exact h.elim

-- uses: l_factors facp primw
def W_l_is_prime : Wt := fun rs C Q _ => match rs with
  | [.int n] => (1 ≤ n ∧ n ≤ 1000000007) ∧ okC C.length C ∧ Q (.bl (primeI n)) C
  | _ => False
def m_l_is_prime (ex : Gm → MX) : MS :=
  (mRet (mAndE (mOp oGt (mVar 0) (mC (.int 1))) (mOp oEq (mCall W_l_factors ex (mCons (mVar 0) mNil)) (mLst false (mCons (mTup (mCons (mVar 0) (mCons (mC (.int 1)) mNil))) mNil)))))
theorem res_peR (n : Nat) (C : Cs) : ∀ l : List (Int × Nat), (l.map peR).mapM (resN (n + 2) C) = some (l.map peR)
  | [] => rfl
  | x :: l => by rw [List.map_cons, List.mapM_cons, res_peR n C l]; rfl
theorem resL_peR (n : Nat) (C : Cs) (l : List (Int × Nat)) : resN (n + 3) C (.lst (l.map peR)) = some (.lst (l.map peR)) := by
  show ((l.map peR).mapM (resN (n + 2) C)).map R.lst = _
  rw [res_peR]; rfl
theorem eq_peR : ∀ l r : List (Int × Nat), eqRs (l.map peR) (r.map peR) = (l == r)
  | [], [] => rfl
  | [], _ :: _ => rfl
  | _ :: _, [] => rfl
  | x :: l, y :: r => by
    show (eqRs [.int x.1, .int x.2] [.int y.1, .int y.2] && eqRs (l.map peR) (r.map peR)) = _
    rw [eq_peR l r]
    show ((x.1 == y.1 && ((x.2 : Int) == (y.2 : Int) && true)) && (l == r)) = ((x == y) && (l == r))
    congr 1
    rw [Bool.eq_iff_iff]
    obtain ⟨a, b⟩ := x
    obtain ⟨c, d⟩ := y
    simp
    omega
theorem kp_l_is_prime : Keeps 1 m_l_is_prime 1 W_l_is_prime := by
  intro rs C Q E hl h
  unfold W_l_is_prime at h
  split at h
  · rename_i n
    obtain ⟨⟨h0, h1⟩, hc, q⟩ := h
    rw [← facP_all] at q
    walk_at "nb gt"
    · rename_i c l hF
      rw [← facL_flt (by omega) hF]
      rw [resL_peR]
      walk_at "nb gt"
      have e : eqR (.lst ((facL n).map peR)) (.lst [.tup [.int n, .int 1]]) = facP n := by
        show eqRs ((facL n).map peR) ([(n, 1)].map peR) = _
        rw [eq_peR]; unfold facP; rw [decide_eq_true c]; rfl
      show endD C.length Q (.bl (eqR (.lst ((facL n).map peR)) (.lst [.tup [.int n, .int 1]]))) C
      rw [e]
      exact end_l q
    · rename_i c
      have : facP n = false := by unfold facP; rw [decide_eq_false c]; rfl
      rw [this] at q
      exact end_l q
  · exact h.elim

/-- the whole root, as far as the laws' drawing needs it -/
def W_l_root : Wt := fun rs C Q _ => match rs with
  | [.int n] => (0 ≤ n ∧ Ln 100 n) ∧ ∀ r : Int, 0 ≤ r → r ≤ n → r * r ≤ n → n < (r + 1) * (r + 1) → Q (.int r) C
  | _ => False
def m_l_root (ex : Gm → MX) : MS :=
  (mSeq (mPar 1 2 (mCons (mC (.int 0)) (mCons (mOp (oPlus false) (mVar 0) (mC (.int 1))) mNil)))
  (mSeq (mWhile (mVal (mOp oGt (mOp oSub (mVar 2) (mVar 1)) (mC (.int 1)))) (mSeq (mAsg (mOp oDiv (mOp (oPlus false) (mVar 1) (mVar 2)) (mC (.int 2))) (gNm 3))
  (mIfS (mVal (mOp oLe (mOp (oTimes false) (mVar 3) (mVar 3)) (mVar 0))) (mAsg (mVar 3) (gNm 1)) (mAsg (mVar 3) (gNm 2)))))
  (mRet (mVar 1))))
theorem kp_l_root : Keeps 4 m_l_root 1 W_l_root := by
  intro rs C Q E hl h
  unfold W_l_root at h
  split at h
  · rename_i n
    obtain ⟨⟨h0, h1⟩, q⟩ := h
    have h1' := Ln_un h1
    walk_at "nb ev"
    refine while_of (fun k Γ C' => C' = C ∧ ∃ (lo hi : Int) (x : Option R), (hi - lo).toNat = k ∧ Γ = [some (.int n), some (.int lo), some (.int hi), x] ∧ 0 ≤ lo ∧ lo < hi ∧ hi ≤ n + 1 ∧ lo * lo ≤ n ∧ n < hi * hi) (n + 1).toNat ⟨rfl, 0, n + 1, none, by omega, rfl, by omega, by omega, by omega, by simpa using h0, by have := Int.mul_le_mul_of_nonneg_left (show 1 ≤ n + 1 by omega) (show 0 ≤ n + 1 by omega); omega⟩ ?_
    rintro _ _ _ ⟨rfl, lo, hi, x, rfl, rfl, l0, l1, l2, l3, l4⟩ K hK
    walk_at "nb ev"
    refine ifP_dec (fun c => ?_) (fun c => ?_)
    · obtain ⟨mid, em, m0, m1⟩ : ∃ mid : Int, (lo + hi) / 2 = mid ∧ lo < mid ∧ mid < hi := ⟨_, rfl, by omega, by omega⟩
      walk_at "nb ev"
      refine And.intro ⟨by decide, by walk_at "nb sz2"⟩ ?_
      rw [em]
      walk_at "nb ev"
      have lmd : Ln 101 mid := Ln_mk (by omega)
      refine And.intro ⟨by walk_at "nb sz", by walk_at "nb sz"⟩ ?_
      walk_at "nb ev"
      refine ifP_dec (fun c2 => ?_) (fun c2 => ?_)
      · walk_at "nb ev"
        exact hK _ _ _ (by omega) ⟨rfl, mid, hi, _, rfl, rfl, by omega, m1, l2, c2, l4⟩
      · walk_at "nb ev"
        exact hK _ _ _ (by omega) ⟨rfl, lo, mid, _, rfl, rfl, l0, m0, by omega, l3, by omega⟩
    · walk_at "nb ev"
      rw [show hi = lo + 1 by omega] at l4
      exact end_l (q lo l0 (by omega) l3 l4)
  · exact h.elim

-- uses: l_root
def W_l_number : Wt := fun rs C Q _ => match rs with
  | [.cell k, .int most] => (1 ≤ most ∧ most < 1000000000000) ∧ Bx k 20 C fun n => ∀ v : Int, 1 ≤ v → v ≤ most → Q (.int v) (C.set k (.box n))
  | _ => False
def m_l_number (ex : Gm → MX) : MS :=
  (mSeq (mAsg (mCall W_l_take ex (mCons (mVar 0) (mCons (mC (.int 7)) mNil))) (gNm 2))
  (mSeq (mIfS (mVal (mOp oEq (mVar 2) (mC (.int 0)))) (mRet (mOp (oPlus false) (mC (.int 1)) (mCall W_l_take ex (mCons (mVar 0) (mCons (mFn fMin2 (mCons (mVar 1) (mCons (mC (.int 30)) mNil))) mNil))))) mNext)
  (mSeq (mIfS (mVal (mOp oEq (mVar 2) (mC (.int 1)))) (mSeq (mAsg (mC (.int 1)) (gNm 3))
  (mSeq (mFor (iRg1 (mCons (mCall W_l_take ex (mCons (mVar 0) (mCons (mC (.int 8)) mNil))) mNil)) (gNm 4) (mSeq (mAsg (mOp oIx (mLst false (mCons (mC (.int 2)) (mCons (mC (.int 2)) (mCons (mC (.int 2)) (mCons (mC (.int 3)) (mCons (mC (.int 3)) (mCons (mC (.int 5)) (mCons (mC (.int 7)) (mCons (mC (.int 11)) (mCons (mC (.int 13)) mNil)))))))))) (mCall W_l_take ex (mCons (mVar 0) (mCons (mC (.int 9)) mNil)))) (gNm 7))
  (mAsg (mIfE (mVal (mOp oLe (mOp (oTimes false) (mVar 3) (mVar 7)) (mVar 1))) (mOp (oTimes false) (mVar 3) (mVar 7)) (mVar 3)) (gNm 3))))
  (mRet (mVar 3)))) mNext)
  (mSeq (mIfS (mVal (mOp oEq (mVar 2) (mC (.int 2)))) (mSeq (mPar 7 3 (mCons (mOp oIx (mLst false (mCons (mC (.int 2)) (mCons (mC (.int 3)) (mCons (mC (.int 5)) (mCons (mC (.int 7)) (mCons (mC (.int 11)) (mCons (mC (.int 13)) (mCons (mC (.int 17)) (mCons (mC (.int 19)) (mCons (mC (.int 23)) (mCons (mC (.int 29)) (mCons (mC (.int 31)) (mCons (mC (.int 97)) (mCons (mC (.int 101)) mNil)))))))))))))) (mCall W_l_take ex (mCons (mVar 0) (mCons (mC (.int 13)) mNil)))) (mCons (mC (.int 1)) mNil)))
  (mSeq (mFor (iRg1 (mCons (mOp (oPlus false) (mC (.int 1)) (mCall W_l_take ex (mCons (mVar 0) (mCons (mC (.int 9)) mNil)))) mNil)) (gNm 4) (mAsg (mIfE (mVal (mOp oLe (mOp (oTimes false) (mVar 3) (mVar 7)) (mVar 1))) (mOp (oTimes false) (mVar 3) (mVar 7)) (mVar 3)) (gNm 3)))
  (mRet (mVar 3)))) mNext)
  (mSeq (mIfS (mVal (mOp oEq (mVar 2) (mC (.int 3)))) (mSeq (mAsg (mOp (oPlus false) (mC (.int 1)) (mCall W_l_take ex (mCons (mVar 0) (mCons (mFn fMax2 (mCons (mC (.int 1)) (mCons (mCall W_l_root ex (mCons (mVar 1) mNil)) mNil))) mNil)))) (gNm 5))
  (mRet (mFn fMax2 (mCons (mC (.int 1)) (mCons (mFn fMin2 (mCons (mVar 1) (mCons (mOp oSub (mOp (oPlus false) (mOp (oTimes false) (mVar 5) (mVar 5)) (mCall W_l_take ex (mCons (mVar 0) (mCons (mC (.int 3)) mNil)))) (mC (.int 1))) mNil))) mNil))))) mNext)
  (mSeq (mIfS (mVal (mOp oEq (mVar 2) (mC (.int 4)))) (mSeq (mAsg (mOp (oPlus false) (mC (.int 1)) (mCall W_l_take ex (mCons (mVar 0) (mCons (mFn fMax2 (mCons (mC (.int 1)) (mCons (mCall W_l_root ex (mCons (mVar 1) mNil)) mNil))) mNil)))) (gNm 6))
  (mRet (mFn fMax2 (mCons (mC (.int 1)) (mCons (mFn fMin2 (mCons (mVar 1) (mCons (mOp (oTimes false) (mVar 6) (mOp (oPlus false) (mC (.int 1)) (mCall W_l_take ex (mCons (mVar 0) (mCons (mFn fMax2 (mCons (mC (.int 1)) (mCons (mOp oDiv (mVar 1) (mVar 6)) mNil))) mNil))))) mNil))) mNil))))) mNext)
  (mRet (mOp (oPlus false) (mC (.int 1)) (mCall W_l_take ex (mCons (mVar 0) (mCons (mVar 1) mNil)))))))))))
theorem mul_ge {v p : Int} (h0 : 0 ≤ v) (h1 : 1 ≤ p) : v ≤ v * p := by have := Int.mul_le_mul_of_nonneg_left h1 h0; rwa [Int.mul_one] at this
theorem kp_l_number : Keeps 8 m_l_number 2 W_l_number := by
  intro rs C Q E hl h
  unfold W_l_number at h
  split at h
  · rename_i k most
    obtain ⟨⟨h1, h2⟩, n, hk0, hn, q⟩ := h
    have q' : ∀ (n' : Nat) (v : Int), n' ≤ n + 20 → 1 ≤ v → v ≤ most → endD C.length Q (.int v) (C.set k (.box n')) := fun n' v a b c => end_l (q n' a v b c)
    have turn : ∀ (p v : Int), 2 ≤ p → p ≤ 200 → 1 ≤ v → v ≤ most → Ln 40 v ∧ Ln 40 p ∧ v ≤ v * p := fun p v p1 p2 v1 v2 => ⟨Ln_mk (by omega), Ln_mk (by omega), mul_ge (by omega) (by omega)⟩
    walk_at "nb gt"
    · exact q' _ _ (by omega) (by omega) (by omega)
    · refine forR_inv (fun j Γ C' => ∃ (v : Int) (n' : Nat) (x2 x4 x7 : Option R), n' ≤ n + 2 + j ∧ 1 ≤ v ∧ v ≤ most ∧ C' = C.set k (.box n') ∧ Γ = [some (.cell k), some (.int most), x2, some (.int v), x4, none, none, x7]) _ ⟨1, n + 1 + 1, _, none, none, by omega, by decide, h1, rfl, rfl⟩ ?_ ?_
      · rintro j _ _ hj ⟨v, n', x2, x4, x7, hn', hv1, hv2, rfl, rfl⟩ K hK
        walk_at "nb gt"
        (refine at_rng 2 13 (by omega) (by simp only [List.length_cons, List.length_nil]; omega) (by decide) (fun _ _ _ => ?_))
        rename_i p p1 p2
        obtain ⟨l1, l2, l3⟩ := turn p v (by omega) (by omega) hv1 hv2
        walk_at "nb gt"
        · exact hK _ _ ⟨v * p, n' + 1, _, _, _, by omega, by omega, by assumption, rfl, rfl⟩
        · exact hK _ _ ⟨v, n' + 1, _, _, _, by omega, hv1, hv2, rfl, rfl⟩
      · rintro _ _ ⟨v, n', x2, x4, x7, hn', hv1, hv2, rfl, rfl⟩
        exact q' n' v (by omega) hv1 hv2
    · (refine at_rng 2 101 (by omega) (by simp only [List.length_cons, List.length_nil]; omega) (by decide) (fun _ _ _ => ?_))
      rename_i p p1 p2
      walk_at "nb gt"
      refine forR_inv (fun j Γ C' => ∃ (v : Int) (x2 x4 : Option R), 1 ≤ v ∧ v ≤ most ∧ C' = C.set k (.box (n + 1 + 1 + 1)) ∧ Γ = [some (.cell k), some (.int most), x2, some (.int v), x4, none, none, some (.int p)]) _ ⟨1, _, none, by decide, h1, rfl, rfl⟩ ?_ ?_
      · rintro j _ _ hj ⟨v, x2, x4, hv1, hv2, rfl, rfl⟩ K hK
        obtain ⟨l1, l2, l3⟩ := turn p v (by omega) (by omega) hv1 hv2
        walk_at "nb gt"
        · exact hK _ _ ⟨v * p, _, _, by omega, by assumption, rfl, rfl⟩
        · exact hK _ _ ⟨v, _, _, hv1, hv2, rfl, rfl⟩
      · rintro _ _ ⟨v, x2, x4, hv1, hv2, rfl, rfl⟩
        exact q' _ v (by omega) hv1 hv2
    · exact q' _ _ (by omega) (by repeat' split <;> try omega) (by repeat' split <;> try omega)
    · rename_i r r0 r1 r2 r3 d0 d1 d2
      have hq : most / (1 + d0) ≤ most := Int.ediv_le_self _ (by omega)
      have hr : d0 < most := by revert d2; split <;> omega
      walk_at "nb gt"
      rename_i d3 d4 d5
      have : d3 < most := by revert d5; split <;> omega
      have l0 : Ln 40 (1 + d0) := Ln_mk (by omega)
      have l3 : Ln 40 (1 + d3) := Ln_mk (by omega)
      have := mul_ge (v := 1 + d0) (p := 1 + d3) (by omega) (by omega)
      walk_at "nb gt"
      exact q' _ _ (by omega) (by repeat' split <;> try omega) (by repeat' split <;> try omega)
    · exact q' _ _ (by omega) (by omega) (by omega)
  · exact h.elim

def W_l_most : Wt := fun rs C Q _ => match rs with
  | [.cell k] => Bx k 1 C fun n => ∀ v : Int, 1 ≤ v → v ≤ 1000000000 → Q (.int v) (C.set k (.box n))
  | _ => False
def m_l_most (ex : Gm → MX) : MS :=
  (mRet (mOp oIx (mLst false (mCons (mC (.int 300)) (mCons (mC (.int 300)) (mCons (mC (.int 2000)) (mCons (mC (.int 2000)) (mCons (mC (.int 40000)) (mCons (mOp oPow (mC (.int 10)) (mC (.int 6))) (mCons (mOp oPow (mC (.int 10)) (mC (.int 6))) (mCons (mOp oPow (mC (.int 10)) (mC (.int 9))) mNil))))))))) (mCall W_l_take ex (mCons (mVar 0) (mCons (mC (.int 8)) mNil)))))
theorem kp_l_most : Keeps 1 m_l_most 1 W_l_most := by
  intro rs C Q E hl h
  unfold W_l_most at h
  split at h
  · rename_i k
    obtain ⟨n, hk, hn, q⟩ := h
    walk_at "nb gt"
    refine at_rng 1 1000000000 (by omega) (by simp; omega) (by decide) fun v v0 v1 => ?_
    exact end_l (q _ (by omega) v v0 v1)
  · exact h.elim

-- uses: is_passed l_power
def W_l_strong : Wt := fun rs C Q _ => match rs with
  | [.int n, .int b] => ((5 ≤ n ∧ n ≤ 1000000000 ∧ n % 2 = 1) ∧ 0 ≤ b ∧ b ≤ 1000000000) ∧ Q (.bl (strB n b)) C
  | _ => False
def m_l_strong (ex : Gm → MX) : MS :=
  (mSeq (mPar 4 5 (mCons (mOp oSub (mVar 0) (mC (.int 1))) (mCons (mC (.int 0)) mNil)))
  (mSeq (mWhile (mVal (mOp oEq (mOp oAnd (mVar 4) (mC (.int 1))) (mC (.int 0)))) (mPar 4 5 (mCons (mOp oShr (mVar 4) (mC (.int 1))) (mCons (mOp (oPlus false) (mVar 5) (mC (.int 1))) mNil))))
  (mSeq (mAsg (mCall W_l_power ex (mCons (mVar 1) (mCons (mVar 4) (mCons (mVar 0) mNil)))) (gNm 2))
  (mSeq (mIfS (mVal (mOp (oIn false) (mVar 2) (mLst false (mCons (mC (.int 1)) (mCons (mOp oSub (mVar 0) (mC (.int 1))) mNil))))) (mRet (mC (.bl true))) mNext)
  (mSeq (mFor (iRg1 (mCons (mOp oSub (mVar 5) (mC (.int 1))) mNil)) (gNm 3) (mSeq (mAsg (mOp oMod (mFn fInt (mCons (mOp (oTimes false) (mVar 2) (mVar 2)) mNil)) (mVar 0)) (gNm 2))
  (mIfS (mVal (mOp oEq (mVar 2) (mOp oSub (mVar 0) (mC (.int 1))))) (mRet (mC (.bl true))) mNext)))
  (mRet (mC (.bl false))))))))
theorem kp_l_strong : Keeps 6 m_l_strong 2 W_l_strong := by
  intro rs C Q E hl h
  unfold W_l_strong at h
  split at h
  · rename_i n b
    obtain ⟨⟨⟨n0, n1, n2⟩, b0, b1⟩, q⟩ := h
    walk_at "nb gt"
    refine while_of (fun s Γ C' => C = C' ∧ ∃ D t : Nat, D = s ∧ 0 < D ∧ (n - 1).toNat = 2 ^ t * D ∧ t ≤ (n - 1).toNat ∧ Γ = [some (.int n), some (.int b), none, none, some (.int (D : Int)), some (.int (t : Int))]) (n - 1).toNat ⟨rfl, (n - 1).toNat, 0, rfl, by omega, by simp, by omega, by rw [show (((n - 1).toNat : Nat) : Int) = n - 1 by omega]; rfl⟩ ?_
    rintro _ _ _ ⟨rfl, D, t, rfl, d0, hD, ht, rfl⟩ K hK
    have hle : D ≤ (n - 1).toNat := by rw [hD]; exact Nat.le_mul_of_pos_left _ (Nat.two_pow_pos _)
    have p1 : (2 : Int) ^ 1 = 2 := rfl
    walk_at "nb gt"
    · rename_i c
      rw [p1] at c
      have h3 : (n - 1).toNat = 2 ^ (t + 1) * (D / 2) := by
        rw [hD, Nat.pow_succ, Nat.mul_assoc, show 2 * (D / 2) = D by omega]
      refine hK (D / 2) _ _ (by omega) ⟨rfl, D / 2, t + 1, rfl, by omega, h3, ?_, by rw [show ((D / 2 : Nat) : Int) = (D : Int) / 2 by omega, show ((t + 1 : Nat) : Int) = (t : Int) + 1 by omega]; rfl⟩
      rw [h3]
      have := Nat.lt_two_pow_self (n := t + 1)
      have h4 := Nat.le_mul_of_pos_right (2 ^ (t + 1)) (show 0 < D / 2 by omega)
      omega
    · rename_i c
      rw [p1] at c
      have hS := Strong_iff (b := b) (by omega) hD
      have bd : ∀ k : Nat, 0 ≤ b ^ k % n ∧ b ^ k % n < n := fun k => ⟨Int.emod_nonneg _ (by omega), Int.emod_lt_of_pos _ (by omega)⟩
      have t1 : 1 ≤ t := by
        rcases Nat.eq_zero_or_pos t with z | z
        · subst z; rw [Nat.pow_zero, Nat.one_mul] at hD; omega
        · exact z
      rw [pwm_nat]
      refine And.intro ⟨rfl, rfl⟩ ?_
      have em : (if false = true then ![R.int 1, R.int (n - 1)].any fun z => eqR z (R.int (b ^ D % n)) else [R.int 1, R.int (n - 1)].any fun z => eqR z (R.int (b ^ D % n))) = (decide (1 = b ^ D % n) || decide (n - 1 = b ^ D % n)) := by
        rw [if_neg (by decide)]
        show (eqR (.int 1) (.int (b ^ D % n)) || (eqR (.int (n - 1)) (.int (b ^ D % n)) || false)) = _
        rw [Bool.or_false]; simp [eqR]; rfl
      show ifP (if false = true then ![R.int 1, R.int (n - 1)].any fun z => eqR z (R.int (b ^ D % n)) else [R.int 1, R.int (n - 1)].any fun z => eqR z (R.int (b ^ D % n))) _ _
      rw [em]
      by_cases c1 : 1 = b ^ D % n
      · rw [decide_eq_true c1, Bool.true_or]
        rw [strB_of (r := true) ⟨fun _ => hS.mpr (.inl c1.symm), fun _ => rfl⟩] at q
        walk_at "nb gt"
        exact end_l q
      · by_cases c2 : n - 1 = b ^ D % n
        · rw [decide_eq_true c2, Bool.or_true]
          rw [strB_of (r := true) ⟨fun _ => hS.mpr (.inr ⟨0, by omega, by rw [Nat.pow_zero, Nat.one_mul]; exact c2.symm⟩), fun _ => rfl⟩] at q
          walk_at "nb gt"
          exact end_l q
        · rw [decide_eq_false c1, decide_eq_false c2, Bool.or_false]
          walk_at "nb gt"
          refine forR_inv (fun i Γ C' => C = C' ∧ (∀ j : Nat, j ≤ i → b ^ (2 ^ j * D) % n ≠ n - 1) ∧ ∃ x3, Γ = [some (.int n), some (.int b), some (.int (b ^ (2 ^ i * D) % n)), x3, some (.int (D : Int)), some (.int (t : Int))]) _ ⟨rfl, fun j hj => ?_, none, by rw [Nat.pow_zero, Nat.one_mul]; rfl⟩ ?_ ?_
          · rw [show j = 0 by omega, Nat.pow_zero, Nat.one_mul]; exact fun z => c2 z.symm
          · rintro i _ _ hi ⟨rfl, hn, x3, rfl⟩ K2 hK2
            have bi := bd (2 ^ i * D)
            have li : Ln 40 (b ^ (2 ^ i * D) % n) := Ln_mk (by omega)
            walk_at "nb gt"
            · rename_i c3
              rw [← pow_sq_mod] at c3
              rw [strB_of (r := true) ⟨fun _ => hS.mpr (.inr ⟨i + 1, by omega, c3⟩), fun _ => rfl⟩] at q
              exact end_l q
            · rename_i c3
              rw [← pow_sq_mod] at c3
              refine hK2 _ _ ⟨rfl, fun j hj => ?_, _, by rw [pow_sq_mod]; rfl⟩
              rcases Nat.lt_or_ge i j with z | z
              · rw [show j = i + 1 by omega]; exact c3
              · exact hn j z
          · rintro _ _ ⟨rfl, hn, x3, rfl⟩
            walk_at "nb gt"
            have hno : ¬ Strong n b := fun z => by
              rcases hS.mp z with z | ⟨i, hi, z⟩
              · exact c1 z.symm
              · exact hn i (by omega) z
            rw [strB_of (r := false) ⟨fun z => absurd z (by decide), fun z => absurd z hno⟩] at q
            exact end_l q
  · exact h.elim

-- uses: strong_witness l_is_prime l_strong
def W_l_witness : Wt := fun rs C Q _ => match rs with
  | [.int n] => (5 ≤ n ∧ n ≤ 1000000000 ∧ n % 2 = 1) ∧ okC C.length C ∧ ∀ r, WitOk n r → Q r C
  | _ => False
def m_l_witness (ex : Gm → MX) : MS :=
  (mSeq (mIfS (mTru (mCall W_l_is_prime ex (mCons (mVar 0) mNil))) (mRet (mC .non)) mNext)
  (mSeq (mFor (iRg2 (mCons (mC (.int 2)) (mCons (mOp oSub (mVar 0) (mC (.int 1))) mNil))) (gNm 1) (mIfS (mNotT (mTru (mCall W_l_strong ex (mCons (mVar 0) (mCons (mVar 1) mNil))))) (mRet (mVar 1)) mNext))
  (mRet (mC .non))))
theorem kp_l_witness : Keeps 2 m_l_witness 1 W_l_witness := by
  intro rs C Q E hl h
  unfold W_l_witness at h
  split at h
  · rename_i n
    obtain ⟨⟨n1, n2, n3⟩, hc, q⟩ := h
    walk_at "nb gt"
    cases e : primeI n
    · walk_at "nb gt"
      refine forR_inv (fun i Γ C' => C = C' ∧ (∀ c, 2 ≤ c → c < 2 + (i : Int) → Strong n c) ∧ ∃ x1, Γ = [some (.int n), x1]) _ ⟨rfl, by omega, none, rfl⟩ ?_ ?_
      · rintro i _ _ hi ⟨rfl, hb, x1, rfl⟩ K hK
        walk_at "nb gt"
        cases c2 : strB n (2 + i)
        · have c3 : ¬ Strong n (2 + i) := fun z => by rw [strB_un.mpr z] at c2; cases c2
          walk_at "nb gt"
          exact end_l (q _ (by unfold WitOk; exact .inr ⟨e, _, rfl, by omega, by omega, c3, hb⟩))
        · have c3 := strB_un.mp c2
          walk_at "nb gt"
          refine hK _ _ ⟨rfl, fun c g1 g2 => ?_, _, rfl⟩
          rcases (by omega : c < 2 + (i : Int) ∨ c = 2 + i) with z | z
          · exact hb c g1 z
          · subst z; exact c3
      · rintro _ _ ⟨rfl, hb, x1, rfl⟩
        obtain ⟨w, w1, w2, w3⟩ := wit_ex n1 n3 e
        exact absurd (hb w w1 (by omega)) w3
    · walk_at "nb gt"
      exact end_l (q _ (by unfold WitOk; exact .inl ⟨e, rfl⟩))
  · exact h.elim

-- uses: passes_fermat passes_strong strong_witness
def Ask7 (w x y : R) (C : Cs) (Q : Qe) : Prop :=
  (w = .str "fermat" ∧ PfA x y (fun n b => Q (.lst [.str "told", .bl (decide (pwm b (n - 1) n = 1))]) C) (fun v => Q (.lst [.str "number", v, .bl true]) C) (fun v => Q (.lst [.str "base", v, .bl true]) C)) ∨
  (w = .str "strong" ∧ PfA x y (fun n b => Q (.lst [.str "told", .bl (strB n b)]) C) (fun v => Q (.lst [.str "number", v, .bl true]) C) (fun v => Q (.lst [.str "base", v, .bl true]) C)) ∨
  (w = .str "witness" ∧ WiA x (fun n => ∀ r, WitOk n r → Q (.lst [.str "told", r]) C) (fun v => Q (.lst [.str "number", v, .bl true]) C))
def W_l_asked : Wt := fun rs C Q _ => match rs with
  | [w, x, y, .bl _] => (tyd C x = true ∧ tyd C y = true) ∧ Ask7 w x y C Q
  | _ => False
def m_l_asked (ex : Gm → MX) : MS :=
  (mTry knE subE (fun ex1 => (mSeq (mIfS (mVal (mOp oEq (mVar 0) (mC (.str "fermat")))) (mRet (mLst false (mCons (mC (.str "told")) (mCons (mIfE (mTru (mVar 3)) (mCallK W_passes_fermat ex1 0 2 [1, 0] mNil (mCons (mVar 2) (mCons (mVar 1) mNil))) (mCall W_passes_fermat ex1 (mCons (mVar 1) (mCons (mVar 2) mNil)))) mNil)))) mNext)
  (mSeq (mIfS (mVal (mOp oEq (mVar 0) (mC (.str "strong")))) (mRet (mLst false (mCons (mC (.str "told")) (mCons (mIfE (mTru (mVar 3)) (mCallK W_passes_strong ex1 0 2 [1, 0] mNil (mCons (mVar 2) (mCons (mVar 1) mNil))) (mCall W_passes_strong ex1 (mCons (mVar 1) (mCons (mVar 2) mNil)))) mNil)))) mNext)
  (mRet (mLst false (mCons (mC (.str "told")) (mCons (mIfE (mTru (mVar 3)) (mCallK W_strong_witness ex1 0 1 [0] mNil (mCons (mVar 1) mNil)) (mCall W_strong_witness ex1 (mCons (mVar 1) mNil))) mNil))))))) [⟨"InvalidNumber", 4, fun a d c1 => (mRet (mLst false (mCons (mC (.str "number")) (mCons (mExF a d c1 "given" (mVar 4)) (mCons (mExI subE a d c1 "NumberError" (mVar 4)) mNil)))))⟩, ⟨"InvalidBase", 4, fun a d c1 => (mRet (mLst false (mCons (mC (.str "base")) (mCons (mExF a d c1 "given" (mVar 4)) (mCons (mExI subE a d c1 "NumberError" (mVar 4)) mNil)))))⟩] ex)
theorem kp_l_asked : Keeps 5 m_l_asked 4 W_l_asked := by
  intro rs C Q E hl h
  unfold W_l_asked at h
  split at h
  · rename_i w x y nb
    obtain ⟨⟨h1, h2⟩, h⟩ := h
    unfold Ask7 at h
    rcases h with ⟨rfl, q⟩ | ⟨rfl, q⟩ | ⟨rfl, q⟩
    · cases nb <;> (walk_at "nb gt"; refine PfA_mono q (fun n b h => ?_) (fun h => ?_) (fun h => ?_) <;> (walk_at "nb gt"; exact end_l h))
    · cases nb <;> (walk_at "nb gt"; refine PfA_mono q (fun n b h => ?_) (fun h => ?_) (fun h => ?_) <;> (walk_at "nb gt"; exact end_l h))
    · cases nb <;> (walk_at "nb gt"; refine WiA_mono q (fun n h r hr => ?_) (fun h => ?_)) <;> first | (walk_at "nb gt"; exact end_l (h r hr)) | (walk_at "nb gt"; exact end_l h) | fail
  · exact h.elim

theorem at_pr {xs : List R} {i : Int} {K : R → Prop} (P : R → Prop) (h0 : 0 ≤ i) (h1 : i < xs.length) (h : allP xs P) (k : ∀ v, P v → K v) : optP (atM xs i) K := at_all h0 h1 fun x hx => k x (allP_mem h x hx)
/-- without cells -/
def Plain (v : R) : Prop := (∀ C, tyd C v = true) ∧ (∀ n, okL n [v]) ∧ ∀ C n, Alike C (n + 4) v v
theorem plain_int (i : Int) : Plain (.int i) := ⟨fun _ => rfl, fun _ => ⟨trivial, trivial⟩, fun _ _ => .int⟩
theorem plain_lst (i : Int) : Plain (.lst [.int i]) := ⟨fun _ => rfl, fun _ => ⟨⟨trivial, trivial⟩, trivial⟩, fun _ _ => by walk_at "nb alk"⟩
theorem plain_tup (i : Int) : Plain (.tup [.int i]) := ⟨fun _ => rfl, fun _ => ⟨⟨trivial, trivial⟩, trivial⟩, fun _ _ => by walk_at "nb alk"⟩
theorem plain_non : Plain .non := ⟨fun _ => rfl, fun _ => ⟨trivial, trivial⟩, fun _ _ => .non⟩
theorem plain_bl (b : Bool) : Plain (.bl b) := ⟨fun _ => rfl, fun _ => ⟨trivial, trivial⟩, fun _ _ => .bl⟩
theorem plain_str {z : Str} (h1 : z.length ≤ 1000) (h2 : (z.cps.all fun c => decide (c < 0x110000)) = true) : Plain (.str z) := ⟨fun _ => rfl, fun _ => ⟨trivial, trivial⟩, fun _ _ => .str h1 h2⟩

-- uses: l_is_prime l_most l_number plainw
def W_l_drawn : Wt := fun rs C Q _ => match rs with
  | [.cell k] => okC C.length C ∧ Bx k 30 C fun n => ∀ v : Int, 5 ≤ v → v ≤ 999999999 → v % 2 = 1 → Q (.int v) (C.set k (.box n))
  | _ => False
def m_l_drawn (ex : Gm → MX) : MS :=
  (mSeq (mPar 2 3 (mCons (mCall W_l_take ex (mCons (mVar 0) (mCons (mC (.int 6)) mNil))) (mCons (mCall W_l_most ex (mCons (mVar 0) mNil)) mNil)))
  (mSeq (mIfS (mVal (mOp oEq (mVar 2) (mC (.int 0)))) (mRet (mOp oIx (mLst false (mCons (mC (.int 9)) (mCons (mC (.int 15)) (mCons (mC (.int 25)) (mCons (mC (.int 341)) (mCons (mC (.int 561)) (mCons (mC (.int 645)) (mCons (mC (.int 1105)) (mCons (mC (.int 1729)) (mCons (mC (.int 2047)) (mCons (mC (.int 3277)) (mCons (mC (.int 4033)) (mCons (mC (.int 4681)) (mCons (mC (.int 8321)) (mCons (mC (.int 25326001)) (mCons (mC (.int 1373653)) (mCons (mOp oBor (mOp oDiv (mC (.int 3215031751)) (mC (.int 10))) (mC (.int 1))) mNil))))))))))))))))) (mCall W_l_take ex (mCons (mVar 0) (mCons (mC (.int 16)) mNil))))) mNext)
  (mSeq (mIfS (mVal (mOp oEq (mVar 2) (mC (.int 1)))) (mSeq (mAsg (mOp oIx (mLst false (mCons (mC (.int 5)) (mCons (mC (.int 7)) (mCons (mC (.int 11)) (mCons (mC (.int 13)) (mCons (mC (.int 31)) (mCons (mC (.int 61)) (mCons (mC (.int 241)) (mCons (mOp (oPlus false) (mOp (oTimes false) (mC (.int 2)) (mCall W_l_take ex (mCons (mVar 0) (mCons (mC (.int 300)) mNil)))) (mC (.int 3))) mNil))))))))) (mCall W_l_take ex (mCons (mVar 0) (mCons (mC (.int 8)) mNil)))) (gNm 4))
  (mRet (mOp (oTimes false) (mVar 4) (mOp oSub (mOp (oTimes false) (mC (.int 2)) (mVar 4)) (mC (.int 1)))))) mNext)
  (mSeq (mIfS (mVal (mOp oEq (mVar 2) (mC (.int 2)))) (mRet (mOp (oTimes false) (mOp (oPlus false) (mOp (oTimes false) (mC (.int 2)) (mCall W_l_take ex (mCons (mVar 0) (mCons (mC (.int 900)) mNil)))) (mC (.int 3))) (mOp (oPlus false) (mOp (oTimes false) (mC (.int 2)) (mCall W_l_take ex (mCons (mVar 0) (mCons (mC (.int 900)) mNil)))) (mC (.int 3))))) mNext)
  (mSeq (mAsg (mFn fMax2 (mCons (mC (.int 5)) (mCons (mOp oBor (mCall W_l_number ex (mCons (mVar 0) (mCons (mVar 3) mNil))) (mC (.int 1))) mNil))) (gNm 1))
  (mSeq (mWhile (mAndT (mVal (mOp oEq (mVar 2) (mC (.int 3)))) (mNotT (mTru (mCall W_l_is_prime ex (mCons (mVar 1) mNil))))) (mAsg (mIfE (mVal (mOp oGt (mVar 1) (mC (.int 6)))) (mOp oSub (mVar 1) (mC (.int 2))) (mC (.int 5))) (gNm 1)))
  (mRet (mFn fMin2 (mCons (mVar 1) (mCons (mOp oSub (mOp oPow (mC (.int 10)) (mC (.int 9))) (mC (.int 1))) mNil))))))))))
theorem or_one (x : Nat) : x ||| 1 = 2 * (x / 2) + 1 := by
  apply Nat.eq_of_testBit_eq
  intro i
  rw [Nat.testBit_or]
  cases i with
  | zero => simp
  | succ i =>
    rw [Nat.testBit_succ, Nat.testBit_succ, Nat.testBit_succ]
    rw [show (2 * (x / 2) + 1) / 2 = x / 2 by omega]
    simp
theorem odd_mul {a b A B : Int} (ha : a % 2 = 1) (hb : b % 2 = 1) (a1 : 3 ≤ a) (a2 : a ≤ A) (b1 : 3 ≤ b) (b2 : b ≤ B) : 9 ≤ a * b ∧ a * b ≤ A * B ∧ a * b % 2 = 1 := by
  refine ⟨Int.mul_le_mul a1 b1 (by decide) (by omega), Int.mul_le_mul a2 b2 (by omega) (by omega), ?_⟩
  rw [Int.mul_emod, ha, hb]; rfl
theorem kp_l_drawn : Keeps 5 m_l_drawn 1 W_l_drawn := by
  intro rs C Q E hl h
  unfold W_l_drawn at h
  split at h
  · rename_i k
    obtain ⟨hc, n, hk0, hn, q⟩ := h
    have hcs : ∀ n', okC (C.set k (.box n')).length (C.set k (.box n')) := fun n' => by rw [List.length_set]; exact okC_set hc
    have p9 : (10 : Int) ^ Int.toNat 9 = 1000000000 := by decide
    walk_at "nb gt"
    · refine at_pr (fun r => ∃ v, r = .int v ∧ 5 ≤ v ∧ v ≤ 999999999 ∧ v % 2 = 1) (by omega) (by simp; omega) ?_ ?_
      · repeat' first | exact trivial | refine And.intro ⟨_, rfl, by decide, by decide, by decide⟩ ?_
      · rintro r ⟨v, rfl, v1, v2, v3⟩
        walk_at "nb gt"
        exact end_l (q _ (by omega) v v1 v2 v3)
    · rename_i d0 d1 d2 e0 e1 e2
      refine at_pr (fun r => ∃ v, r = .int v ∧ 3 ≤ v ∧ v ≤ 603 ∧ v % 2 = 1) (by omega) (by simp; omega) ?_ ?_
      · repeat' first | exact trivial | refine And.intro ⟨_, rfl, by omega, by omega, by omega⟩ ?_
      · rintro r ⟨v, rfl, v1, v2, v3⟩
        walk_at "nb gt"
        obtain ⟨h1, h2, h3⟩ := odd_mul v3 (show (2 * v - 1) % 2 = 1 by omega) v1 v2 (show 3 ≤ 2 * v - 1 by omega) (show 2 * v - 1 ≤ 1205 by omega)
        exact end_l (q _ (by omega) _ (by omega) (by omega) h3)
    · rename_i d0 d1 d2 e0 e1 e2
      obtain ⟨h1, h2, h3⟩ := odd_mul (show (2 * d0 + 3) % 2 = 1 by omega) (show (2 * e0 + 3) % 2 = 1 by omega) (show 3 ≤ 2 * d0 + 3 by omega) (show 2 * d0 + 3 ≤ 1801 by omega) (show 3 ≤ 2 * e0 + 3 by omega) (show 2 * e0 + 3 ≤ 1801 by omega)
      exact end_l (q _ (by omega) _ (by omega) (by omega) h3)
    · rename_i d dd0 dd1 n1 hn1 most mo0 mo1 g1 g2 g3 n2 hn2 v v0 v1
      have ov := or_one v.toNat
      rw [show (v.toNat ||| Int.toNat 1) = 2 * (v.toNat / 2) + 1 from ov]
      have w0 : (5 : Int) ≤ (if ((2 * (v.toNat / 2) + 1 : Nat) : Int) > 5 then ((2 * (v.toNat / 2) + 1 : Nat) : Int) else 5) ∧ (if ((2 * (v.toNat / 2) + 1 : Nat) : Int) > 5 then ((2 * (v.toNat / 2) + 1 : Nat) : Int) else 5) ≤ 1000000001 ∧ (if ((2 * (v.toNat / 2) + 1 : Nat) : Int) > 5 then ((2 * (v.toNat / 2) + 1 : Nat) : Int) else 5) % 2 = 1 := by split <;> omega
      generalize (if ((2 * (v.toNat / 2) + 1 : Nat) : Int) > 5 then ((2 * (v.toNat / 2) + 1 : Nat) : Int) else 5) = w0v at *
      obtain ⟨wa, wb, wc⟩ := w0
      refine while_of (fun s Γ C' => C' = C.set k (.box n2) ∧ ∃ w : Int, w.toNat = s ∧ 5 ≤ w ∧ w ≤ 1000000001 ∧ w % 2 = 1 ∧ Γ = [some (.cell k), some (.int w), some (.int d), some (.int most), none]) w0v.toNat ⟨rfl, w0v, rfl, wa, wb, wc, rfl⟩ ?_
      rintro _ _ _ ⟨rfl, w, rfl, wa, wb, wc, rfl⟩ K hK
      have hc2 := hcs n2
      have hk2 := get_set (b := Ct.box n2) hk0
      walk_at "nb gt"
      · cases e : primeI w
        · walk_at "nb gt"
          · exact hK (w - 2).toNat _ _ (by omega) ⟨rfl, w - 2, rfl, by omega, by omega, by omega, rfl⟩
          · have : w = 5 := by omega
            subst this
            exact absurd e (by decide +kernel)
        · walk_at "nb gt"
          rw [p9]
          exact end_l (q n2 (by omega) _ (by split <;> omega) (by split <;> omega) (by split <;> omega))
      · rw [p9]
        exact end_l (q n2 (by omega) _ (by split <;> omega) (by split <;> omega) (by split <;> omega))
  · exact h.elim

-- uses: l_power plainw
def W_l_bases : Wt := fun rs C Q _ => match rs with
  | [.cell k, .int m] => (5 ≤ m ∧ m ≤ 1000000000) ∧ Bx k 3 C fun n => ∀ bs : List Int, bs.length ≤ 7 → (∀ b ∈ bs, 2 ≤ b ∧ b ≤ m - 2) → Q (.lst (bs.map .int)) (C.set k (.box n))
  | _ => False
def m_l_bases (ex : Gm → MX) : MS :=
  (mSeq (mAsg (mLst false (mCons (mC (.int 2)) (mCons (mC (.int 3)) (mCons (mOp oSub (mVar 1) (mC (.int 2))) (mCons (mOp (oPlus false) (mC (.int 2)) (mCall W_l_take ex (mCons (mVar 0) (mCons (mOp oSub (mVar 1) (mC (.int 3))) mNil)))) (mCons (mOp (oPlus false) (mC (.int 2)) (mCall W_l_take ex (mCons (mVar 0) (mCons (mOp oSub (mVar 1) (mC (.int 3))) mNil)))) mNil)))))) (gNm 2))
  (mSeq (mAsg (mCall W_l_power ex (mCons (mOp oIx (mVar 2) (mC (.int 3))) (mCons (mOp oDiv (mOp oSub (mVar 1) (mC (.int 1))) (mC (.int 2))) (mCons (mVar 1) mNil)))) (gNm 3))
  (mRet (mComp false (iSeqL (mOp (oPlus false) (mVar 2) (mLst false (mCons (mVar 3) (mCons (mCall W_l_power ex (mCons (mC (.int 2)) (mCons (mOp (oPlus false) (mC (.int 2)) (mCall W_l_take ex (mCons (mVar 0) (mCons (mC (.int 20)) mNil)))) (mCons (mVar 1) mNil)))) mNil))))) (gNm 4) (mVal (mChain oLe oLe (mC (.int 2)) (mVar 4) (mOp oSub (mVar 1) (mC (.int 2))))) (mVar 4) [4]))))
theorem ints_of {lo hi : Int} : ∀ {bs : List R}, allP bs (fun r => ∃ b, r = .int b ∧ lo ≤ b ∧ b ≤ hi) → ∃ l : List Int, bs = l.map .int ∧ ∀ b ∈ l, lo ≤ b ∧ b ≤ hi
  | [], _ => ⟨[], rfl, fun _ h => by cases h⟩
  | r :: bs, ⟨⟨b, e, h1, h2⟩, h⟩ => by
    obtain ⟨l, rfl, hl⟩ := ints_of h
    refine ⟨b :: l, by rw [e]; rfl, fun x hx => ?_⟩
    rcases List.mem_cons.mp hx with rfl | hx
    · exact ⟨h1, h2⟩
    · exact hl x hx
theorem kp_l_bases : Keeps 5 m_l_bases 2 W_l_bases := by
  intro rs C Q E hl h
  unfold W_l_bases at h
  split at h
  · rename_i k m
    obtain ⟨⟨m0, m1⟩, n, hk0, hn, q⟩ := h
    have q' : ∀ (n' : Nat) (bs : List R), n' ≤ n + 3 → bs.length ≤ 7 → allP bs (fun r => ∃ b, r = .int b ∧ 2 ≤ b ∧ b ≤ m - 2) → endD C.length Q (.lst bs) (C.set k (.box n')) := fun n' bs h1 h2 h3 => by
      obtain ⟨l, rfl, hl⟩ := ints_of h3
      rw [List.length_map] at h2
      exact end_l (q n' h1 l h2 hl)
    walk_at "nb gt"
    all_goals
      refine q' _ _ (by omega) (by simp) ?_
      repeat' first | exact trivial | refine And.intro ⟨_, rfl, by omega, by omega⟩ ?_
  · exact h.elim

-- uses: l_drawn l_bases l_witness l_asked
def W_l_right : Wt := fun rs C Q _ => match rs with
  | [.cell k, .bl _] => okC C.length C ∧ Bx k 40 C fun n => Q (.bl true) (C.set k (.box n))
  | _ => False
def m_l_right (ex : Gm → MX) : MS :=
  (mSeq (mAsg (mCall W_l_drawn ex (mCons (mVar 0) mNil)) (gNm 2))
  (mSeq (mFor (iSeqL (mCall W_l_bases ex (mCons (mVar 0) (mCons (mVar 2) mNil)))) (gNm 3) (mSeq (mPar 5 6 (mCons (mOp oEq (mCall W_l_power ex (mCons (mVar 3) (mCons (mOp oSub (mVar 2) (mC (.int 1))) (mCons (mVar 2) mNil)))) (mC (.int 1))) (mCons (mCall W_l_strong ex (mCons (mVar 2) (mCons (mVar 3) mNil))) mNil)))
  (mSeq (mIfS (mAndT (mTru (mVar 6)) (mNotT (mTru (mVar 5)))) (mRet (mC (.bl false))) mNext)
  (mSeq (mFor (iSeqL (mLst false (mCons (mTup (mCons (mC (.str "fermat")) (mCons (mVar 5) mNil))) (mCons (mTup (mCons (mC (.str "strong")) (mCons (mVar 6) mNil))) mNil)))) (gSq 2 (gCn (gNm 7) (gCn (gNm 4) gNl))) (mIfS (mNotT (mTru (mCall W_l_same ex (mCons (mCall W_l_asked ex (mCons (mVar 7) (mCons (mVar 2) (mCons (mVar 3) (mCons (mVar 1) mNil))))) (mCons (mLst false (mCons (mC (.str "told")) (mCons (mVar 4) mNil))) mNil))))) (mRet (mC (.bl false))) mNext))
  (mAsg (mNotE (mVar 1)) (gNm 1))))))
  (mSeq (mAsg (mCall W_l_witness ex (mCons (mVar 2) mNil)) (gNm 4))
  (mRet (mAndE (mCall W_l_same ex (mCons (mCall W_l_asked ex (mCons (mC (.str "witness")) (mCons (mVar 2) (mCons (mC .non) (mCons (mVar 1) mNil))))) (mCons (mLst false (mCons (mC (.str "told")) (mCons (mVar 4) mNil))) mNil))) (mCall W_l_same ex (mCons (mCall W_l_asked ex (mCons (mC (.str "witness")) (mCons (mVar 2) (mCons (mC .non) (mCons (mNotE (mVar 1)) mNil))))) (mCons (mLst false (mCons (mC (.str "told")) (mCons (mVar 4) mNil))) mNil))))))))
theorem kp_l_right : Keeps 8 m_l_right 2 W_l_right := by
  intro rs C Q E hl h
  unfold W_l_right at h
  split at h
  · rename_i k b
    obtain ⟨hc, n, hk0, hn, q⟩ := h
    have hcs : ∀ n', okC (C.set k (.box n')).length (C.set k (.box n')) := fun n' => by rw [List.length_set]; exact okC_set hc
    walk_at "nb gt"
    rename_i n1 hn1 m m1 m2 m3 n2 hn2 bs bl bb
    refine forW_inv (fun i Γ C' => C' = C.set k (.box n2) ∧ ∃ (tb : Bool) (y3 y4 y5 y6 y7 : Option R), Γ = [some (.cell k), some (.bl tb), some (.int m), y3, y4, y5, y6, y7]) _ ⟨rfl, b, _, _, _, _, _, rfl⟩ ?_ ?_
    · rintro x hx i _ _ hi ⟨rfl, tb, y3, y4, y5, y6, y7, rfl⟩ K hK
      obtain ⟨c, hcm, rfl⟩ := List.mem_map.mp hx
      obtain ⟨c1, c2⟩ := bb c hcm
      have hf : strB m c = true → decide (pwm c (m - 1) m = 1) = true := fun z => by
        have := (strB_un.mp z).fermat (by omega)
        refine decide_eq_true ?_
        unfold pwm
        exact this
      walk_at "nb gt"
      have ef : eqR (.int (pwm c (m - 1) m)) (.int 1) = decide (pwm c (m - 1) m = 1) := by simp [eqR]; rfl
      cases e1 : strB m c
      · walk_at "nb gt"
        rw [ef]
        refine forW_inv (fun i Γ C' => C' = C.set k (.box n2) ∧ ∃ (y4 y7 : Option R), Γ = [some (.cell k), some (.bl tb), some (.int m), some (.int c), y4, some (.bl (decide (pwm c (m - 1) m = 1))), some (.bl false), y7]) _ ⟨rfl, _, _, rfl⟩ ?_ ?_
        · rintro x hx i _ _ hi ⟨rfl, y4, y7, rfl⟩ K2 hK2
          have hx : x = .tup [.str "fermat", .bl (decide (pwm c (m - 1) m = 1))] ∨ x = .tup [.str "strong", .bl false] := by simpa using hx
          rcases hx with rfl | rfl
          · walk_at "nb gt"
            refine And.intro ⟨rfl, rfl⟩ (.inl ⟨rfl, PfA_ok m1 (by omega) m3 c1 c2 ?_⟩)
            walk_at "nb gt"
            refine And.intro (by walk_at "nb alk") ?_
            walk_at "nb gt"
            exact hK2 _ _ ⟨rfl, _, _, rfl⟩
          · walk_at "nb gt"
            refine And.intro ⟨rfl, rfl⟩ (.inr (.inl ⟨rfl, PfA_ok m1 (by omega) m3 c1 c2 ?_⟩))
            rw [e1]
            walk_at "nb gt"
            refine And.intro (by walk_at "nb alk") ?_
            walk_at "nb gt"
            exact hK2 _ _ ⟨rfl, _, _, rfl⟩
        · rintro _ _ ⟨rfl, y4, y7, rfl⟩
          walk_at "nb gt"
          exact hK _ _ ⟨rfl, !tb, _, _, _, _, _, rfl⟩
      · have hf := hf e1
        rw [hf] at ef
        rw [ef]
        walk_at "nb gt"
        refine forW_inv (fun i Γ C' => C' = C.set k (.box n2) ∧ ∃ (y4 y7 : Option R), Γ = [some (.cell k), some (.bl tb), some (.int m), some (.int c), y4, some (.bl true), some (.bl true), y7]) _ ⟨rfl, _, _, rfl⟩ ?_ ?_
        · rintro x hx i _ _ hi ⟨rfl, y4, y7, rfl⟩ K2 hK2
          have hx : x = .tup [.str "fermat", .bl true] ∨ x = .tup [.str "strong", .bl true] := by simpa using hx
          rcases hx with rfl | rfl
          · walk_at "nb gt"
            refine And.intro ⟨rfl, rfl⟩ (.inl ⟨rfl, PfA_ok m1 (by omega) m3 c1 c2 ?_⟩)
            rw [hf]
            walk_at "nb gt"
            refine And.intro (by walk_at "nb alk") ?_
            walk_at "nb gt"
            exact hK2 _ _ ⟨rfl, _, _, rfl⟩
          · walk_at "nb gt"
            refine And.intro ⟨rfl, rfl⟩ (.inr (.inl ⟨rfl, PfA_ok m1 (by omega) m3 c1 c2 ?_⟩))
            rw [e1]
            walk_at "nb gt"
            refine And.intro (by walk_at "nb alk") ?_
            walk_at "nb gt"
            exact hK2 _ _ ⟨rfl, _, _, rfl⟩
        · rintro _ _ ⟨rfl, y4, y7, rfl⟩
          walk_at "nb gt"
          exact hK _ _ ⟨rfl, !tb, _, _, _, _, _, rfl⟩
    · rintro _ _ ⟨rfl, tb, y3, y4, y5, y6, y7, rfl⟩
      have hc2 := hcs n2
      walk_at "nb gt"
      rename_i r hr
      have al : ∀ (C : Cs) n, Alike C n r r := fun C n => by
        have hr := hr
        unfold WitOk at hr
        rcases hr with ⟨_, rfl⟩ | ⟨_, b, rfl, _⟩
        · exact .non
        · exact .int
      have asked : ∀ Q2 : Qe, Q2 (.lst [.str "told", r]) (C.set k (.box n2)) → Ask7 (.str "witness") (.int m) .non (C.set k (.box n2)) Q2 := fun Q2 q2 => .inr (.inr ⟨rfl, WiA_ok m1 (by omega) m3 fun r2 hr2 => by rw [hr2.uniq hr]; exact q2⟩)
      walk_at "nb gt"
      refine And.intro ⟨rfl, rfl⟩ (asked _ ?_)
      walk_at "nb gt"
      refine And.intro (by have al2 := al (C.set k (.box n2)); walk_at "nb alk"; exact al2 _) ?_
      walk_at "nb gt"
      refine And.intro ⟨rfl, rfl⟩ (asked _ ?_)
      walk_at "nb gt"
      refine And.intro (by have al2 := al (C.set k (.box n2)); walk_at "nb alk"; exact al2 _) ?_
      walk_at "nb gt"
      exact end_l (q n2 (by omega))
  · exact h.elim

-- uses: l_very l_asked l_odd_value
def W_l_errors : Wt := fun rs C Q _ => match rs with
  | [.cell k, .bl _] => okC C.length C ∧ Bx k 100 C fun n => ∀ C', Ext C k n C' → Q (.bl true) C'
  | _ => False
def m_l_errors (ex : Gm → MX) : MS :=
  (mSeq (mAsg (mOp (oPlus false) (mOp (oTimes false) (mC (.int 2)) (mCall W_l_take ex (mCons (mVar 0) (mCons (mC (.int 500)) mNil)))) (mC (.int 5))) (gNm 2))
  (mSeq (mFor (iSeqL (mLst false (mCons (mC (.str "fermat")) (mCons (mC (.str "strong")) (mCons (mC (.str "witness")) mNil))))) (gNm 3) (mSeq (mAsg (mOp oIx (mLst false (mCons (mC (.int 3)) (mCons (mC (.int 1)) (mCons (mC (.int 4)) (mCons (mUn oNeg (mC (.int 7))) (mCons (mOp (oPlus false) (mOp oPow (mC (.int 10)) (mC (.int 9))) (mC (.int 1))) (mCons (mOp (oTimes false) (mC (.int 2)) (mCall W_l_take ex (mCons (mVar 0) (mCons (mC (.int 99)) mNil)))) (mCons (mOp (oPlus false) (mOp oPow (mC (.int 10)) (mC (.int 28))) (mC (.int 1))) (mCons (mCall W_l_odd_value ex (mCons (mVar 0) mNil)) (mCons (mCall W_l_odd_value ex (mCons (mVar 0) mNil)) mNil)))))))))) (mCall W_l_take ex (mCons (mVar 0) (mCons (mC (.int 9)) mNil)))) (gNm 4))
  (mSeq (mAsg (mCall W_l_asked ex (mCons (mVar 3) (mCons (mVar 4) (mCons (mOp oIx (mLst false (mCons (mC (.int 2)) (mCons (mC (.int 0)) (mCons (mC .non) mNil)))) (mCall W_l_take ex (mCons (mVar 0) (mCons (mC (.int 3)) mNil)))) (mCons (mVar 1) mNil))))) (gNm 5))
  (mIfS (mOrT (mVal (mOp oNe (mOp oIx (mVar 5) (mC (.int 0))) (mC (.str "number")))) (mOrT (mVal (mOp oIsNotB (mOp oIx (mVar 5) (mC (.int 2))) (mC (.bl true)))) (mNotT (mTru (mCall W_l_very ex (mCons (mOp oIx (mVar 5) (mC (.int 1))) (mCons (mVar 4) mNil))))))) (mRet (mC (.bl false))) mNext))))
  (mSeq (mFor (iSeqL (mLst false (mCons (mC (.str "fermat")) (mCons (mC (.str "strong")) mNil)))) (gNm 3) (mSeq (mAsg (mOp oIx (mLst false (mCons (mC (.int 1)) (mCons (mC (.int 0)) (mCons (mOp oSub (mVar 2) (mC (.int 1))) (mCons (mVar 2) (mCons (mUn oNeg (mC (.int 2))) (mCons (mOp oPow (mC (.int 10)) (mC (.int 28))) (mCons (mCall W_l_odd_value ex (mCons (mVar 0) mNil)) (mCons (mCall W_l_odd_value ex (mCons (mVar 0) mNil)) mNil))))))))) (mCall W_l_take ex (mCons (mVar 0) (mCons (mC (.int 8)) mNil)))) (gNm 6))
  (mSeq (mAsg (mCall W_l_asked ex (mCons (mVar 3) (mCons (mVar 2) (mCons (mVar 6) (mCons (mNotE (mVar 1)) mNil))))) (gNm 5))
  (mIfS (mOrT (mVal (mOp oNe (mOp oIx (mVar 5) (mC (.int 0))) (mC (.str "base")))) (mOrT (mVal (mOp oIsNotB (mOp oIx (mVar 5) (mC (.int 2))) (mC (.bl true)))) (mNotT (mTru (mCall W_l_very ex (mCons (mOp oIx (mVar 5) (mC (.int 1))) (mCons (mVar 6) mNil))))))) (mRet (mC (.bl false))) mNext))))
  (mRet (mC (.bl true))))))
theorem no_od {r : R} (h : ∀ i, r ≠ .int i) : odB r = false := by
  cases r with
  | int i => exact absurd rfl (h i)
  | _ => rfl
theorem no_bt {r : R} (h : ∀ i, r ≠ .int i) (a b : Int) : btw a b r = false := by
  cases r with
  | int i => exact absurd rfl (h i)
  | _ => rfl
def Bad7 (w : R) (x : R) : Prop := ∀ (y : R) (C : Cs) (Q : Qe), Q (.lst [.str "number", x, .bl true]) C → Ask7 w x y C Q
theorem bad7 {w x : R} (hw : w = .str "fermat" ∨ w = .str "strong" ∨ w = .str "witness") (h : odB x = false) : Bad7 w x := fun y C Q q => by
  unfold Ask7
  rcases hw with rfl | rfl | rfl
  · exact .inl ⟨rfl, PfA_no h q⟩
  · exact .inr (.inl ⟨rfl, PfA_no h q⟩)
  · exact .inr (.inr ⟨rfl, WiA_no h q⟩)
theorem bas7 {w y : R} {n : Int} {C : Cs} {Q : Qe} (hw : w = .str "fermat" ∨ w = .str "strong") (h1 : 5 ≤ n) (h2 : n ≤ 1000000000) (h3 : n % 2 = 1) (h : btw 2 (n - 2) y = false) (q : Q (.lst [.str "base", y, .bl true]) C) : Ask7 w (.int n) y C Q := by
  unfold Ask7
  rcases hw with rfl | rfl
  · exact .inl ⟨rfl, PfA_nob h1 h2 h3 h q⟩
  · exact .inr (.inl ⟨rfl, PfA_nob h1 h2 h3 h q⟩)
theorem no_bi {i a b : Int} (h : i < a ∨ b < i) : btw a b (.int i) = false := by
  show (decide (a ≤ i) && decide (i ≤ b)) = false
  rcases h with h | h
  · rw [decide_eq_false (by omega)]; rfl
  · rw [decide_eq_false (show ¬ i ≤ b by omega), Bool.and_false]
theorem no_oi {i : Int} (h : i < 5 ∨ 1000000000 < i ∨ i % 2 ≠ 1) : odB (.int i) = false := by
  show (decide (5 ≤ i) && decide (i ≤ 1000000000) && decide (i % 2 = 1)) = false
  rcases h with h | h | h
  · rw [decide_eq_false (by omega)]; rfl
  · rw [decide_eq_false (show ¬ i ≤ 1000000000 by omega), Bool.and_false]; rfl
  · rw [decide_eq_false h, Bool.and_false]
theorem kp_l_errors : Keeps 7 m_l_errors 2 W_l_errors := by
  intro rs C Q E hl h
  unfold W_l_errors at h
  split at h
  · rename_i k b
    obtain ⟨hc, n0, hk0, hn0, q⟩ := h
    have e0 := Ext.start hk0 hc
    have lk := e0.lt
    have p9 : (10 : Int) ^ Int.toNat 9 = 1000000000 := by decide
    have two : (2 : Nat) ^ 100 = 1267650600228229401496703205376 := by decide
    have p28 : (10 : Int) ^ Int.toNat 28 = 10000000000000000000000000000 := by decide
    walk_at "nb gt"
    rename_i gd gd0 gd1
    have e1 : Ext C k (n0 + 1) (C.set k (.box (n0 + 1))) := e0.put
    refine forW_inv (fun i Γ C' => ∃ n', n' ≤ n0 + 1 + 5 * i ∧ Ext C k n' C' ∧ ∃ (a3 a4 a5 a6 : Option R), Γ = [some (.cell k), some (.bl b), some (.int (2 * gd + 5)), a3, a4, a5, a6]) _ ⟨n0 + 1, by omega, e1, _, _, _, _, rfl⟩ ?_ ?_
    · rintro w hw i _ C8 hi ⟨n8, h8, y8, a3, a4, a5, a6, rfl⟩ K hK
      have hw : w = .str "fermat" ∨ w = .str "strong" ∨ w = .str "witness" := by simpa using hw
      have hi : i < 3 := by simpa using hi
      have hk8 := y8.get
      have l8 := y8.len
      walk_at "nb gt"
      rename_i ev ev0 ev1
      have y9 : Ext C k (n8 + 1) (C8.set k (.box (n8 + 1))) := y8.put
      have l9 : (C8.set k (.box (n8 + 1))).length = C8.length := List.length_set ..
      generalize C8.set k (.box (n8 + 1)) = C9 at y9 l9 ⊢
      have hk9 := y9.get
      refine And.intro y9.ok (Bx_do hk9 (by omega) fun n1 g1 r1 C1 x1 o1 j1 => ?_)
      walk_at "nb gt"
      refine And.intro x1.ok (Bx_do x1.get (by omega) fun n2 g2 r2 C2 x2 o2 j2 => ?_)
      have hk2 := x2.get
      have l1 := x1.len
      have l2 := x2.len
      walk_at "nb gt"
      rename_i t t0 t1
      have y2 := (y9.trans x1).trans x2
      have y3 : Ext C k (n2 + 1) (C2.set k (.box (n2 + 1))) := y2.put
      have z2 : Ext C1 k (n2 + 1) (C2.set k (.box (n2 + 1))) := x2.put
      have za : Ext C2 k (n2 + 1) (C2.set k (.box (n2 + 1))) := (Ext.self hk2 x2.ok).put
      have o2' := o2.ext za (by omega) (Nat.le_refl _)
      have o1' := o1.ext z2 (by omega) (Nat.le_refl _)
      generalize C2.set k (.box (n2 + 1)) = C3 at y3 o1' o2' ⊢
      obtain ⟨x, hx2, rr, rb⟩ : ∃ x, atM [R.int 3, R.int 1, R.int 4, R.int (-7), R.int (10 ^ Int.toNat 9 + 1), R.int (2 * ev), R.int (10 ^ Int.toNat 28 + 1), r1, r2] t = some x ∧ RepV C3 C9.length x ∧ Bad7 w x := by
        rcases (by omega : t = 0 ∨ t = 1 ∨ t = 2 ∨ t = 3 ∨ t = 4 ∨ t = 5 ∨ t = 6 ∨ t = 7 ∨ t = 8) with rfl | rfl | rfl | rfl | rfl | rfl | rfl | rfl | rfl
        · exact ⟨_, rfl, .int (by decide), bad7 hw (no_oi (by omega))⟩
        · exact ⟨_, rfl, .int (by decide), bad7 hw (no_oi (by omega))⟩
        · exact ⟨_, rfl, .int (by decide), bad7 hw (no_oi (by omega))⟩
        · exact ⟨_, rfl, .int (by decide), bad7 hw (no_oi (by omega))⟩
        · exact ⟨_, rfl, .int (by omega), bad7 hw (no_oi (by omega))⟩
        · exact ⟨_, rfl, .int (by omega), bad7 hw (no_oi (by omega))⟩
        · exact ⟨_, rfl, .int (by omega), bad7 hw (no_oi (by omega))⟩
        · exact ⟨_, rfl, .odd o1', bad7 hw (no_od j1)⟩
        · exact ⟨_, rfl, (RepV.odd o2').go (by omega) Keep.refl, bad7 hw (no_od j2)⟩
      refine optP_some hx2 ?_
      have hk3 := y3.get
      walk_at "nb gt"
      rename_i u u0 u1
      have y4 : Ext C k (n2 + 1 + 1) (C3.set k (.box (n2 + 1 + 1))) := y3.put
      have x4 : Ext C3 k (n2 + 1 + 1) (C3.set k (.box (n2 + 1 + 1))) := (Ext.self hk3 y3.ok).put
      have rr4 := rr.ext x4 (by omega) (Nat.le_refl _)
      generalize C3.set k (.box (n2 + 1 + 1)) = C4 at y4 rr4 ⊢
      obtain ⟨z, hz, tz⟩ : ∃ z, atM [R.int 2, R.int 0, R.non] u = some z ∧ tyd C4 z = true := by
        rcases (by omega : u = 0 ∨ u = 1 ∨ u = 2) with rfl | rfl | rfl
        · exact ⟨_, rfl, rfl⟩
        · exact ⟨_, rfl, rfl⟩
        · exact ⟨_, rfl, rfl⟩
      refine optP_some hz ?_
      walk_at "nb gt"
      refine And.intro ⟨rr4.tyd, tz⟩ (rb z C4 _ ?_)
      walk_at "nb gt"
      refine ⟨_, ⟨rfl, rr4⟩, fun C6 g6 => ?_⟩
      have y6 := y4.grow g6 (by omega)
      walk_at "nb gt"
      exact hK _ _ ⟨n2 + 1 + 1, by omega, y6, _, _, _, _, rfl⟩
    · rintro _ C8 ⟨n8, h8, y8, a3, a4, a5, a6, rfl⟩
      have h8 : n8 ≤ n0 + 1 + 5 * 3 := h8
      walk_at "nb gt"
      refine forW_inv (fun i Γ C' => ∃ n', n' ≤ n0 + 16 + 5 * i ∧ Ext C k n' C' ∧ ∃ (a3 a4 a5 a6 : Option R), Γ = [some (.cell k), some (.bl b), some (.int (2 * gd + 5)), a3, a4, a5, a6]) _ ⟨n8, by omega, y8, _, _, _, _, rfl⟩ ?_ ?_
      · rintro w hw i _ C9 hi ⟨n9, h9, y9, a3, a4, a5, a6, rfl⟩ K hK
        have hw : w = .str "fermat" ∨ w = .str "strong" := by simpa using hw
        have hi : i < 2 := by simpa using hi
        have hk9 := y9.get
        have l9 := y9.len
        walk_at "nb gt"
        refine And.intro y9.ok (Bx_do hk9 (by omega) fun n1 g1 r1 C1 x1 o1 j1 => ?_)
        walk_at "nb gt"
        refine And.intro x1.ok (Bx_do x1.get (by omega) fun n2 g2 r2 C2 x2 o2 j2 => ?_)
        have hk2 := x2.get
        have l1 := x1.len
        have l2 := x2.len
        walk_at "nb gt"
        rename_i t t0 t1
        have y2 := (y9.trans x1).trans x2
        have y3 : Ext C k (n2 + 1) (C2.set k (.box (n2 + 1))) := y2.put
        have z2 : Ext C1 k (n2 + 1) (C2.set k (.box (n2 + 1))) := x2.put
        have za : Ext C2 k (n2 + 1) (C2.set k (.box (n2 + 1))) := (Ext.self hk2 x2.ok).put
        have o2' := o2.ext za (by omega) (Nat.le_refl _)
        have o1' := o1.ext z2 (by omega) (Nat.le_refl _)
        generalize C2.set k (.box (n2 + 1)) = C3 at y3 o1' o2' ⊢
        obtain ⟨x, hx2, rr, rb⟩ : ∃ x, atM [R.int 1, R.int 0, R.int (2 * gd + 5 - 1), R.int (2 * gd + 5), R.int (-2), R.int (10 ^ Int.toNat 28), r1, r2] t = some x ∧ RepV C3 C9.length x ∧ btw 2 (2 * gd + 5 - 2) x = false := by
          rcases (by omega : t = 0 ∨ t = 1 ∨ t = 2 ∨ t = 3 ∨ t = 4 ∨ t = 5 ∨ t = 6 ∨ t = 7) with rfl | rfl | rfl | rfl | rfl | rfl | rfl | rfl
          · exact ⟨_, rfl, .int (by decide), no_bi (by omega)⟩
          · exact ⟨_, rfl, .int (by decide), no_bi (by omega)⟩
          · exact ⟨_, rfl, .int (by omega), no_bi (by omega)⟩
          · exact ⟨_, rfl, .int (by omega), no_bi (by omega)⟩
          · exact ⟨_, rfl, .int (by omega), no_bi (by omega)⟩
          · exact ⟨_, rfl, .int (by omega), no_bi (by omega)⟩
          · exact ⟨_, rfl, .odd o1', no_bt j1 _ _⟩
          · exact ⟨_, rfl, (RepV.odd o2').go (by omega) Keep.refl, no_bt j2 _ _⟩
        refine optP_some hx2 ?_
        walk_at "nb gt"
        refine And.intro ⟨rfl, rr.tyd⟩ (bas7 hw (by omega) (by omega) (by omega) rb ?_)
        walk_at "nb gt"
        refine ⟨_, ⟨rfl, rr⟩, fun C6 g6 => ?_⟩
        have y6 := y3.grow g6 (by omega)
        walk_at "nb gt"
        exact hK _ _ ⟨n2 + 1, by omega, y6, _, _, _, _, rfl⟩
      · rintro _ C9 ⟨n9, h9, y9, a3, a4, a5, a6, rfl⟩
        have h9 : n9 ≤ n0 + 16 + 5 * 2 := h9
        walk_at "nb gt"
        exact end_l (q _ (by omega) _ y9)
  · exact h.elim

-- uses: l_right l_errors
def W_law : Wt := fun rs C Q _ => match rs with
  | [.scr xs] => ∃ ns : List Int, xs = ns.map .int ∧ ns.length ≤ 63 ∧ C = [] ∧ ∀ C', Q (.bl true) C'
  | _ => False
def m_law (ex : Gm → MX) : MS :=
  (mSeq (mFor (iRg1 (mCons (mFn fMax2 (mCons (mC (.int 2)) (mCons (mFn fMin2 (mCons (mC (.int 5)) (mCons (mFn fLen (mCons (mVar 0) mNil)) mNil))) mNil))) mNil)) (gNm 1) (mSeq (mAsg (mCall W_l_box ex (mCons (mCall W_l_cell ex (mCons (mVar 0) (mCons (mVar 1) mNil))) mNil)) (gNm 2))
  (mSeq (mAsg (mOp oEq (mCall W_l_take ex (mCons (mVar 2) (mCons (mC (.int 2)) mNil))) (mC (.int 0))) (gNm 3))
  (mFor (iRg1 (mCons (mC (.int 3)) mNil)) (gNm 4) (mSeq (mIfS (mOrT (mNotT (mTru (mCall W_l_right ex (mCons (mVar 2) (mCons (mVar 3) mNil))))) (mNotT (mTru (mCall W_l_errors ex (mCons (mVar 2) (mCons (mVar 3) mNil)))))) (mRet (mC (.bl false))) mNext)
  (mAsg (mNotE (mVar 3)) (gNm 3)))))))
  (mRet (mC (.bl true))))
theorem kp_law : Keeps 5 m_law 1 W_law := by
  intro rs C Q E hl h
  unfold W_law at h
  split at h
  · obtain ⟨ns, rfl, hn, rfl, q⟩ := h
    have hm : (ns.map R.int).length = ns.length := List.length_map ..
    walk_at "nb gt"
    refine forR_inv (fun j Γ C' => okC C'.length C' ∧ ∃ x1 x2 x3 x4, Γ = [some (.scr (ns.map .int)), x1, x2, x3, x4]) _ ⟨(trivial : okC 0 []), _, _, _, _, rfl⟩ ?_ ?_
    · rintro j _ C hj ⟨hb, x1, x2, x3, x4, rfl⟩ K hK
      have hj : j < 5 := by revert hj; repeat' split <;> omega
      walk_at "nb gt"
      refine And.intro ⟨by omega, by omega, ns, rfl⟩ fun i => ?_
      walk_at "nb gt"
      have hb2 : okC (C ++ [Ct.box 0]).length (C ++ [Ct.box 0]) := by
        rw [List.length_append]; exact okC_app (okC_mono (by simp) hb) (by simp [okC])
      have hk0 : (C ++ [Ct.box 0])[C.length]? = some (.box 0) := app_at
      generalize C ++ [Ct.box 0] = D at hb2 hk0 ⊢
      generalize C.length = k at hk0 ⊢
      have e0 := Ext.start hk0 hb2
      walk_at "nb gt"
      rename_i d d0 d1
      generalize eqR (.int d) (.int 0) = nb at *
      have e1 : Ext D k 1 (D.set k (.box 1)) := e0.put
      refine forR_inv (fun i Γ C' => ∃ (n' : Nat) (nb : Bool) (x4 : Option R), n' ≤ 1 + 200 * i ∧ Ext D k n' C' ∧ Γ = [some (.scr (ns.map .int)), some (.int (0 + (j : Int))), some (.cell k), some (.bl nb), x4]) _ ⟨1, nb, _, by omega, e1, rfl⟩ ?_ ?_
      · rintro i _ C1 hi ⟨n1, nb1, y4, hn1, e2, rfl⟩ K2 hK2
        have hi : i < 3 := hi
        walk_at "nb gt"
        refine And.intro e2.ok (Bx_do e2.get (by omega) fun n2 hn2 => ?_)
        have e3 : Ext D k n2 (C1.set k (.box n2)) := e2.put
        generalize C1.set k (.box n2) = C2 at e3 ⊢
        walk_at "nb gt"
        refine And.intro e3.ok (Bx_do e3.get (by omega) fun n3 hn3 C3 x3 => ?_)
        have e4 := e3.trans x3
        walk_at "nb gt"
        exact hK2 _ _ ⟨n3, !nb1, some (.int (0 + (i : Int))), by omega, e4, rfl⟩
      · rintro _ C1 ⟨n1, nb1, y4, hn1, e2, rfl⟩
        exact hK _ _ ⟨e2.ok, _, _, _, _, rfl⟩
    · rintro _ C' ⟨hb, x1, x2, x3, x4, rfl⟩
      walk_at "nb gt"
      exact end_l (q _)
  · exact h.elim
theorem law_true : ∀ (ns : List Int) (Q : Qe), ns.length ≤ 63 → (∀ C, Q (.bl true) C) → W_law [.scr (ns.map .int)] [] Q noX := fun ns Q h q => ⟨ns, rfl, h, rfl, q⟩

theorem ar_remainder_power : ∀ rs C Q E, W_remainder_power rs C Q E → rs.length = 3 := by
  intro rs C Q E h; unfold W_remainder_power at h; split at h <;> first | rfl | exact h.elim
theorem ar_least_divisor : ∀ rs C Q E, W_least_divisor rs C Q E → rs.length = 1 := by
  intro rs C Q E h; unfold W_least_divisor at h; split at h <;> first | rfl | exact h.elim
theorem ar_is_small_prime : ∀ rs C Q E, W_is_small_prime rs C Q E → rs.length = 1 := by
  intro rs C Q E h; unfold W_is_small_prime at h; split at h <;> first | rfl | exact h.elim
theorem ar_is_between : ∀ rs C Q E, W_is_between rs C Q E → rs.length = 3 := by
  intro rs C Q E h; unfold W_is_between at h; split at h <;> first | rfl | exact h.elim
theorem ar_check_integer : ∀ rs C Q E, W_check_integer rs C Q E → rs.length = 3 := by
  intro rs C Q E h; unfold W_check_integer at h; split at h <;> first | rfl | exact h.elim
theorem ar_check_odd : ∀ rs C Q E, W_check_odd rs C Q E → rs.length = 1 := by
  intro rs C Q E h; unfold W_check_odd at h; split at h <;> first | rfl | exact h.elim
theorem ar_check_base : ∀ rs C Q E, W_check_base rs C Q E → rs.length = 2 := by
  intro rs C Q E h; unfold W_check_base at h; split at h <;> first | rfl | exact h.elim
theorem ar_passes_fermat : ∀ rs C Q E, W_passes_fermat rs C Q E → rs.length = 2 := by
  intro rs C Q E h; unfold W_passes_fermat at h; split at h <;> first | rfl | exact h.elim
theorem ar_is_passed : ∀ rs C Q E, W_is_passed rs C Q E → rs.length = 2 := by
  intro rs C Q E h; unfold W_is_passed at h; split at h <;> first | rfl | exact h.elim
theorem ar_passes_strong : ∀ rs C Q E, W_passes_strong rs C Q E → rs.length = 2 := by
  intro rs C Q E h; unfold W_passes_strong at h; split at h <;> first | rfl | exact h.elim
theorem ar_strong_witness : ∀ rs C Q E, W_strong_witness rs C Q E → rs.length = 1 := by
  intro rs C Q E h; unfold W_strong_witness at h; split at h <;> first | rfl | exact h.elim
theorem ar_l_cell : ∀ rs C Q E, W_l_cell rs C Q E → rs.length = 2 := by
  intro rs C Q E h; unfold W_l_cell at h; split at h <;> first | rfl | exact h.elim
theorem ar_l_box : ∀ rs C Q E, W_l_box rs C Q E → rs.length = 1 := by
  intro rs C Q E h; unfold W_l_box at h; split at h <;> first | rfl | exact h.elim
theorem ar_l_take : ∀ rs C Q E, W_l_take rs C Q E → rs.length = 2 := by
  intro rs C Q E h; unfold W_l_take at h; split at h <;> first | rfl | exact h.elim
theorem ar_l_very : ∀ rs C Q E, W_l_very rs C Q E → rs.length = 2 := by
  intro rs C Q E h; unfold W_l_very at h; split at h <;> first | rfl | exact h.elim
theorem ar_l_odd_value : ∀ rs C Q E, W_l_odd_value rs C Q E → rs.length = 1 := by
  intro rs C Q E h; unfold W_l_odd_value at h; split at h <;> first | rfl | exact h.elim
theorem ar_l_power : ∀ rs C Q E, W_l_power rs C Q E → rs.length = 3 := by
  intro rs C Q E h; unfold W_l_power at h; split at h <;> first | rfl | exact h.elim
theorem ar_l_factors : ∀ rs C Q E, W_l_factors rs C Q E → rs.length = 1 := by
  intro rs C Q E h; unfold W_l_factors at h; split at h <;> first | rfl | exact h.elim
theorem ar_l_is_prime : ∀ rs C Q E, W_l_is_prime rs C Q E → rs.length = 1 := by
  intro rs C Q E h; unfold W_l_is_prime at h; split at h <;> first | rfl | exact h.elim
theorem ar_l_root : ∀ rs C Q E, W_l_root rs C Q E → rs.length = 1 := by
  intro rs C Q E h; unfold W_l_root at h; split at h <;> first | rfl | exact h.elim
theorem ar_l_number : ∀ rs C Q E, W_l_number rs C Q E → rs.length = 2 := by
  intro rs C Q E h; unfold W_l_number at h; split at h <;> first | rfl | exact h.elim
theorem ar_l_most : ∀ rs C Q E, W_l_most rs C Q E → rs.length = 1 := by
  intro rs C Q E h; unfold W_l_most at h; split at h <;> first | rfl | exact h.elim
theorem ar_l_strong : ∀ rs C Q E, W_l_strong rs C Q E → rs.length = 2 := by
  intro rs C Q E h; unfold W_l_strong at h; split at h <;> first | rfl | exact h.elim
theorem ar_l_witness : ∀ rs C Q E, W_l_witness rs C Q E → rs.length = 1 := by
  intro rs C Q E h; unfold W_l_witness at h; split at h <;> first | rfl | exact h.elim
theorem ar_l_asked : ∀ rs C Q E, W_l_asked rs C Q E → rs.length = 4 := by
  intro rs C Q E h; unfold W_l_asked at h; split at h <;> first | rfl | exact h.elim
theorem ar_l_drawn : ∀ rs C Q E, W_l_drawn rs C Q E → rs.length = 1 := by
  intro rs C Q E h; unfold W_l_drawn at h; split at h <;> first | rfl | exact h.elim
theorem ar_l_bases : ∀ rs C Q E, W_l_bases rs C Q E → rs.length = 2 := by
  intro rs C Q E h; unfold W_l_bases at h; split at h <;> first | rfl | exact h.elim
theorem ar_l_right : ∀ rs C Q E, W_l_right rs C Q E → rs.length = 2 := by
  intro rs C Q E h; unfold W_l_right at h; split at h <;> first | rfl | exact h.elim
theorem ar_l_errors : ∀ rs C Q E, W_l_errors rs C Q E → rs.length = 2 := by
  intro rs C Q E h; unfold W_l_errors at h; split at h <;> first | rfl | exact h.elim
theorem ar_law : ∀ rs C Q E, W_law rs C Q E → rs.length = 1 := by
  intro rs C Q E h; unfold W_law at h; split at h <;> first | rfl | exact h.elim
end NB
namespace NB
open PySem PySem.Spec L2
open PyProof.Rows (envOfC)
def top (i : Nat) : Stmt := PySem.Challenge.pw_numberbench_k07_false_witnesses.main.body.getD i (.Pass ⟨0, 0, 0, 0⟩)
structure Txt (P : Program) (w : World) (K : PySem.W.Frag) (mg : Str → Option Value) (base : Heap) (cl : String → Addr) : Prop where
  b_abs : mg "abs" = none
  b_bool : mg "bool" = none
  b_dict : mg "dict" = none
  b_int : mg "int" = none
  b_isinstance : mg "isinstance" = none
  b_len : mg "len" = none
  b_list : mg "list" = none
  b_max : mg "max" = none
  b_min : mg "min" = none
  b_range : mg "range" = none
  b_repr : mg "repr" = none
  b_str : mg "str" = none
  b_sum : mg "sum" = none
  b_tuple : mg "tuple" = none
  c_InvalidBase : mg "InvalidBase" = some (.ref (cl "InvalidBase"))
  c_InvalidNumber : mg "InvalidNumber" = some (.ref (cl "InvalidNumber"))
  c_NumberError : mg "NumberError" = some (.ref (cl "NumberError"))
  x_InvalidBase : ExcK P w K mg base cl "InvalidBase" (Str.ofString "given") "InvalidBase"
  x_InvalidNumber : ExcK P w K mg base cl "InvalidNumber" (Str.ofString "given") "InvalidNumber"
  exm_InvalidBase : ∀ c1 ∈ knE, PySem.W.exmOne K (.ref (cl c1)) (.ref (cl "InvalidBase")) = some (subE c1 "InvalidBase")
  exm_InvalidNumber : ∀ c1 ∈ knE, PySem.W.exmOne K (.ref (cl c1)) (.ref (cl "InvalidNumber")) = some (subE c1 "InvalidNumber")
  xf : ∀ c1 ∈ knE, XfC K (cl c1)
  no_given : ∀ c1 ∈ knE, PySem.W.findIn K (.ref (cl c1)) (Str.ofString "given") = some none
  ei : ∀ c1 ∈ knE, ExI K (cl c1)
  kit_NumberError : ∀ c1 ∈ knE, PySem.W.kitOne K (.ref (cl c1)) (.ref (cl "NumberError")) = some (subE c1 "NumberError")
  k_LEAST_NUMBER : ∃ t, mg "LEAST_NUMBER" = some (.int 5 t)
  k_MOST_NUMBER : ∃ t, mg "MOST_NUMBER" = some (.int 1000000000 t)
section
variable {P : Program} {w : World} {K : PySem.W.Frag} {mg : Str → Option Value} {base : Heap} {cl : String → Addr}
abbrev s_remainder_power : Stmt := top 1
abbrev N_remainder_power : List Str := ["base", "exponent", "modulus", "found", "now"]
theorem sc_remainder_power : FnScope N_remainder_power ["base", "exponent", "modulus"] (defScope s_remainder_power) := ⟨rfl, rfl, rfl, by decide +kernel, rfl, by decide +kernel, by decide +kernel⟩
theorem d_remainder_power (T : Txt P w K mg base cl)  {f : Addr} (cdv : Value) (A : Around) (outer : List Env) (s : Shared) (H : Hp) (E : XK) (Z : Zx) (hcl : Z.cl = cl) (hr : RG 0 (A.deeper (envOfC "remainder_power" (defScope s_remainder_power) s.heap.objs.size f cdv))) (ok : ZOk (cxOf (L2.CX P w) P w K mg base N_remainder_power "remainder_power" (defScope s_remainder_power) f cdv A outer s H E) Z) : JSs (cxOf (L2.CX P w) P w K mg base N_remainder_power "remainder_power" (defScope s_remainder_power) f cdv A outer s H E) Z (defBody s_remainder_power) (m_remainder_power Z.e) := by
  subst hcl
  have sc := sc_remainder_power
  exact (jss_cons (js_par 3 4 rfl sc.nd (ja_cons (je_op jo_mod je_int (je_var 2)) (ja_cons (je_op jo_mod (je_var 0) (je_var 2)) ja_nil)))
  (jss_cons (js_while (passes_of rfl) (jt_cmp jo_gt (je_var 1) je_int) (jss_cons (js_if (jt_cmp (jo_eq hr.units) (je_op jo_mod (je_var 1) je_int) je_int) (jss_one (js_asg (je_op jo_mod (je_op (jo_times false) (je_var 3) (je_var 4)) (je_var 2)) (jg_name 3 sc.nd))) jss_nil)
  (jss_one (js_par 4 1 rfl sc.nd (ja_cons (je_op jo_mod (je_op (jo_times false) (je_var 4) (je_var 4)) (je_var 2)) (ja_cons (je_op jo_div (je_var 1) je_int) ja_nil))))))
  (jss_one (js_ret (je_var 3)))))
abbrev s_least_divisor : Stmt := top 2
abbrev N_least_divisor : List Str := ["number", "divisor"]
theorem sc_least_divisor : FnScope N_least_divisor ["number"] (defScope s_least_divisor) := ⟨rfl, rfl, rfl, by decide +kernel, rfl, by decide +kernel, by decide +kernel⟩
theorem d_least_divisor (T : Txt P w K mg base cl)  {f : Addr} (cdv : Value) (A : Around) (outer : List Env) (s : Shared) (H : Hp) (E : XK) (Z : Zx) (hcl : Z.cl = cl) (hr : RG 0 (A.deeper (envOfC "least_divisor" (defScope s_least_divisor) s.heap.objs.size f cdv))) (ok : ZOk (cxOf (L2.CX P w) P w K mg base N_least_divisor "least_divisor" (defScope s_least_divisor) f cdv A outer s H E) Z) : JSs (cxOf (L2.CX P w) P w K mg base N_least_divisor "least_divisor" (defScope s_least_divisor) f cdv A outer s H E) Z (defBody s_least_divisor) (m_least_divisor Z.e) := by
  subst hcl
  have sc := sc_least_divisor
  exact (jss_cons (js_if (jt_cmp (jo_eq hr.units) (je_op jo_mod (je_var 0) je_int) je_int) (jss_one (js_ret je_int)) jss_nil)
  (jss_cons (js_asg je_int (jg_name 1 sc.nd))
  (jss_cons (js_while (passes_of rfl) (jt_cmp jo_le (je_op (jo_times false) (je_var 1) (je_var 1)) (je_var 0)) (jss_cons (js_if (jt_cmp (jo_eq hr.units) (je_op jo_mod (je_var 0) (je_var 1)) je_int) (jss_one (js_ret (je_var 1))) jss_nil)
  (jss_one (js_aug 1 sc.nd je_int ji_add))))
  (jss_one (js_ret (je_var 0))))))
abbrev s_is_small_prime : Stmt := top 3
abbrev N_is_small_prime : List Str := ["number"]
theorem sc_is_small_prime : FnScope N_is_small_prime ["number"] (defScope s_is_small_prime) := ⟨rfl, rfl, rfl, by decide +kernel, rfl, by decide +kernel, by decide +kernel⟩
theorem d_is_small_prime (T : Txt P w K mg base cl) {f_least_divisor : Addr} {fd_least_divisor : FuncData} (G_least_divisor : Fn P w K mg base cl 1 "least_divisor" 1 W_least_divisor f_least_divisor fd_least_divisor ["number"]) (B_least_divisor : Binds K fd_least_divisor ["number"] []) {f : Addr} (cdv : Value) (A : Around) (outer : List Env) (s : Shared) (H : Hp) (E : XK) (Z : Zx) (hcl : Z.cl = cl) (hr : RG 1 (A.deeper (envOfC "is_small_prime" (defScope s_is_small_prime) s.heap.objs.size f cdv))) (ok : ZOk (cxOf (L2.CX P w) P w K mg base N_is_small_prime "is_small_prime" (defScope s_is_small_prime) f cdv A outer s H E) Z) : JSs (cxOf (L2.CX P w) P w K mg base N_is_small_prime "is_small_prime" (defScope s_is_small_prime) f cdv A outer s H E) Z (defBody s_is_small_prime) (m_is_small_prime Z.e) := by
  subst hcl
  have sc := sc_is_small_prime
  exact (jss_one (js_ret (je_and (je_cmp jo_gt (je_var 0) je_int) (je_one (je_cmp (jo_eq hr.units) (je_call G_least_divisor ok (hr.mono (by decide)) B_least_divisor (ja_cons (je_var 0) ja_nil)) (je_var 0))))))
abbrev s_is_integer : Stmt := top 9
abbrev N_is_integer : List Str := ["value"]
theorem sc_is_integer : FnScope N_is_integer ["value"] (defScope s_is_integer) := ⟨rfl, rfl, rfl, by decide +kernel, rfl, by decide +kernel, by decide +kernel⟩
theorem d_is_integer (T : Txt P w K mg base cl)  {f : Addr} (cdv : Value) (A : Around) (outer : List Env) (s : Shared) (H : Hp) (E : XK) (Z : Zx) (hcl : Z.cl = cl) (hr : RG 0 (A.deeper (envOfC "is_integer" (defScope s_is_integer) s.heap.objs.size f cdv))) (ok : ZOk (cxOf (L2.CX P w) P w K mg base N_is_integer "is_integer" (defScope s_is_integer) f cdv A outer s H E) Z) : JSs (cxOf (L2.CX P w) P w K mg base N_is_integer "is_integer" (defScope s_is_integer) f cdv A outer s H E) Z (defBody s_is_integer) (m_is_integer Z.e) := by
  subst hcl
  have sc := sc_is_integer
  exact (jss_one (js_ret (je_and (je_isi "int" kitM_int T.b_isinstance T.b_int (je_var 0)) (je_one (je_not (je_isi "bool" kitM_bool T.b_isinstance T.b_bool (je_var 0)))))))
abbrev s_is_between : Stmt := top 10
abbrev N_is_between : List Str := ["value", "least", "most"]
theorem sc_is_between : FnScope N_is_between ["value", "least", "most"] (defScope s_is_between) := ⟨rfl, rfl, rfl, by decide +kernel, rfl, by decide +kernel, by decide +kernel⟩
theorem d_is_between (T : Txt P w K mg base cl) {f_is_integer : Addr} {fd_is_integer : FuncData} (G_is_integer : Fn P w K mg base cl 1 "is_integer" 1 W_is_integer f_is_integer fd_is_integer ["value"]) (B_is_integer : Binds K fd_is_integer ["value"] []) {f : Addr} (cdv : Value) (A : Around) (outer : List Env) (s : Shared) (H : Hp) (E : XK) (Z : Zx) (hcl : Z.cl = cl) (hr : RG 1 (A.deeper (envOfC "is_between" (defScope s_is_between) s.heap.objs.size f cdv))) (ok : ZOk (cxOf (L2.CX P w) P w K mg base N_is_between "is_between" (defScope s_is_between) f cdv A outer s H E) Z) : JSs (cxOf (L2.CX P w) P w K mg base N_is_between "is_between" (defScope s_is_between) f cdv A outer s H E) Z (defBody s_is_between) (m_is_between Z.e) := by
  subst hcl
  have sc := sc_is_between
  exact (jss_one (js_ret (je_and (je_call G_is_integer ok (hr.mono (by decide)) B_is_integer (ja_cons (je_var 0) ja_nil)) (je_one (je_chain jo_le jo_le (je_var 1) (je_var 0) (je_var 2))))))
abbrev s_check_integer : Stmt := top 12
abbrev N_check_integer : List Str := ["value", "least", "most"]
theorem sc_check_integer : FnScope N_check_integer ["value", "least", "most"] (defScope s_check_integer) := ⟨rfl, rfl, rfl, by decide +kernel, rfl, by decide +kernel, by decide +kernel⟩
theorem d_check_integer (T : Txt P w K mg base cl) {f_is_integer : Addr} {fd_is_integer : FuncData} (G_is_integer : Fn P w K mg base cl 1 "is_integer" 1 W_is_integer f_is_integer fd_is_integer ["value"]) (B_is_integer : Binds K fd_is_integer ["value"] []) {f : Addr} (cdv : Value) (A : Around) (outer : List Env) (s : Shared) (H : Hp) (E : XK) (Z : Zx) (hcl : Z.cl = cl) (hr : RG 2 (A.deeper (envOfC "check_integer" (defScope s_check_integer) s.heap.objs.size f cdv))) (ok : ZOk (cxOf (L2.CX P w) P w K mg base N_check_integer "check_integer" (defScope s_check_integer) f cdv A outer s H E) Z) : JSs (cxOf (L2.CX P w) P w K mg base N_check_integer "check_integer" (defScope s_check_integer) f cdv A outer s H E) Z (defBody s_check_integer) (m_check_integer Z.e) := by
  subst hcl
  have sc := sc_check_integer
  exact (jss_cons (js_if (jt_not (jt_tru (je_call G_is_integer ok (hr.mono (by decide)) B_is_integer (ja_cons (je_var 0) ja_nil)))) (jss_one (js_raise T.x_InvalidNumber ok rfl (hr.mono (by decide)) (je_var 0))) jss_nil)
  (jss_one (js_if (JW.jt (jw_or (JW.jt (jw_and (jt_cmp jo_isNotN (je_var 1) je_non) (jw_and1 (jt_cmp jo_lt (je_var 0) (je_var 1))))) (jw_or1 (JW.jt (jw_and (jt_cmp jo_isNotN (je_var 2) je_non) (jw_and1 (jt_cmp jo_gt (je_var 0) (je_var 2)))))))) (jss_one (js_raise T.x_InvalidNumber ok rfl (hr.mono (by decide)) (je_var 0))) jss_nil)))
abbrev s_check_odd : Stmt := top 16
abbrev N_check_odd : List Str := ["number"]
theorem sc_check_odd : FnScope N_check_odd ["number"] (defScope s_check_odd) := ⟨rfl, rfl, rfl, by decide +kernel, rfl, by decide +kernel, by decide +kernel⟩
theorem d_check_odd (T : Txt P w K mg base cl) {f_check_integer : Addr} {fd_check_integer : FuncData} (G_check_integer : Fn P w K mg base cl 3 "check_integer" 3 W_check_integer f_check_integer fd_check_integer ["value", "least", "most"]) (B_check_integer : Binds K fd_check_integer ["value", "least", "most"] []) {f : Addr} (cdv : Value) (A : Around) (outer : List Env) (s : Shared) (H : Hp) (E : XK) (Z : Zx) (hcl : Z.cl = cl) (hr : RG 3 (A.deeper (envOfC "check_odd" (defScope s_check_odd) s.heap.objs.size f cdv))) (ok : ZOk (cxOf (L2.CX P w) P w K mg base N_check_odd "check_odd" (defScope s_check_odd) f cdv A outer s H E) Z) : JSs (cxOf (L2.CX P w) P w K mg base N_check_odd "check_odd" (defScope s_check_odd) f cdv A outer s H E) Z (defBody s_check_odd) (m_check_odd Z.e) := by
  subst hcl
  have sc := sc_check_odd
  exact (jss_cons (js_expr (je_call G_check_integer ok (hr.mono (by decide)) B_check_integer (ja_cons (je_var 0) (ja_cons (je_gI T.k_LEAST_NUMBER) (ja_cons (je_gI T.k_MOST_NUMBER) ja_nil)))))
  (jss_one (js_if (jt_cmp (jo_eq hr.units) (je_op jo_mod (je_var 0) je_int) je_int) (jss_one (js_raise T.x_InvalidNumber ok rfl (hr.mono (by decide)) (je_var 0))) jss_nil)))
abbrev s_check_base : Stmt := top 17
abbrev N_check_base : List Str := ["number", "base"]
theorem sc_check_base : FnScope N_check_base ["number", "base"] (defScope s_check_base) := ⟨rfl, rfl, rfl, by decide +kernel, rfl, by decide +kernel, by decide +kernel⟩
theorem d_check_base (T : Txt P w K mg base cl) {f_is_between : Addr} {fd_is_between : FuncData} (G_is_between : Fn P w K mg base cl 2 "is_between" 3 W_is_between f_is_between fd_is_between ["value", "least", "most"]) (B_is_between : Binds K fd_is_between ["value", "least", "most"] []) {f : Addr} (cdv : Value) (A : Around) (outer : List Env) (s : Shared) (H : Hp) (E : XK) (Z : Zx) (hcl : Z.cl = cl) (hr : RG 2 (A.deeper (envOfC "check_base" (defScope s_check_base) s.heap.objs.size f cdv))) (ok : ZOk (cxOf (L2.CX P w) P w K mg base N_check_base "check_base" (defScope s_check_base) f cdv A outer s H E) Z) : JSs (cxOf (L2.CX P w) P w K mg base N_check_base "check_base" (defScope s_check_base) f cdv A outer s H E) Z (defBody s_check_base) (m_check_base Z.e) := by
  subst hcl
  have sc := sc_check_base
  exact (jss_one (js_if (jt_not (jt_tru (je_call G_is_between ok (hr.mono (by decide)) B_is_between (ja_cons (je_var 1) (ja_cons je_int (ja_cons (je_op jo_sub (je_var 0) je_int) ja_nil)))))) (jss_one (js_raise T.x_InvalidBase ok rfl (hr.mono (by decide)) (je_var 1))) jss_nil))
abbrev s_passes_fermat : Stmt := top 18
abbrev N_passes_fermat : List Str := ["number", "base"]
theorem sc_passes_fermat : FnScope N_passes_fermat ["number", "base"] (defScope s_passes_fermat) := ⟨rfl, rfl, rfl, by decide +kernel, rfl, by decide +kernel, by decide +kernel⟩
theorem d_passes_fermat (T : Txt P w K mg base cl) {f_check_base : Addr} {fd_check_base : FuncData} (G_check_base : Fn P w K mg base cl 3 "check_base" 2 W_check_base f_check_base fd_check_base ["number", "base"]) (B_check_base : Binds K fd_check_base ["number", "base"] []) {f_check_odd : Addr} {fd_check_odd : FuncData} (G_check_odd : Fn P w K mg base cl 4 "check_odd" 1 W_check_odd f_check_odd fd_check_odd ["number"]) (B_check_odd : Binds K fd_check_odd ["number"] []) {f_remainder_power : Addr} {fd_remainder_power : FuncData} (G_remainder_power : Fn P w K mg base cl 1 "remainder_power" 3 W_remainder_power f_remainder_power fd_remainder_power ["base", "exponent", "modulus"]) (B_remainder_power : Binds K fd_remainder_power ["base", "exponent", "modulus"] []) {f : Addr} (cdv : Value) (A : Around) (outer : List Env) (s : Shared) (H : Hp) (E : XK) (Z : Zx) (hcl : Z.cl = cl) (hr : RG 4 (A.deeper (envOfC "passes_fermat" (defScope s_passes_fermat) s.heap.objs.size f cdv))) (ok : ZOk (cxOf (L2.CX P w) P w K mg base N_passes_fermat "passes_fermat" (defScope s_passes_fermat) f cdv A outer s H E) Z) : JSs (cxOf (L2.CX P w) P w K mg base N_passes_fermat "passes_fermat" (defScope s_passes_fermat) f cdv A outer s H E) Z (defBody s_passes_fermat) (m_passes_fermat Z.e) := by
  subst hcl
  have sc := sc_passes_fermat
  exact (jss_cons (js_expr (je_call G_check_odd ok (hr.mono (by decide)) B_check_odd (ja_cons (je_var 0) ja_nil)))
  (jss_cons (js_expr (je_call G_check_base ok (hr.mono (by decide)) B_check_base (ja_cons (je_var 0) (ja_cons (je_var 1) ja_nil))))
  (jss_one (js_ret (je_cmp (jo_eq hr.units) (je_call G_remainder_power ok (hr.mono (by decide)) B_remainder_power (ja_cons (je_var 1) (ja_cons (je_op jo_sub (je_var 0) je_int) (ja_cons (je_var 0) ja_nil)))) je_int)))))
abbrev s_is_passed : Stmt := top 19
abbrev N_is_passed : List Str := ["number", "base", "found", "_", "exponent", "squares"]
theorem sc_is_passed : FnScope N_is_passed ["number", "base"] (defScope s_is_passed) := ⟨rfl, rfl, rfl, by decide +kernel, rfl, by decide +kernel, by decide +kernel⟩
theorem d_is_passed (T : Txt P w K mg base cl) {f_remainder_power : Addr} {fd_remainder_power : FuncData} (G_remainder_power : Fn P w K mg base cl 1 "remainder_power" 3 W_remainder_power f_remainder_power fd_remainder_power ["base", "exponent", "modulus"]) (B_remainder_power : Binds K fd_remainder_power ["base", "exponent", "modulus"] []) {f : Addr} (cdv : Value) (A : Around) (outer : List Env) (s : Shared) (H : Hp) (E : XK) (Z : Zx) (hcl : Z.cl = cl) (hr : RG 1 (A.deeper (envOfC "is_passed" (defScope s_is_passed) s.heap.objs.size f cdv))) (ok : ZOk (cxOf (L2.CX P w) P w K mg base N_is_passed "is_passed" (defScope s_is_passed) f cdv A outer s H E) Z) : JSs (cxOf (L2.CX P w) P w K mg base N_is_passed "is_passed" (defScope s_is_passed) f cdv A outer s H E) Z (defBody s_is_passed) (m_is_passed Z.e) := by
  subst hcl
  have sc := sc_is_passed
  exact (jss_cons (js_par 4 5 rfl sc.nd (ja_cons (je_op jo_sub (je_var 0) je_int) (ja_cons je_int ja_nil)))
  (jss_cons (js_while (passes_of rfl) (jt_cmp (jo_eq hr.units) (je_op jo_mod (je_var 4) je_int) je_int) (jss_one (js_par 4 5 rfl sc.nd (ja_cons (je_op jo_div (je_var 4) je_int) (ja_cons (je_op (jo_plus false) (je_var 5) je_int) ja_nil)))))
  (jss_cons (js_asg (je_call G_remainder_power ok (hr.mono (by decide)) B_remainder_power (ja_cons (je_var 1) (ja_cons (je_var 4) (ja_cons (je_var 0) ja_nil)))) (jg_name 2 sc.nd))
  (jss_cons (js_if (jt_cmp (jo_eq hr.units) (je_var 2) je_int) (jss_one (js_ret je_bl)) jss_nil)
  (jss_cons (js_for (passes_of rfl) rfl (ji_rng1 T.b_range (ja_cons (je_var 5) ja_nil)) (jg_name 3 sc.nd) (jss_cons (js_if (jt_cmp (jo_eq hr.units) (je_var 2) (je_op jo_sub (je_var 0) je_int)) (jss_one (js_ret je_bl)) jss_nil)
  (jss_one (js_asg (je_op jo_mod (je_op (jo_times false) (je_var 2) (je_var 2)) (je_var 0)) (jg_name 2 sc.nd)))))
  (jss_one (js_ret je_bl)))))))
abbrev s_passes_strong : Stmt := top 20
abbrev N_passes_strong : List Str := ["number", "base"]
theorem sc_passes_strong : FnScope N_passes_strong ["number", "base"] (defScope s_passes_strong) := ⟨rfl, rfl, rfl, by decide +kernel, rfl, by decide +kernel, by decide +kernel⟩
theorem d_passes_strong (T : Txt P w K mg base cl) {f_check_base : Addr} {fd_check_base : FuncData} (G_check_base : Fn P w K mg base cl 3 "check_base" 2 W_check_base f_check_base fd_check_base ["number", "base"]) (B_check_base : Binds K fd_check_base ["number", "base"] []) {f_check_odd : Addr} {fd_check_odd : FuncData} (G_check_odd : Fn P w K mg base cl 4 "check_odd" 1 W_check_odd f_check_odd fd_check_odd ["number"]) (B_check_odd : Binds K fd_check_odd ["number"] []) {f_is_passed : Addr} {fd_is_passed : FuncData} (G_is_passed : Fn P w K mg base cl 2 "is_passed" 2 W_is_passed f_is_passed fd_is_passed ["number", "base"]) (B_is_passed : Binds K fd_is_passed ["number", "base"] []) {f : Addr} (cdv : Value) (A : Around) (outer : List Env) (s : Shared) (H : Hp) (E : XK) (Z : Zx) (hcl : Z.cl = cl) (hr : RG 4 (A.deeper (envOfC "passes_strong" (defScope s_passes_strong) s.heap.objs.size f cdv))) (ok : ZOk (cxOf (L2.CX P w) P w K mg base N_passes_strong "passes_strong" (defScope s_passes_strong) f cdv A outer s H E) Z) : JSs (cxOf (L2.CX P w) P w K mg base N_passes_strong "passes_strong" (defScope s_passes_strong) f cdv A outer s H E) Z (defBody s_passes_strong) (m_passes_strong Z.e) := by
  subst hcl
  have sc := sc_passes_strong
  exact (jss_cons (js_expr (je_call G_check_odd ok (hr.mono (by decide)) B_check_odd (ja_cons (je_var 0) ja_nil)))
  (jss_cons (js_expr (je_call G_check_base ok (hr.mono (by decide)) B_check_base (ja_cons (je_var 0) (ja_cons (je_var 1) ja_nil))))
  (jss_one (js_ret (je_call G_is_passed ok (hr.mono (by decide)) B_is_passed (ja_cons (je_var 0) (ja_cons (je_var 1) ja_nil)))))))
abbrev s_strong_witness : Stmt := top 21
abbrev N_strong_witness : List Str := ["number", "base"]
theorem sc_strong_witness : FnScope N_strong_witness ["number"] (defScope s_strong_witness) := ⟨rfl, rfl, rfl, by decide +kernel, rfl, by decide +kernel, by decide +kernel⟩
theorem d_strong_witness (T : Txt P w K mg base cl) {f_check_odd : Addr} {fd_check_odd : FuncData} (G_check_odd : Fn P w K mg base cl 4 "check_odd" 1 W_check_odd f_check_odd fd_check_odd ["number"]) (B_check_odd : Binds K fd_check_odd ["number"] []) {f_is_passed : Addr} {fd_is_passed : FuncData} (G_is_passed : Fn P w K mg base cl 2 "is_passed" 2 W_is_passed f_is_passed fd_is_passed ["number", "base"]) (B_is_passed : Binds K fd_is_passed ["number", "base"] []) {f_is_small_prime : Addr} {fd_is_small_prime : FuncData} (G_is_small_prime : Fn P w K mg base cl 2 "is_small_prime" 1 W_is_small_prime f_is_small_prime fd_is_small_prime ["number"]) (B_is_small_prime : Binds K fd_is_small_prime ["number"] []) {f : Addr} (cdv : Value) (A : Around) (outer : List Env) (s : Shared) (H : Hp) (E : XK) (Z : Zx) (hcl : Z.cl = cl) (hr : RG 4 (A.deeper (envOfC "strong_witness" (defScope s_strong_witness) s.heap.objs.size f cdv))) (ok : ZOk (cxOf (L2.CX P w) P w K mg base N_strong_witness "strong_witness" (defScope s_strong_witness) f cdv A outer s H E) Z) : JSs (cxOf (L2.CX P w) P w K mg base N_strong_witness "strong_witness" (defScope s_strong_witness) f cdv A outer s H E) Z (defBody s_strong_witness) (m_strong_witness Z.e) := by
  subst hcl
  have sc := sc_strong_witness
  exact (jss_cons (js_expr (je_call G_check_odd ok (hr.mono (by decide)) B_check_odd (ja_cons (je_var 0) ja_nil)))
  (jss_cons (js_if (jt_tru (je_call G_is_small_prime ok (hr.mono (by decide)) B_is_small_prime (ja_cons (je_var 0) ja_nil))) (jss_one (js_ret je_non)) jss_nil)
  (jss_cons (js_asg je_int (jg_name 1 sc.nd))
  (jss_cons (js_while (passes_of rfl) (jt_tru (je_call G_is_passed ok (hr.mono (by decide)) B_is_passed (ja_cons (je_var 0) (ja_cons (je_var 1) ja_nil)))) (jss_one (js_aug 1 sc.nd je_int ji_add)))
  (jss_one (js_ret (je_var 1)))))))
abbrev s_l_cell : Stmt := top 23
abbrev N_l_cell : List Str := ["script", "k"]
theorem sc_l_cell : FnScope N_l_cell ["script", "k"] (defScope s_l_cell) := ⟨rfl, rfl, rfl, by decide +kernel, rfl, by decide +kernel, by decide +kernel⟩
theorem d_l_cell (T : Txt P w K mg base cl)  {f : Addr} (cdv : Value) (A : Around) (outer : List Env) (s : Shared) (H : Hp) (E : XK) (Z : Zx) (hcl : Z.cl = cl) (hr : RG 0 (A.deeper (envOfC "_law_cell" (defScope s_l_cell) s.heap.objs.size f cdv))) (ok : ZOk (cxOf (L2.CX P w) P w K mg base N_l_cell "_law_cell" (defScope s_l_cell) f cdv A outer s H E) Z) : JSs (cxOf (L2.CX P w) P w K mg base N_l_cell "_law_cell" (defScope s_l_cell) f cdv A outer s H E) Z (defBody s_l_cell) (m_l_cell Z.e) := by
  subst hcl
  have sc := sc_l_cell
  exact (jss_one (js_ret (je_if (jt_cmp jo_lt (je_var 1) (je_bltn jf_len T.b_len (ja_cons (je_var 0) ja_nil))) (je_ix (je_var 0) (je_var 1)) (je_op (jo_plus false) (je_op (jo_times false) je_int (je_var 1)) (je_op jo_mod (je_type jf_int T.b_int (ja_cons (je_bltn (jf_sum rfl) T.b_sum (ja_cons (je_slice false (je_var 0) jo_none (jo_some je_int)) ja_nil)) ja_nil)) je_int)))))
abbrev s_l_box : Stmt := top 24
abbrev N_l_box : List Str := ["great"]
theorem sc_l_box : FnScope N_l_box ["great"] (defScope s_l_box) := ⟨rfl, rfl, rfl, by decide +kernel, rfl, by decide +kernel, by decide +kernel⟩
theorem d_l_box (T : Txt P w K mg base cl)  {f : Addr} (cdv : Value) (A : Around) (outer : List Env) (s : Shared) (H : Hp) (E : XK) (Z : Zx) (hcl : Z.cl = cl) (hr : RG 0 (A.deeper (envOfC "_law_box" (defScope s_l_box) s.heap.objs.size f cdv))) (ok : ZOk (cxOf (L2.CX P w) P w K mg base N_l_box "_law_box" (defScope s_l_box) f cdv A outer s H E) Z) : JSs (cxOf (L2.CX P w) P w K mg base N_l_box "_law_box" (defScope s_l_box) f cdv A outer s H E) Z (defBody s_l_box) (m_l_box Z.e) := by
  subst hcl
  have sc := sc_l_box
  exact (jss_box 0 (jss_one (js_ret (je_lst true (ja_cons (je_bltn jf_abs T.b_abs (ja_cons (je_var 0) ja_nil)) (ja_cons (je_cmp jo_ge (je_bltn jf_abs T.b_abs (ja_cons (je_var 0) ja_nil)) (je_op jo_pow je_int je_int)) (ja_cons (je_op jo_mod (je_type jf_int T.b_int (ja_cons (je_bltn jf_abs T.b_abs (ja_cons (je_var 0) ja_nil)) ja_nil)) je_int) (ja_cons je_int ja_nil))))))))
abbrev s_l_take : Stmt := top 25
abbrev N_l_take : List Str := ["box", "many", "mixed", "digit"]
theorem sc_l_take : FnScope N_l_take ["box", "many"] (defScope s_l_take) := ⟨rfl, rfl, rfl, by decide +kernel, rfl, by decide +kernel, by decide +kernel⟩
theorem d_l_take (T : Txt P w K mg base cl)  {f : Addr} (cdv : Value) (A : Around) (outer : List Env) (s : Shared) (H : Hp) (E : XK) (Z : Zx) (hcl : Z.cl = cl) (hr : RG 0 (A.deeper (envOfC "_law_take" (defScope s_l_take) s.heap.objs.size f cdv))) (ok : ZOk (cxOf (L2.CX P w) P w K mg base N_l_take "_law_take" (defScope s_l_take) f cdv A outer s H E) Z) : JSs (cxOf (L2.CX P w) P w K mg base N_l_take "_law_take" (defScope s_l_take) f cdv A outer s H E) Z (defBody s_l_take) (m_l_take Z.e) := by
  subst hcl
  have sc := sc_l_take
  exact (jss_unb 0 (jss_cons (js_if (JW.jt (jw_and (jt_tru (je_ix (je_var 0) je_int)) (jw_and1 (jt_cmp jo_gt (je_ix (je_var 0) je_int) je_int)))) (jss_cons (js_asg (je_op jo_mod (je_type jf_int T.b_int (ja_cons (je_ix (je_var 0) je_int) ja_nil)) (je_var 1)) (jg_name 3 sc.nd))
  (jss_cons (js_asg (je_op jo_div (je_ix (je_var 0) je_int) (je_var 1)) (jg_sub hr.units (je_var 0) je_int))
  (jss_one (js_ret (je_var 3))))) jss_nil)
  (jss_cons (js_asg (je_op (jo_plus false) (je_ix (je_var 0) je_int) je_int) (jg_sub hr.units (je_var 0) je_int))
  (jss_cons (js_asg (je_op jo_mod (je_type jf_int T.b_int (ja_cons (je_op jo_pow (je_op (jo_plus false) (je_op (jo_plus false) (je_ix (je_var 0) je_int) (je_op (jo_times false) je_int (je_ix (je_var 0) je_int))) je_int) je_int) ja_nil)) je_int) (jg_name 2 sc.nd))
  (jss_one (js_ret (je_op jo_mod (je_type jf_int T.b_int (ja_cons (je_op jo_div (je_op jo_mod (je_type jf_int T.b_int (ja_cons (je_op jo_pow (je_op (jo_plus false) (je_op (jo_times false) (je_var 2) je_int) (je_op (jo_times false) je_int (je_ix (je_var 0) je_int))) je_int) ja_nil)) je_int) je_int) ja_nil)) (je_var 1))))))))
abbrev s_l_same : Stmt := top 26
abbrev N_l_same : List Str := ["told", "due", "k"]
theorem sc_l_same : FnScope N_l_same ["told", "due"] (defScope s_l_same) := ⟨rfl, rfl, rfl, by decide +kernel, rfl, by decide +kernel, by decide +kernel⟩
theorem d_l_same (T : Txt P w K mg base cl) {lvR : Nat} {WR : Wt} {f_l_same : Addr} {fd_l_same : FuncData} (G_l_same : Fn P w K mg base cl lvR "_law_same" 2 WR f_l_same fd_l_same ["told", "due"]) (B_l_same : Binds K fd_l_same ["told", "due"] []) {f : Addr} (cdv : Value) (A : Around) (outer : List Env) (s : Shared) (H : Hp) (E : XK) (Z : Zx) (hcl : Z.cl = cl) (hr : RG lvR (A.deeper (envOfC "_law_same" (defScope s_l_same) s.heap.objs.size f cdv))) (ok : ZOk (cxOf (L2.CX P w) P w K mg base N_l_same "_law_same" (defScope s_l_same) f cdv A outer s H E) Z) : JSs (cxOf (L2.CX P w) P w K mg base N_l_same "_law_same" (defScope s_l_same) f cdv A outer s H E) Z (defBody s_l_same) (m_l_same WR Z.e) := by
  subst hcl
  have sc := sc_l_same
  exact (jss_cons (js_if (JW.jt (jw_or (jt_cmp jo_isN (je_var 1) je_non) (jw_or1 (jt_tru (je_isi "bool" kitM_bool T.b_isinstance T.b_bool (je_var 1)))))) (jss_one (js_ret (je_if (jt_cmp jo_isN (je_var 1) je_non) (je_cmp jo_isN (je_var 0) je_non) (je_and (je_isi "bool" kitM_bool T.b_isinstance T.b_bool (je_var 0)) (je_one (je_cmp (jo_eq hr.units) (je_cmp jo_isB (je_var 0) je_bl) (je_cmp jo_isB (je_var 1) je_bl))))))) jss_nil)
  (jss_cons (js_if (jt_tru (je_isi "int" kitM_int T.b_isinstance T.b_int (je_var 1))) (jss_one (js_ret (je_and (je_isi "int" kitM_int T.b_isinstance T.b_int (je_var 0)) (je_and (je_not (je_isi "bool" kitM_bool T.b_isinstance T.b_bool (je_var 0))) (je_one (je_cmp (jo_eq hr.units) (je_op jo_sub (je_type jf_int T.b_int (ja_cons (je_var 0) ja_nil)) (je_var 1)) je_int)))))) jss_nil)
  (jss_cons (js_if (jt_tru (je_isi "str" kitM_str T.b_isinstance T.b_str (je_var 1))) (jss_one (js_ret (je_and (je_isi "str" kitM_str T.b_isinstance T.b_str (je_var 0)) (je_and (je_cmp (jo_eq hr.units) (je_bltn jf_len T.b_len (ja_cons (je_var 0) ja_nil)) (je_bltn jf_len T.b_len (ja_cons (je_var 1) ja_nil))) (je_one (je_cmp (jo_eq hr.units) (je_comp false [("k", 2)] rfl sc.nd (ji_rng1 T.b_range (ja_cons (je_bltn jf_len T.b_len (ja_cons (je_var 1) ja_nil)) ja_nil)) (blkOk_by (N := N_l_same) (sc := defScope s_l_same) (by decide +kernel)) (jgw_name 2 (by rintro _ ⟨_, _, _, _, _, rfl⟩; exact pg_name (i := 2) sc.nd rfl (by first | exact Or.inl rfl | exact Or.inr rfl))) (fun Y hY => by obtain ⟨_, _, _, _, _, rfl⟩ := hY; exact (jts_one (jt_cmp (jo_ne hr.units) (je_slice false (je_var 0) (jo_some (je_var 2)) (jo_some (je_op (jo_plus false) (je_var 2) je_int))) (je_ix (je_var 1) (je_var 2))))) (fun Y hY => by obtain ⟨_, _, _, _, _, rfl⟩ := hY; exact (je_var 2))) (je_lst false ja_nil))))))) jss_nil)
  (jss_cons (js_if (JW.jt (jw_or (jt_cmp (jo_ne hr.units) (je_isi "list" kitM_list T.b_isinstance T.b_list (je_var 0)) (je_isi "list" kitM_list T.b_isinstance T.b_list (je_var 1))) (jw_or1 (jt_cmp (jo_ne hr.units) (je_isi "tuple" kitM_tuple T.b_isinstance T.b_tuple (je_var 0)) (je_isi "tuple" kitM_tuple T.b_isinstance T.b_tuple (je_var 1)))))) (jss_one (js_ret je_bl)) jss_nil)
  (jss_one (js_ret (je_and (je_cmp (jo_eq hr.units) (je_bltn jf_len T.b_len (ja_cons (je_var 0) ja_nil)) (je_bltn jf_len T.b_len (ja_cons (je_var 1) ja_nil))) (je_one (je_cmp (jo_eq hr.units) (je_comp false [("k", 2)] rfl sc.nd (ji_rng1 T.b_range (ja_cons (je_bltn jf_len T.b_len (ja_cons (je_var 1) ja_nil)) ja_nil)) (blkOk_by (N := N_l_same) (sc := defScope s_l_same) (by decide +kernel)) (jgw_name 2 (by rintro _ ⟨_, _, _, _, _, rfl⟩; exact pg_name (i := 2) sc.nd rfl (by first | exact Or.inl rfl | exact Or.inr rfl))) (fun Y hY => by obtain ⟨_, _, _, _, _, rfl⟩ := hY; exact (jts_one (jt_not (jt_tru (je_call G_l_same ZOk.calm hr B_l_same (ja_cons (je_ix (je_var 0) (je_var 2)) (ja_cons (je_ix (je_var 1) (je_var 2)) ja_nil))))))) (fun Y hY => by obtain ⟨_, _, _, _, _, rfl⟩ := hY; exact (je_var 2))) (je_lst false ja_nil))))))))))
abbrev s_l_very : Stmt := top 27
abbrev N_l_very : List Str := ["given", "value"]
theorem sc_l_very : FnScope N_l_very ["given", "value"] (defScope s_l_very) := ⟨rfl, rfl, rfl, by decide +kernel, rfl, by decide +kernel, by decide +kernel⟩
theorem d_l_very (T : Txt P w K mg base cl)  {f : Addr} (cdv : Value) (A : Around) (outer : List Env) (s : Shared) (H : Hp) (E : XK) (Z : Zx) (hcl : Z.cl = cl) (hr : RG 0 (A.deeper (envOfC "_law_very" (defScope s_l_very) s.heap.objs.size f cdv))) (ok : ZOk (cxOf (L2.CX P w) P w K mg base N_l_very "_law_very" (defScope s_l_very) f cdv A outer s H E) Z) : JSs (cxOf (L2.CX P w) P w K mg base N_l_very "_law_very" (defScope s_l_very) f cdv A outer s H E) Z (defBody s_l_very) (m_l_very shwP Z.e) := by
  subst hcl
  have sc := sc_l_very
  exact (jss_cons (js_if (jt_cmp (jo_ne hr.units) (je_bltn (jf_repr hr.units hr.g) T.b_repr (ja_cons (je_var 0) ja_nil)) (je_bltn (jf_repr hr.units hr.g) T.b_repr (ja_cons (je_var 1) ja_nil))) (jss_one (js_ret je_bl)) jss_nil)
  (jss_cons (js_if (jt_tru (je_isi "list" kitM_list T.b_isinstance T.b_list (je_var 1))) (jss_one (js_expr (je_insert (je_var 1) je_int je_str))) jss_nil)
  (jss_cons (js_if (jt_tru (je_isi "dict" kitM_dict T.b_isinstance T.b_dict (je_var 1))) (jss_one (js_asg je_int (jg_sub hr.units (je_var 1) je_str))) jss_nil)
  (jss_one (js_ret (je_cmp (jo_eq hr.units) (je_bltn (jf_repr hr.units hr.g) T.b_repr (ja_cons (je_var 0) ja_nil)) (je_bltn (jf_repr hr.units hr.g) T.b_repr (ja_cons (je_var 1) ja_nil))))))))
abbrev s_l_odd_value : Stmt := top 30
abbrev N_l_odd_value : List Str := ["box"]
theorem sc_l_odd_value : FnScope N_l_odd_value ["box"] (defScope s_l_odd_value) := ⟨rfl, rfl, rfl, by decide +kernel, rfl, by decide +kernel, by decide +kernel⟩
theorem d_l_odd_value (T : Txt P w K mg base cl) {f_l_take : Addr} {fd_l_take : FuncData} (G_l_take : Fn P w K mg base cl 1 "_law_take" 2 W_l_take f_l_take fd_l_take ["box", "many"]) (B_l_take : Binds K fd_l_take ["box", "many"] []) {f : Addr} (cdv : Value) (A : Around) (outer : List Env) (s : Shared) (H : Hp) (E : XK) (Z : Zx) (hcl : Z.cl = cl) (hr : RG 1 (A.deeper (envOfC "_law_odd_value" (defScope s_l_odd_value) s.heap.objs.size f cdv))) (ok : ZOk (cxOf (L2.CX P w) P w K mg base N_l_odd_value "_law_odd_value" (defScope s_l_odd_value) f cdv A outer s H E) Z) : JSs (cxOf (L2.CX P w) P w K mg base N_l_odd_value "_law_odd_value" (defScope s_l_odd_value) f cdv A outer s H E) Z (defBody s_l_odd_value) (m_l_odd_value Z.e) := by
  subst hcl
  have sc := sc_l_odd_value
  exact (jss_one (js_ret (je_ix (je_lst false (ja_cons je_bl (ja_cons je_bl (ja_cons je_non (ja_cons je_str (ja_cons (je_tup (ja_cons je_int ja_nil)) (ja_cons (je_lst true (ja_cons je_int ja_nil)) (ja_cons (je_dct1 je_int) (ja_cons je_str (ja_cons (je_tup ja_nil) (ja_cons (je_lst true ja_nil) (ja_cons je_str (ja_cons (je_tup (ja_cons (je_tup (ja_cons je_int (ja_cons je_int ja_nil))) ja_nil)) ja_nil))))))))))))) (je_call G_l_take ok (hr.mono (by decide)) B_l_take (ja_cons (je_var 0) (ja_cons je_int ja_nil))))))
abbrev s_l_power : Stmt := top 32
abbrev N_l_power : List Str := ["base", "exponent", "modulus", "found", "now"]
theorem sc_l_power : FnScope N_l_power ["base", "exponent", "modulus"] (defScope s_l_power) := ⟨rfl, rfl, rfl, by decide +kernel, rfl, by decide +kernel, by decide +kernel⟩
theorem d_l_power (T : Txt P w K mg base cl)  {f : Addr} (cdv : Value) (A : Around) (outer : List Env) (s : Shared) (H : Hp) (E : XK) (Z : Zx) (hcl : Z.cl = cl) (hr : RG 0 (A.deeper (envOfC "_law_power" (defScope s_l_power) s.heap.objs.size f cdv))) (ok : ZOk (cxOf (L2.CX P w) P w K mg base N_l_power "_law_power" (defScope s_l_power) f cdv A outer s H E) Z) : JSs (cxOf (L2.CX P w) P w K mg base N_l_power "_law_power" (defScope s_l_power) f cdv A outer s H E) Z (defBody s_l_power) (m_l_power Z.e) := by
  subst hcl
  have sc := sc_l_power
  exact (jss_cons (js_par 3 4 rfl sc.nd (ja_cons (je_op jo_mod je_int (je_var 2)) (ja_cons (je_op jo_mod (je_type jf_int T.b_int (ja_cons (je_var 0) ja_nil)) (je_var 2)) ja_nil)))
  (jss_cons (js_while (passes_of rfl) (jt_cmp jo_gt (je_var 1) je_int) (jss_cons (js_if (jt_tru (je_op jo_and (je_var 1) je_int)) (jss_one (js_asg (je_op jo_mod (je_type jf_int T.b_int (ja_cons (je_op (jo_times false) (je_var 3) (je_var 4)) ja_nil)) (je_var 2)) (jg_name 3 sc.nd))) jss_nil)
  (jss_one (js_par 4 1 rfl sc.nd (ja_cons (je_op jo_mod (je_type jf_int T.b_int (ja_cons (je_op (jo_times false) (je_var 4) (je_var 4)) ja_nil)) (je_var 2)) (ja_cons (je_op jo_shr (je_var 1) je_int) ja_nil))))))
  (jss_one (js_ret (je_var 3)))))
abbrev s_l_factors : Stmt := top 33
abbrev N_l_factors : List Str := ["number", "found", "p", "count"]
theorem sc_l_factors : FnScope N_l_factors ["number"] (defScope s_l_factors) := ⟨rfl, rfl, rfl, by decide +kernel, rfl, by decide +kernel, by decide +kernel⟩
theorem d_l_factors (T : Txt P w K mg base cl)  {f : Addr} (cdv : Value) (A : Around) (outer : List Env) (s : Shared) (H : Hp) (E : XK) (Z : Zx) (hcl : Z.cl = cl) (hr : RG 0 (A.deeper (envOfC "_law_factors" (defScope s_l_factors) s.heap.objs.size f cdv))) (ok : ZOk (cxOf (L2.CX P w) P w K mg base N_l_factors "_law_factors" (defScope s_l_factors) f cdv A outer s H E) Z) : JSs (cxOf (L2.CX P w) P w K mg base N_l_factors "_law_factors" (defScope s_l_factors) f cdv A outer s H E) Z (defBody s_l_factors) (m_l_factors Z.e) := by
  subst hcl
  have sc := sc_l_factors
  exact (jss_cons (js_par 1 2 rfl sc.nd (ja_cons (je_lst true ja_nil) (ja_cons je_int ja_nil)))
  (jss_cons (js_while (passes_of rfl) (jt_cmp jo_le (je_op (jo_times false) (je_var 2) (je_var 2)) (je_var 0)) (jss_cons (js_asg je_int (jg_name 3 sc.nd))
  (jss_cons (js_while (passes_of rfl) (jt_cmp (jo_eq hr.units) (je_op jo_mod (je_type jf_int T.b_int (ja_cons (je_var 0) ja_nil)) (je_var 2)) je_int) (jss_one (js_par 0 3 rfl sc.nd (ja_cons (je_op jo_div (je_var 0) (je_var 2)) (ja_cons (je_op (jo_plus false) (je_var 3) je_int) ja_nil)))))
  (jss_cons (js_if (jt_cmp jo_gt (je_var 3) je_int) (jss_one (js_expr (je_append (je_var 1) (je_tup (ja_cons (je_var 2) (ja_cons (je_var 3) ja_nil)))))) jss_nil)
  (jss_one (js_asg (je_if (jt_cmp (jo_eq hr.units) (je_var 2) je_int) (je_op (jo_plus false) (je_var 2) je_int) (je_op (jo_plus false) (je_var 2) je_int)) (jg_name 2 sc.nd)))))))
  (jss_one (js_ice 1 (js_ret (je_if (jt_cmp jo_gt (je_var 0) je_int) (je_op (jo_plus false) (je_var 1) (je_lst false (ja_cons (je_tup (ja_cons (je_var 0) (ja_cons je_int ja_nil))) ja_nil))) (je_var 1)))))))
abbrev s_l_is_prime : Stmt := top 34
abbrev N_l_is_prime : List Str := ["number"]
theorem sc_l_is_prime : FnScope N_l_is_prime ["number"] (defScope s_l_is_prime) := ⟨rfl, rfl, rfl, by decide +kernel, rfl, by decide +kernel, by decide +kernel⟩
theorem d_l_is_prime (T : Txt P w K mg base cl) {f_l_factors : Addr} {fd_l_factors : FuncData} (G_l_factors : Fn P w K mg base cl 1 "_law_factors" 1 W_l_factors f_l_factors fd_l_factors ["number"]) (B_l_factors : Binds K fd_l_factors ["number"] []) {f : Addr} (cdv : Value) (A : Around) (outer : List Env) (s : Shared) (H : Hp) (E : XK) (Z : Zx) (hcl : Z.cl = cl) (hr : RG 1 (A.deeper (envOfC "_law_is_prime" (defScope s_l_is_prime) s.heap.objs.size f cdv))) (ok : ZOk (cxOf (L2.CX P w) P w K mg base N_l_is_prime "_law_is_prime" (defScope s_l_is_prime) f cdv A outer s H E) Z) : JSs (cxOf (L2.CX P w) P w K mg base N_l_is_prime "_law_is_prime" (defScope s_l_is_prime) f cdv A outer s H E) Z (defBody s_l_is_prime) (m_l_is_prime Z.e) := by
  subst hcl
  have sc := sc_l_is_prime
  exact (jss_one (js_ret (je_and (je_cmp jo_gt (je_var 0) je_int) (je_one (je_cmp (jo_eq hr.units) (je_call G_l_factors ok (hr.mono (by decide)) B_l_factors (ja_cons (je_var 0) ja_nil)) (je_lst false (ja_cons (je_tup (ja_cons (je_var 0) (ja_cons je_int ja_nil))) ja_nil)))))))
abbrev s_l_root : Stmt := top 35
abbrev N_l_root : List Str := ["number", "low", "high", "middle"]
theorem sc_l_root : FnScope N_l_root ["number"] (defScope s_l_root) := ⟨rfl, rfl, rfl, by decide +kernel, rfl, by decide +kernel, by decide +kernel⟩
theorem d_l_root (T : Txt P w K mg base cl)  {f : Addr} (cdv : Value) (A : Around) (outer : List Env) (s : Shared) (H : Hp) (E : XK) (Z : Zx) (hcl : Z.cl = cl) (hr : RG 0 (A.deeper (envOfC "_law_root" (defScope s_l_root) s.heap.objs.size f cdv))) (ok : ZOk (cxOf (L2.CX P w) P w K mg base N_l_root "_law_root" (defScope s_l_root) f cdv A outer s H E) Z) : JSs (cxOf (L2.CX P w) P w K mg base N_l_root "_law_root" (defScope s_l_root) f cdv A outer s H E) Z (defBody s_l_root) (m_l_root Z.e) := by
  subst hcl
  have sc := sc_l_root
  exact (jss_cons (js_par 1 2 rfl sc.nd (ja_cons je_int (ja_cons (je_op (jo_plus false) (je_var 0) je_int) ja_nil)))
  (jss_cons (js_while (passes_of rfl) (jt_cmp jo_gt (je_op jo_sub (je_var 2) (je_var 1)) je_int) (jss_cons (js_asg (je_op jo_div (je_op (jo_plus false) (je_var 1) (je_var 2)) je_int) (jg_name 3 sc.nd))
  (jss_one (js_if (jt_cmp jo_le (je_op (jo_times false) (je_var 3) (je_var 3)) (je_var 0)) (jss_one (js_asg (je_var 3) (jg_name 1 sc.nd))) (jss_one (js_asg (je_var 3) (jg_name 2 sc.nd)))))))
  (jss_one (js_ret (je_var 1)))))
abbrev s_l_number : Stmt := top 36
abbrev N_l_number : List Str := ["box", "most", "way", "found", "turn", "root", "one", "p"]
theorem sc_l_number : FnScope N_l_number ["box", "most"] (defScope s_l_number) := ⟨rfl, rfl, rfl, by decide +kernel, rfl, by decide +kernel, by decide +kernel⟩
theorem d_l_number (T : Txt P w K mg base cl) {f_l_root : Addr} {fd_l_root : FuncData} (G_l_root : Fn P w K mg base cl 1 "_law_root" 1 W_l_root f_l_root fd_l_root ["number"]) (B_l_root : Binds K fd_l_root ["number"] []) {f_l_take : Addr} {fd_l_take : FuncData} (G_l_take : Fn P w K mg base cl 1 "_law_take" 2 W_l_take f_l_take fd_l_take ["box", "many"]) (B_l_take : Binds K fd_l_take ["box", "many"] []) {f : Addr} (cdv : Value) (A : Around) (outer : List Env) (s : Shared) (H : Hp) (E : XK) (Z : Zx) (hcl : Z.cl = cl) (hr : RG 1 (A.deeper (envOfC "_law_number" (defScope s_l_number) s.heap.objs.size f cdv))) (ok : ZOk (cxOf (L2.CX P w) P w K mg base N_l_number "_law_number" (defScope s_l_number) f cdv A outer s H E) Z) : JSs (cxOf (L2.CX P w) P w K mg base N_l_number "_law_number" (defScope s_l_number) f cdv A outer s H E) Z (defBody s_l_number) (m_l_number Z.e) := by
  subst hcl
  have sc := sc_l_number
  exact (jss_cons (js_asg (je_call G_l_take ok (hr.mono (by decide)) B_l_take (ja_cons (je_var 0) (ja_cons je_int ja_nil))) (jg_name 2 sc.nd))
  (jss_cons (js_if (jt_cmp (jo_eq hr.units) (je_var 2) je_int) (jss_one (js_ret (je_op (jo_plus false) je_int (je_call G_l_take ok (hr.mono (by decide)) B_l_take (ja_cons (je_var 0) (ja_cons (je_bltn (jf_min2 rfl) T.b_min (ja_cons (je_var 1) (ja_cons je_int ja_nil))) ja_nil)))))) jss_nil)
  (jss_cons (js_if (jt_cmp (jo_eq hr.units) (je_var 2) je_int) (jss_cons (js_asg je_int (jg_name 3 sc.nd))
  (jss_cons (js_for (passes_of rfl) rfl (ji_rng1 T.b_range (ja_cons (je_call G_l_take ok (hr.mono (by decide)) B_l_take (ja_cons (je_var 0) (ja_cons je_int ja_nil))) ja_nil)) (jg_name 4 sc.nd) (jss_cons (js_asg (je_ix (je_lst false (ja_cons je_int (ja_cons je_int (ja_cons je_int (ja_cons je_int (ja_cons je_int (ja_cons je_int (ja_cons je_int (ja_cons je_int (ja_cons je_int ja_nil)))))))))) (je_call G_l_take ok (hr.mono (by decide)) B_l_take (ja_cons (je_var 0) (ja_cons je_int ja_nil)))) (jg_name 7 sc.nd))
  (jss_one (js_asg (je_if (jt_cmp jo_le (je_op (jo_times false) (je_var 3) (je_var 7)) (je_var 1)) (je_op (jo_times false) (je_var 3) (je_var 7)) (je_var 3)) (jg_name 3 sc.nd)))))
  (jss_one (js_ret (je_var 3))))) jss_nil)
  (jss_cons (js_if (jt_cmp (jo_eq hr.units) (je_var 2) je_int) (jss_cons (js_par 7 3 rfl sc.nd (ja_cons (je_ix (je_lst false (ja_cons je_int (ja_cons je_int (ja_cons je_int (ja_cons je_int (ja_cons je_int (ja_cons je_int (ja_cons je_int (ja_cons je_int (ja_cons je_int (ja_cons je_int (ja_cons je_int (ja_cons je_int (ja_cons je_int ja_nil)))))))))))))) (je_call G_l_take ok (hr.mono (by decide)) B_l_take (ja_cons (je_var 0) (ja_cons je_int ja_nil)))) (ja_cons je_int ja_nil)))
  (jss_cons (js_for (passes_of rfl) rfl (ji_rng1 T.b_range (ja_cons (je_op (jo_plus false) je_int (je_call G_l_take ok (hr.mono (by decide)) B_l_take (ja_cons (je_var 0) (ja_cons je_int ja_nil)))) ja_nil)) (jg_name 4 sc.nd) (jss_one (js_asg (je_if (jt_cmp jo_le (je_op (jo_times false) (je_var 3) (je_var 7)) (je_var 1)) (je_op (jo_times false) (je_var 3) (je_var 7)) (je_var 3)) (jg_name 3 sc.nd))))
  (jss_one (js_ret (je_var 3))))) jss_nil)
  (jss_cons (js_if (jt_cmp (jo_eq hr.units) (je_var 2) je_int) (jss_cons (js_asg (je_op (jo_plus false) je_int (je_call G_l_take ok (hr.mono (by decide)) B_l_take (ja_cons (je_var 0) (ja_cons (je_bltn (jf_max2 rfl) T.b_max (ja_cons je_int (ja_cons (je_call G_l_root ok (hr.mono (by decide)) B_l_root (ja_cons (je_var 1) ja_nil)) ja_nil))) ja_nil)))) (jg_name 5 sc.nd))
  (jss_one (js_ret (je_bltn (jf_max2 rfl) T.b_max (ja_cons je_int (ja_cons (je_bltn (jf_min2 rfl) T.b_min (ja_cons (je_var 1) (ja_cons (je_op jo_sub (je_op (jo_plus false) (je_op (jo_times false) (je_var 5) (je_var 5)) (je_call G_l_take ok (hr.mono (by decide)) B_l_take (ja_cons (je_var 0) (ja_cons je_int ja_nil)))) je_int) ja_nil))) ja_nil)))))) jss_nil)
  (jss_cons (js_if (jt_cmp (jo_eq hr.units) (je_var 2) je_int) (jss_cons (js_asg (je_op (jo_plus false) je_int (je_call G_l_take ok (hr.mono (by decide)) B_l_take (ja_cons (je_var 0) (ja_cons (je_bltn (jf_max2 rfl) T.b_max (ja_cons je_int (ja_cons (je_call G_l_root ok (hr.mono (by decide)) B_l_root (ja_cons (je_var 1) ja_nil)) ja_nil))) ja_nil)))) (jg_name 6 sc.nd))
  (jss_one (js_ret (je_bltn (jf_max2 rfl) T.b_max (ja_cons je_int (ja_cons (je_bltn (jf_min2 rfl) T.b_min (ja_cons (je_var 1) (ja_cons (je_op (jo_times false) (je_var 6) (je_op (jo_plus false) je_int (je_call G_l_take ok (hr.mono (by decide)) B_l_take (ja_cons (je_var 0) (ja_cons (je_bltn (jf_max2 rfl) T.b_max (ja_cons je_int (ja_cons (je_op jo_div (je_var 1) (je_var 6)) ja_nil))) ja_nil))))) ja_nil))) ja_nil)))))) jss_nil)
  (jss_one (js_ret (je_op (jo_plus false) je_int (je_call G_l_take ok (hr.mono (by decide)) B_l_take (ja_cons (je_var 0) (ja_cons (je_var 1) ja_nil))))))))))))
abbrev s_l_most : Stmt := top 37
abbrev N_l_most : List Str := ["box"]
theorem sc_l_most : FnScope N_l_most ["box"] (defScope s_l_most) := ⟨rfl, rfl, rfl, by decide +kernel, rfl, by decide +kernel, by decide +kernel⟩
theorem d_l_most (T : Txt P w K mg base cl) {f_l_take : Addr} {fd_l_take : FuncData} (G_l_take : Fn P w K mg base cl 1 "_law_take" 2 W_l_take f_l_take fd_l_take ["box", "many"]) (B_l_take : Binds K fd_l_take ["box", "many"] []) {f : Addr} (cdv : Value) (A : Around) (outer : List Env) (s : Shared) (H : Hp) (E : XK) (Z : Zx) (hcl : Z.cl = cl) (hr : RG 1 (A.deeper (envOfC "_law_most" (defScope s_l_most) s.heap.objs.size f cdv))) (ok : ZOk (cxOf (L2.CX P w) P w K mg base N_l_most "_law_most" (defScope s_l_most) f cdv A outer s H E) Z) : JSs (cxOf (L2.CX P w) P w K mg base N_l_most "_law_most" (defScope s_l_most) f cdv A outer s H E) Z (defBody s_l_most) (m_l_most Z.e) := by
  subst hcl
  have sc := sc_l_most
  exact (jss_one (js_ret (je_ix (je_lst false (ja_cons je_int (ja_cons je_int (ja_cons je_int (ja_cons je_int (ja_cons je_int (ja_cons (je_op jo_pow je_int je_int) (ja_cons (je_op jo_pow je_int je_int) (ja_cons (je_op jo_pow je_int je_int) ja_nil))))))))) (je_call G_l_take ok (hr.mono (by decide)) B_l_take (ja_cons (je_var 0) (ja_cons je_int ja_nil))))))
abbrev s_l_strong : Stmt := top 38
abbrev N_l_strong : List Str := ["number", "base", "now", "turn", "d", "s"]
theorem sc_l_strong : FnScope N_l_strong ["number", "base"] (defScope s_l_strong) := ⟨rfl, rfl, rfl, by decide +kernel, rfl, by decide +kernel, by decide +kernel⟩
theorem d_l_strong (T : Txt P w K mg base cl) {f_l_power : Addr} {fd_l_power : FuncData} (G_l_power : Fn P w K mg base cl 1 "_law_power" 3 W_l_power f_l_power fd_l_power ["base", "exponent", "modulus"]) (B_l_power : Binds K fd_l_power ["base", "exponent", "modulus"] []) {f : Addr} (cdv : Value) (A : Around) (outer : List Env) (s : Shared) (H : Hp) (E : XK) (Z : Zx) (hcl : Z.cl = cl) (hr : RG 1 (A.deeper (envOfC "_law_strong" (defScope s_l_strong) s.heap.objs.size f cdv))) (ok : ZOk (cxOf (L2.CX P w) P w K mg base N_l_strong "_law_strong" (defScope s_l_strong) f cdv A outer s H E) Z) : JSs (cxOf (L2.CX P w) P w K mg base N_l_strong "_law_strong" (defScope s_l_strong) f cdv A outer s H E) Z (defBody s_l_strong) (m_l_strong Z.e) := by
  subst hcl
  have sc := sc_l_strong
  exact (jss_cons (js_par 4 5 rfl sc.nd (ja_cons (je_op jo_sub (je_var 0) je_int) (ja_cons je_int ja_nil)))
  (jss_cons (js_while (passes_of rfl) (jt_cmp (jo_eq hr.units) (je_op jo_and (je_var 4) je_int) je_int) (jss_one (js_par 4 5 rfl sc.nd (ja_cons (je_op jo_shr (je_var 4) je_int) (ja_cons (je_op (jo_plus false) (je_var 5) je_int) ja_nil)))))
  (jss_cons (js_asg (je_call G_l_power ok (hr.mono (by decide)) B_l_power (ja_cons (je_var 1) (ja_cons (je_var 4) (ja_cons (je_var 0) ja_nil)))) (jg_name 2 sc.nd))
  (jss_cons (js_if (jt_cmp jo_in (je_var 2) (je_lst false (ja_cons je_int (ja_cons (je_op jo_sub (je_var 0) je_int) ja_nil)))) (jss_one (js_ret je_bl)) jss_nil)
  (jss_cons (js_for (passes_of rfl) rfl (ji_rng1 T.b_range (ja_cons (je_op jo_sub (je_var 5) je_int) ja_nil)) (jg_name 3 sc.nd) (jss_cons (js_asg (je_op jo_mod (je_type jf_int T.b_int (ja_cons (je_op (jo_times false) (je_var 2) (je_var 2)) ja_nil)) (je_var 0)) (jg_name 2 sc.nd))
  (jss_one (js_if (jt_cmp (jo_eq hr.units) (je_var 2) (je_op jo_sub (je_var 0) je_int)) (jss_one (js_ret je_bl)) jss_nil))))
  (jss_one (js_ret je_bl)))))))
abbrev s_l_witness : Stmt := top 39
abbrev N_l_witness : List Str := ["number", "base"]
theorem sc_l_witness : FnScope N_l_witness ["number"] (defScope s_l_witness) := ⟨rfl, rfl, rfl, by decide +kernel, rfl, by decide +kernel, by decide +kernel⟩
theorem d_l_witness (T : Txt P w K mg base cl) {f_l_is_prime : Addr} {fd_l_is_prime : FuncData} (G_l_is_prime : Fn P w K mg base cl 2 "_law_is_prime" 1 W_l_is_prime f_l_is_prime fd_l_is_prime ["number"]) (B_l_is_prime : Binds K fd_l_is_prime ["number"] []) {f_l_strong : Addr} {fd_l_strong : FuncData} (G_l_strong : Fn P w K mg base cl 2 "_law_strong" 2 W_l_strong f_l_strong fd_l_strong ["number", "base"]) (B_l_strong : Binds K fd_l_strong ["number", "base"] []) {f : Addr} (cdv : Value) (A : Around) (outer : List Env) (s : Shared) (H : Hp) (E : XK) (Z : Zx) (hcl : Z.cl = cl) (hr : RG 2 (A.deeper (envOfC "_law_witness" (defScope s_l_witness) s.heap.objs.size f cdv))) (ok : ZOk (cxOf (L2.CX P w) P w K mg base N_l_witness "_law_witness" (defScope s_l_witness) f cdv A outer s H E) Z) : JSs (cxOf (L2.CX P w) P w K mg base N_l_witness "_law_witness" (defScope s_l_witness) f cdv A outer s H E) Z (defBody s_l_witness) (m_l_witness Z.e) := by
  subst hcl
  have sc := sc_l_witness
  exact (jss_cons (js_if (jt_tru (je_call G_l_is_prime ok (hr.mono (by decide)) B_l_is_prime (ja_cons (je_var 0) ja_nil))) (jss_one (js_ret je_non)) jss_nil)
  (jss_cons (js_for (passes_of rfl) rfl (ji_rng2 T.b_range (ja_cons je_int (ja_cons (je_op jo_sub (je_var 0) je_int) ja_nil))) (jg_name 1 sc.nd) (jss_one (js_if (jt_not (jt_tru (je_call G_l_strong ok (hr.mono (by decide)) B_l_strong (ja_cons (je_var 0) (ja_cons (je_var 1) ja_nil))))) (jss_one (js_ret (je_var 1))) jss_nil)))
  (jss_one (js_ret je_non))))
abbrev s_l_asked : Stmt := top 40
abbrev N_l_asked : List Str := ["word", "number", "base", "named", "e"]
theorem sc_l_asked : FnScope N_l_asked ["word", "number", "base", "named"] (defScope s_l_asked) := ⟨rfl, rfl, rfl, by decide +kernel, rfl, by decide +kernel, by decide +kernel⟩
theorem d_l_asked (T : Txt P w K mg base cl) {f_passes_fermat : Addr} {fd_passes_fermat : FuncData} (G_passes_fermat : Fn P w K mg base cl 5 "passes_fermat" 2 W_passes_fermat f_passes_fermat fd_passes_fermat ["number", "base"]) (B_passes_fermat : Binds K fd_passes_fermat ["number", "base"] []) (BK_passes_fermat_0_base_number : BindK K fd_passes_fermat ["number", "base"] 0 ["base", "number"] [1, 0]) {f_passes_strong : Addr} {fd_passes_strong : FuncData} (G_passes_strong : Fn P w K mg base cl 5 "passes_strong" 2 W_passes_strong f_passes_strong fd_passes_strong ["number", "base"]) (B_passes_strong : Binds K fd_passes_strong ["number", "base"] []) (BK_passes_strong_0_base_number : BindK K fd_passes_strong ["number", "base"] 0 ["base", "number"] [1, 0]) {f_strong_witness : Addr} {fd_strong_witness : FuncData} (G_strong_witness : Fn P w K mg base cl 5 "strong_witness" 1 W_strong_witness f_strong_witness fd_strong_witness ["number"]) (B_strong_witness : Binds K fd_strong_witness ["number"] []) (BK_strong_witness_0_number : BindK K fd_strong_witness ["number"] 0 ["number"] [0]) {f : Addr} (cdv : Value) (A : Around) (outer : List Env) (s : Shared) (H : Hp) (E : XK) (Z : Zx) (hcl : Z.cl = cl) (hr : RG 5 (A.deeper (envOfC "_law_asked" (defScope s_l_asked) s.heap.objs.size f cdv))) (ok : ZOk (cxOf (L2.CX P w) P w K mg base N_l_asked "_law_asked" (defScope s_l_asked) f cdv A outer s H E) Z) : JSs (cxOf (L2.CX P w) P w K mg base N_l_asked "_law_asked" (defScope s_l_asked) f cdv A outer s H E) Z (defBody s_l_asked) (m_l_asked Z.e) := by
  subst hcl
  have sc := sc_l_asked
  exact (jss_one (js_try ok sc.nd (fun pn xe Z1 h1 ok1 hp1 => by obtain ⟨cl1, S01, H01, W1, e1⟩ := Z1; cases h1; exact (jss_cons (js_if (jt_cmp (jo_eq hr.units) (je_var 0) je_str) (jss_one (js_ret (je_lst false (ja_cons je_str (ja_cons (je_if (jt_tru (je_var 3)) (je_callK0 G_passes_fermat ok1 (hr.mono (by decide)) BK_passes_fermat_0_base_number (jk_cons (je_var 2) (jk_cons (je_var 1) jk_nil))) (je_call G_passes_fermat ok1 (hr.mono (by decide)) B_passes_fermat (ja_cons (je_var 1) (ja_cons (je_var 2) ja_nil)))) ja_nil))))) jss_nil)
  (jss_cons (js_if (jt_cmp (jo_eq hr.units) (je_var 0) je_str) (jss_one (js_ret (je_lst false (ja_cons je_str (ja_cons (je_if (jt_tru (je_var 3)) (je_callK0 G_passes_strong ok1 (hr.mono (by decide)) BK_passes_strong_0_base_number (jk_cons (je_var 2) (jk_cons (je_var 1) jk_nil))) (je_call G_passes_strong ok1 (hr.mono (by decide)) B_passes_strong (ja_cons (je_var 1) (ja_cons (je_var 2) ja_nil)))) ja_nil))))) jss_nil)
  (jss_one (js_ret (je_lst false (ja_cons je_str (ja_cons (je_if (jt_tru (je_var 3)) (je_callK0 G_strong_witness ok1 (hr.mono (by decide)) BK_strong_witness_0_number (jk_cons (je_var 1) jk_nil)) (je_call G_strong_witness ok1 (hr.mono (by decide)) B_strong_witness (ja_cons (je_var 1) ja_nil))) ja_nil)))))))) (HdJ.cons T.c_InvalidNumber T.exm_InvalidNumber (fun a oe c1 d pn hk hz hf => (jss_one (js_ret (je_lst false (ja_cons je_str (ja_cons (je_exF (f := "given") (T.xf c1 hk) (T.no_given c1 hk) hz hf (je_var 4)) (ja_cons (je_exI subE (T.ei c1 hk) hz hf (T.kit_NumberError c1 hk) T.b_isinstance T.c_NumberError (je_var 4)) ja_nil))))))) (HdJ.cons T.c_InvalidBase T.exm_InvalidBase (fun a oe c1 d pn hk hz hf => (jss_one (js_ret (je_lst false (ja_cons je_str (ja_cons (je_exF (f := "given") (T.xf c1 hk) (T.no_given c1 hk) hz hf (je_var 4)) (ja_cons (je_exI subE (T.ei c1 hk) hz hf (T.kit_NumberError c1 hk) T.b_isinstance T.c_NumberError (je_var 4)) ja_nil))))))) HdJ.nil))))
abbrev s_l_drawn : Stmt := top 41
abbrev N_l_drawn : List Str := ["box", "number", "way", "most", "p"]
theorem sc_l_drawn : FnScope N_l_drawn ["box"] (defScope s_l_drawn) := ⟨rfl, rfl, rfl, by decide +kernel, rfl, by decide +kernel, by decide +kernel⟩
theorem d_l_drawn (T : Txt P w K mg base cl) {f_l_is_prime : Addr} {fd_l_is_prime : FuncData} (G_l_is_prime : Fn P w K mg base cl 2 "_law_is_prime" 1 W_l_is_prime f_l_is_prime fd_l_is_prime ["number"]) (B_l_is_prime : Binds K fd_l_is_prime ["number"] []) {f_l_most : Addr} {fd_l_most : FuncData} (G_l_most : Fn P w K mg base cl 2 "_law_most" 1 W_l_most f_l_most fd_l_most ["box"]) (B_l_most : Binds K fd_l_most ["box"] []) {f_l_number : Addr} {fd_l_number : FuncData} (G_l_number : Fn P w K mg base cl 2 "_law_number" 2 W_l_number f_l_number fd_l_number ["box", "most"]) (B_l_number : Binds K fd_l_number ["box", "most"] []) {f_l_take : Addr} {fd_l_take : FuncData} (G_l_take : Fn P w K mg base cl 1 "_law_take" 2 W_l_take f_l_take fd_l_take ["box", "many"]) (B_l_take : Binds K fd_l_take ["box", "many"] []) {f : Addr} (cdv : Value) (A : Around) (outer : List Env) (s : Shared) (H : Hp) (E : XK) (Z : Zx) (hcl : Z.cl = cl) (hr : RG 2 (A.deeper (envOfC "_law_drawn" (defScope s_l_drawn) s.heap.objs.size f cdv))) (ok : ZOk (cxOf (L2.CX P w) P w K mg base N_l_drawn "_law_drawn" (defScope s_l_drawn) f cdv A outer s H E) Z) : JSs (cxOf (L2.CX P w) P w K mg base N_l_drawn "_law_drawn" (defScope s_l_drawn) f cdv A outer s H E) Z (defBody s_l_drawn) (m_l_drawn Z.e) := by
  subst hcl
  have sc := sc_l_drawn
  exact (jss_cons (js_par 2 3 rfl sc.nd (ja_cons (je_call G_l_take ok (hr.mono (by decide)) B_l_take (ja_cons (je_var 0) (ja_cons je_int ja_nil))) (ja_cons (je_call G_l_most ok (hr.mono (by decide)) B_l_most (ja_cons (je_var 0) ja_nil)) ja_nil)))
  (jss_cons (js_if (jt_cmp (jo_eq hr.units) (je_var 2) je_int) (jss_one (js_ret (je_ix (je_lst false (ja_cons je_int (ja_cons je_int (ja_cons je_int (ja_cons je_int (ja_cons je_int (ja_cons je_int (ja_cons je_int (ja_cons je_int (ja_cons je_int (ja_cons je_int (ja_cons je_int (ja_cons je_int (ja_cons je_int (ja_cons je_int (ja_cons je_int (ja_cons (je_op jo_bor (je_op jo_div je_int je_int) je_int) ja_nil))))))))))))))))) (je_call G_l_take ok (hr.mono (by decide)) B_l_take (ja_cons (je_var 0) (ja_cons je_int ja_nil)))))) jss_nil)
  (jss_cons (js_if (jt_cmp (jo_eq hr.units) (je_var 2) je_int) (jss_cons (js_asg (je_ix (je_lst false (ja_cons je_int (ja_cons je_int (ja_cons je_int (ja_cons je_int (ja_cons je_int (ja_cons je_int (ja_cons je_int (ja_cons (je_op (jo_plus false) (je_op (jo_times false) je_int (je_call G_l_take ok (hr.mono (by decide)) B_l_take (ja_cons (je_var 0) (ja_cons je_int ja_nil)))) je_int) ja_nil))))))))) (je_call G_l_take ok (hr.mono (by decide)) B_l_take (ja_cons (je_var 0) (ja_cons je_int ja_nil)))) (jg_name 4 sc.nd))
  (jss_one (js_ret (je_op (jo_times false) (je_var 4) (je_op jo_sub (je_op (jo_times false) je_int (je_var 4)) je_int))))) jss_nil)
  (jss_cons (js_if (jt_cmp (jo_eq hr.units) (je_var 2) je_int) (jss_one (js_ret (je_op (jo_times false) (je_op (jo_plus false) (je_op (jo_times false) je_int (je_call G_l_take ok (hr.mono (by decide)) B_l_take (ja_cons (je_var 0) (ja_cons je_int ja_nil)))) je_int) (je_op (jo_plus false) (je_op (jo_times false) je_int (je_call G_l_take ok (hr.mono (by decide)) B_l_take (ja_cons (je_var 0) (ja_cons je_int ja_nil)))) je_int)))) jss_nil)
  (jss_cons (js_asg (je_bltn (jf_max2 rfl) T.b_max (ja_cons je_int (ja_cons (je_op jo_bor (je_call G_l_number ok (hr.mono (by decide)) B_l_number (ja_cons (je_var 0) (ja_cons (je_var 3) ja_nil))) je_int) ja_nil))) (jg_name 1 sc.nd))
  (jss_cons (js_while (passes_of rfl) (JW.jt (jw_and (jt_cmp (jo_eq hr.units) (je_var 2) je_int) (jw_and1 (jt_not (jt_tru (je_call G_l_is_prime ok (hr.mono (by decide)) B_l_is_prime (ja_cons (je_var 1) ja_nil))))))) (jss_one (js_asg (je_if (jt_cmp jo_gt (je_var 1) je_int) (je_op jo_sub (je_var 1) je_int) je_int) (jg_name 1 sc.nd))))
  (jss_one (js_ret (je_bltn (jf_min2 rfl) T.b_min (ja_cons (je_var 1) (ja_cons (je_op jo_sub (je_op jo_pow je_int je_int) je_int) ja_nil)))))))))))
abbrev s_l_bases : Stmt := top 42
abbrev N_l_bases : List Str := ["box", "number", "found", "square", "base"]
theorem sc_l_bases : FnScope N_l_bases ["box", "number"] (defScope s_l_bases) := ⟨rfl, rfl, rfl, by decide +kernel, rfl, by decide +kernel, by decide +kernel⟩
theorem d_l_bases (T : Txt P w K mg base cl) {f_l_power : Addr} {fd_l_power : FuncData} (G_l_power : Fn P w K mg base cl 1 "_law_power" 3 W_l_power f_l_power fd_l_power ["base", "exponent", "modulus"]) (B_l_power : Binds K fd_l_power ["base", "exponent", "modulus"] []) {f_l_take : Addr} {fd_l_take : FuncData} (G_l_take : Fn P w K mg base cl 1 "_law_take" 2 W_l_take f_l_take fd_l_take ["box", "many"]) (B_l_take : Binds K fd_l_take ["box", "many"] []) {f : Addr} (cdv : Value) (A : Around) (outer : List Env) (s : Shared) (H : Hp) (E : XK) (Z : Zx) (hcl : Z.cl = cl) (hr : RG 1 (A.deeper (envOfC "_law_bases" (defScope s_l_bases) s.heap.objs.size f cdv))) (ok : ZOk (cxOf (L2.CX P w) P w K mg base N_l_bases "_law_bases" (defScope s_l_bases) f cdv A outer s H E) Z) : JSs (cxOf (L2.CX P w) P w K mg base N_l_bases "_law_bases" (defScope s_l_bases) f cdv A outer s H E) Z (defBody s_l_bases) (m_l_bases Z.e) := by
  subst hcl
  have sc := sc_l_bases
  exact (jss_cons (js_asg (je_lst false (ja_cons je_int (ja_cons je_int (ja_cons (je_op jo_sub (je_var 1) je_int) (ja_cons (je_op (jo_plus false) je_int (je_call G_l_take ok (hr.mono (by decide)) B_l_take (ja_cons (je_var 0) (ja_cons (je_op jo_sub (je_var 1) je_int) ja_nil)))) (ja_cons (je_op (jo_plus false) je_int (je_call G_l_take ok (hr.mono (by decide)) B_l_take (ja_cons (je_var 0) (ja_cons (je_op jo_sub (je_var 1) je_int) ja_nil)))) ja_nil)))))) (jg_name 2 sc.nd))
  (jss_cons (js_asg (je_call G_l_power ok (hr.mono (by decide)) B_l_power (ja_cons (je_ix (je_var 2) je_int) (ja_cons (je_op jo_div (je_op jo_sub (je_var 1) je_int) je_int) (ja_cons (je_var 1) ja_nil)))) (jg_name 3 sc.nd))
  (jss_one (js_ret (je_comp false [("base", 4)] rfl sc.nd (ji_list (je_op (jo_plus false) (je_var 2) (je_lst false (ja_cons (je_var 3) (ja_cons (je_call G_l_power ok (hr.mono (by decide)) B_l_power (ja_cons je_int (ja_cons (je_op (jo_plus false) je_int (je_call G_l_take ok (hr.mono (by decide)) B_l_take (ja_cons (je_var 0) (ja_cons je_int ja_nil)))) (ja_cons (je_var 1) ja_nil)))) ja_nil))))) (blkOk_by (N := N_l_bases) (sc := defScope s_l_bases) (by decide +kernel)) (jgw_name 4 (by rintro _ ⟨_, _, _, _, _, rfl⟩; exact pg_name (i := 4) sc.nd rfl (by first | exact Or.inl rfl | exact Or.inr rfl))) (fun Y hY => by obtain ⟨_, _, _, _, _, rfl⟩ := hY; exact (jts_one (jt_chain jo_le jo_le je_int (je_var 4) (je_op jo_sub (je_var 1) je_int)))) (fun Y hY => by obtain ⟨_, _, _, _, _, rfl⟩ := hY; exact (je_var 4)))))))
abbrev s_l_right : Stmt := top 43
abbrev N_l_right : List Str := ["box", "named", "number", "base", "due", "fermat", "strong", "word"]
theorem sc_l_right : FnScope N_l_right ["box", "named"] (defScope s_l_right) := ⟨rfl, rfl, rfl, by decide +kernel, rfl, by decide +kernel, by decide +kernel⟩
theorem d_l_right (T : Txt P w K mg base cl) {f_l_asked : Addr} {fd_l_asked : FuncData} (G_l_asked : Fn P w K mg base cl 6 "_law_asked" 4 W_l_asked f_l_asked fd_l_asked ["word", "number", "base", "named"]) (B_l_asked : Binds K fd_l_asked ["word", "number", "base", "named"] []) {f_l_bases : Addr} {fd_l_bases : FuncData} (G_l_bases : Fn P w K mg base cl 2 "_law_bases" 2 W_l_bases f_l_bases fd_l_bases ["box", "number"]) (B_l_bases : Binds K fd_l_bases ["box", "number"] []) {f_l_drawn : Addr} {fd_l_drawn : FuncData} (G_l_drawn : Fn P w K mg base cl 3 "_law_drawn" 1 W_l_drawn f_l_drawn fd_l_drawn ["box"]) (B_l_drawn : Binds K fd_l_drawn ["box"] []) {f_l_power : Addr} {fd_l_power : FuncData} (G_l_power : Fn P w K mg base cl 1 "_law_power" 3 W_l_power f_l_power fd_l_power ["base", "exponent", "modulus"]) (B_l_power : Binds K fd_l_power ["base", "exponent", "modulus"] []) {f_l_same : Addr} {fd_l_same : FuncData} (G_l_same : Fn P w K mg base cl 14 "_law_same" 2 W_l_same f_l_same fd_l_same ["told", "due"]) (B_l_same : Binds K fd_l_same ["told", "due"] []) {f_l_strong : Addr} {fd_l_strong : FuncData} (G_l_strong : Fn P w K mg base cl 2 "_law_strong" 2 W_l_strong f_l_strong fd_l_strong ["number", "base"]) (B_l_strong : Binds K fd_l_strong ["number", "base"] []) {f_l_witness : Addr} {fd_l_witness : FuncData} (G_l_witness : Fn P w K mg base cl 3 "_law_witness" 1 W_l_witness f_l_witness fd_l_witness ["number"]) (B_l_witness : Binds K fd_l_witness ["number"] []) {f : Addr} (cdv : Value) (A : Around) (outer : List Env) (s : Shared) (H : Hp) (E : XK) (Z : Zx) (hcl : Z.cl = cl) (hr : RG 14 (A.deeper (envOfC "_law_right" (defScope s_l_right) s.heap.objs.size f cdv))) (ok : ZOk (cxOf (L2.CX P w) P w K mg base N_l_right "_law_right" (defScope s_l_right) f cdv A outer s H E) Z) : JSs (cxOf (L2.CX P w) P w K mg base N_l_right "_law_right" (defScope s_l_right) f cdv A outer s H E) Z (defBody s_l_right) (m_l_right Z.e) := by
  subst hcl
  have sc := sc_l_right
  exact (jss_cons (js_asg (je_call G_l_drawn ok (hr.mono (by decide)) B_l_drawn (ja_cons (je_var 0) ja_nil)) (jg_name 2 sc.nd))
  (jss_cons (js_for (passes_of rfl) rfl (ji_list (je_call G_l_bases ok (hr.mono (by decide)) B_l_bases (ja_cons (je_var 0) (ja_cons (je_var 2) ja_nil)))) (jg_name 3 sc.nd) (jss_cons (js_par 5 6 rfl sc.nd (ja_cons (je_cmp (jo_eq hr.units) (je_call G_l_power ok (hr.mono (by decide)) B_l_power (ja_cons (je_var 3) (ja_cons (je_op jo_sub (je_var 2) je_int) (ja_cons (je_var 2) ja_nil)))) je_int) (ja_cons (je_call G_l_strong ok (hr.mono (by decide)) B_l_strong (ja_cons (je_var 2) (ja_cons (je_var 3) ja_nil))) ja_nil)))
  (jss_cons (js_if (JW.jt (jw_and (jt_tru (je_var 6)) (jw_and1 (jt_not (jt_tru (je_var 5)))))) (jss_one (js_ret je_bl)) jss_nil)
  (jss_cons (js_for (passes_of rfl) rfl (ji_list (je_lst false (ja_cons (je_tup (ja_cons je_str (ja_cons (je_var 5) ja_nil))) (ja_cons (je_tup (ja_cons je_str (ja_cons (je_var 6) ja_nil))) ja_nil)))) (jg_seq rfl (jgs_cons (jg_name 7 sc.nd) (jgs_cons (jg_name 4 sc.nd) jgs_nil))) (jss_one (js_if (jt_not (jt_tru (je_call G_l_same ok (hr.mono (by decide)) B_l_same (ja_cons (je_call G_l_asked ok (hr.mono (by decide)) B_l_asked (ja_cons (je_var 7) (ja_cons (je_var 2) (ja_cons (je_var 3) (ja_cons (je_var 1) ja_nil))))) (ja_cons (je_lst false (ja_cons je_str (ja_cons (je_var 4) ja_nil))) ja_nil))))) (jss_one (js_ret je_bl)) jss_nil)))
  (jss_one (js_asg (je_not (je_var 1)) (jg_name 1 sc.nd)))))))
  (jss_cons (js_asg (je_call G_l_witness ok (hr.mono (by decide)) B_l_witness (ja_cons (je_var 2) ja_nil)) (jg_name 4 sc.nd))
  (jss_one (js_ret (je_and (je_call G_l_same ok (hr.mono (by decide)) B_l_same (ja_cons (je_call G_l_asked ok (hr.mono (by decide)) B_l_asked (ja_cons je_str (ja_cons (je_var 2) (ja_cons je_non (ja_cons (je_var 1) ja_nil))))) (ja_cons (je_lst false (ja_cons je_str (ja_cons (je_var 4) ja_nil))) ja_nil))) (je_one (je_call G_l_same ok (hr.mono (by decide)) B_l_same (ja_cons (je_call G_l_asked ok (hr.mono (by decide)) B_l_asked (ja_cons je_str (ja_cons (je_var 2) (ja_cons je_non (ja_cons (je_not (je_var 1)) ja_nil))))) (ja_cons (je_lst false (ja_cons je_str (ja_cons (je_var 4) ja_nil))) ja_nil))))))))))
abbrev s_l_errors : Stmt := top 44
abbrev N_l_errors : List Str := ["box", "named", "good", "word", "bad", "told", "wrong"]
theorem sc_l_errors : FnScope N_l_errors ["box", "named"] (defScope s_l_errors) := ⟨rfl, rfl, rfl, by decide +kernel, rfl, by decide +kernel, by decide +kernel⟩
theorem d_l_errors (T : Txt P w K mg base cl) {f_l_asked : Addr} {fd_l_asked : FuncData} (G_l_asked : Fn P w K mg base cl 6 "_law_asked" 4 W_l_asked f_l_asked fd_l_asked ["word", "number", "base", "named"]) (B_l_asked : Binds K fd_l_asked ["word", "number", "base", "named"] []) {f_l_odd_value : Addr} {fd_l_odd_value : FuncData} (G_l_odd_value : Fn P w K mg base cl 2 "_law_odd_value" 1 W_l_odd_value f_l_odd_value fd_l_odd_value ["box"]) (B_l_odd_value : Binds K fd_l_odd_value ["box"] []) {f_l_take : Addr} {fd_l_take : FuncData} (G_l_take : Fn P w K mg base cl 1 "_law_take" 2 W_l_take f_l_take fd_l_take ["box", "many"]) (B_l_take : Binds K fd_l_take ["box", "many"] []) {f_l_very : Addr} {fd_l_very : FuncData} (G_l_very : Fn P w K mg base cl 1 "_law_very" 2 W_l_very f_l_very fd_l_very ["given", "value"]) (B_l_very : Binds K fd_l_very ["given", "value"] []) {f : Addr} (cdv : Value) (A : Around) (outer : List Env) (s : Shared) (H : Hp) (E : XK) (Z : Zx) (hcl : Z.cl = cl) (hr : RG 6 (A.deeper (envOfC "_law_errors" (defScope s_l_errors) s.heap.objs.size f cdv))) (ok : ZOk (cxOf (L2.CX P w) P w K mg base N_l_errors "_law_errors" (defScope s_l_errors) f cdv A outer s H E) Z) : JSs (cxOf (L2.CX P w) P w K mg base N_l_errors "_law_errors" (defScope s_l_errors) f cdv A outer s H E) Z (defBody s_l_errors) (m_l_errors Z.e) := by
  subst hcl
  have sc := sc_l_errors
  exact (jss_cons (js_asg (je_op (jo_plus false) (je_op (jo_times false) je_int (je_call G_l_take ok (hr.mono (by decide)) B_l_take (ja_cons (je_var 0) (ja_cons je_int ja_nil)))) je_int) (jg_name 2 sc.nd))
  (jss_cons (js_for (passes_of rfl) rfl (ji_list (je_lst false (ja_cons je_str (ja_cons je_str (ja_cons je_str ja_nil))))) (jg_name 3 sc.nd) (jss_cons (js_asg (je_ix (je_lst false (ja_cons je_int (ja_cons je_int (ja_cons je_int (ja_cons (je_neg je_int) (ja_cons (je_op (jo_plus false) (je_op jo_pow je_int je_int) je_int) (ja_cons (je_op (jo_times false) je_int (je_call G_l_take ok (hr.mono (by decide)) B_l_take (ja_cons (je_var 0) (ja_cons je_int ja_nil)))) (ja_cons (je_op (jo_plus false) (je_op jo_pow je_int je_int) je_int) (ja_cons (je_call G_l_odd_value ok (hr.mono (by decide)) B_l_odd_value (ja_cons (je_var 0) ja_nil)) (ja_cons (je_call G_l_odd_value ok (hr.mono (by decide)) B_l_odd_value (ja_cons (je_var 0) ja_nil)) ja_nil)))))))))) (je_call G_l_take ok (hr.mono (by decide)) B_l_take (ja_cons (je_var 0) (ja_cons je_int ja_nil)))) (jg_name 4 sc.nd))
  (jss_cons (js_asg (je_call G_l_asked ok (hr.mono (by decide)) B_l_asked (ja_cons (je_var 3) (ja_cons (je_var 4) (ja_cons (je_ix (je_lst false (ja_cons je_int (ja_cons je_int (ja_cons je_non ja_nil)))) (je_call G_l_take ok (hr.mono (by decide)) B_l_take (ja_cons (je_var 0) (ja_cons je_int ja_nil)))) (ja_cons (je_var 1) ja_nil))))) (jg_name 5 sc.nd))
  (jss_one (js_if (JW.jt (jw_or (jt_cmp (jo_ne hr.units) (je_ix (je_var 5) je_int) je_str) (jw_or (jt_cmp jo_isNotB (je_ix (je_var 5) je_int) je_bl) (jw_or1 (jt_not (jt_tru (je_call G_l_very ok (hr.mono (by decide)) B_l_very (ja_cons (je_ix (je_var 5) je_int) (ja_cons (je_var 4) ja_nil))))))))) (jss_one (js_ret je_bl)) jss_nil)))))
  (jss_cons (js_for (passes_of rfl) rfl (ji_list (je_lst false (ja_cons je_str (ja_cons je_str ja_nil)))) (jg_name 3 sc.nd) (jss_cons (js_asg (je_ix (je_lst false (ja_cons je_int (ja_cons je_int (ja_cons (je_op jo_sub (je_var 2) je_int) (ja_cons (je_var 2) (ja_cons (je_neg je_int) (ja_cons (je_op jo_pow je_int je_int) (ja_cons (je_call G_l_odd_value ok (hr.mono (by decide)) B_l_odd_value (ja_cons (je_var 0) ja_nil)) (ja_cons (je_call G_l_odd_value ok (hr.mono (by decide)) B_l_odd_value (ja_cons (je_var 0) ja_nil)) ja_nil))))))))) (je_call G_l_take ok (hr.mono (by decide)) B_l_take (ja_cons (je_var 0) (ja_cons je_int ja_nil)))) (jg_name 6 sc.nd))
  (jss_cons (js_asg (je_call G_l_asked ok (hr.mono (by decide)) B_l_asked (ja_cons (je_var 3) (ja_cons (je_var 2) (ja_cons (je_var 6) (ja_cons (je_not (je_var 1)) ja_nil))))) (jg_name 5 sc.nd))
  (jss_one (js_if (JW.jt (jw_or (jt_cmp (jo_ne hr.units) (je_ix (je_var 5) je_int) je_str) (jw_or (jt_cmp jo_isNotB (je_ix (je_var 5) je_int) je_bl) (jw_or1 (jt_not (jt_tru (je_call G_l_very ok (hr.mono (by decide)) B_l_very (ja_cons (je_ix (je_var 5) je_int) (ja_cons (je_var 6) ja_nil))))))))) (jss_one (js_ret je_bl)) jss_nil)))))
  (jss_one (js_ret je_bl)))))
abbrev s_law : Stmt := top 45
abbrev N_law : List Str := ["script", "k", "box", "named", "turn"]
theorem sc_law : FnScope N_law ["script"] (defScope s_law) := ⟨rfl, rfl, rfl, by decide +kernel, rfl, by decide +kernel, by decide +kernel⟩
theorem d_law (T : Txt P w K mg base cl) {f_l_box : Addr} {fd_l_box : FuncData} (G_l_box : Fn P w K mg base cl 1 "_law_box" 1 W_l_box f_l_box fd_l_box ["great"]) (B_l_box : Binds K fd_l_box ["great"] []) {f_l_cell : Addr} {fd_l_cell : FuncData} (G_l_cell : Fn P w K mg base cl 1 "_law_cell" 2 W_l_cell f_l_cell fd_l_cell ["script", "k"]) (B_l_cell : Binds K fd_l_cell ["script", "k"] []) {f_l_errors : Addr} {fd_l_errors : FuncData} (G_l_errors : Fn P w K mg base cl 7 "_law_errors" 2 W_l_errors f_l_errors fd_l_errors ["box", "named"]) (B_l_errors : Binds K fd_l_errors ["box", "named"] []) {f_l_right : Addr} {fd_l_right : FuncData} (G_l_right : Fn P w K mg base cl 15 "_law_right" 2 W_l_right f_l_right fd_l_right ["box", "named"]) (B_l_right : Binds K fd_l_right ["box", "named"] []) {f_l_take : Addr} {fd_l_take : FuncData} (G_l_take : Fn P w K mg base cl 1 "_law_take" 2 W_l_take f_l_take fd_l_take ["box", "many"]) (B_l_take : Binds K fd_l_take ["box", "many"] []) {f : Addr} (cdv : Value) (A : Around) (outer : List Env) (s : Shared) (H : Hp) (E : XK) (Z : Zx) (hcl : Z.cl = cl) (hr : RG 15 (A.deeper (envOfC "law" (defScope s_law) s.heap.objs.size f cdv))) (ok : ZOk (cxOf (L2.CX P w) P w K mg base N_law "law" (defScope s_law) f cdv A outer s H E) Z) : JSs (cxOf (L2.CX P w) P w K mg base N_law "law" (defScope s_law) f cdv A outer s H E) Z (defBody s_law) (m_law Z.e) := by
  subst hcl
  have sc := sc_law
  exact (jss_cons (js_for (passes_of rfl) rfl (ji_rng1 T.b_range (ja_cons (je_bltn (jf_max2 rfl) T.b_max (ja_cons je_int (ja_cons (je_bltn (jf_min2 rfl) T.b_min (ja_cons je_int (ja_cons (je_bltn jf_len T.b_len (ja_cons (je_var 0) ja_nil)) ja_nil))) ja_nil))) ja_nil)) (jg_name 1 sc.nd) (jss_cons (js_asg (je_call G_l_box ok (hr.mono (by decide)) B_l_box (ja_cons (je_call G_l_cell ok (hr.mono (by decide)) B_l_cell (ja_cons (je_var 0) (ja_cons (je_var 1) ja_nil))) ja_nil)) (jg_name 2 sc.nd))
  (jss_cons (js_asg (je_cmp (jo_eq hr.units) (je_call G_l_take ok (hr.mono (by decide)) B_l_take (ja_cons (je_var 2) (ja_cons je_int ja_nil))) je_int) (jg_name 3 sc.nd))
  (jss_one (js_for (passes_of rfl) rfl (ji_rng1 T.b_range (ja_cons je_int ja_nil)) (jg_name 4 sc.nd) (jss_cons (js_if (JW.jt (jw_or (jt_not (jt_tru (je_call G_l_right ok (hr.mono (by decide)) B_l_right (ja_cons (je_var 2) (ja_cons (je_var 3) ja_nil))))) (jw_or1 (jt_not (jt_tru (je_call G_l_errors ok (hr.mono (by decide)) B_l_errors (ja_cons (je_var 2) (ja_cons (je_var 3) ja_nil)))))))) (jss_one (js_ret je_bl)) jss_nil)
  (jss_one (js_asg (je_not (je_var 3)) (jg_name 3 sc.nd)))))))))
  (jss_one (js_ret je_bl)))
end
theorem ar_same : ∀ (n : Nat) rs C Q E, WAlike n rs C Q E → rs.length = 2 := by
  intro n rs C Q E h; unfold WAlike at h; split at h <;> first | rfl | exact h.elim
theorem rec_l_same {P : Program} {w : World} {K : PySem.W.Frag} {mg : Str → Option Value} {base : Heap} {cl : String → Addr} {f : Addr} {fd : FuncData} (F : Fun K "_law_same" "_law_same" s_l_same f fd) (B : Binds K fd ["told", "due"] []) (hmg : mg "_law_same" = some (.ref f)) (T : Txt P w K mg base cl) : Fn P w K mg base cl 14 "_law_same" 2 W_l_same f fd ["told", "due"] :=
  fn_rec (N := N_l_same) (m := m_l_same) WAlike F sc_l_same rfl hmg ar_same (fun lvR WR G cdv A outer s H E Z hcl hr ok => d_l_same T G B cdv A outer s H E Z hcl hr ok) (fun n => kp_same n) 13
def clK (K : PySem.W.Frag) (s : String) : Addr := match PySem.W.nsIn K mainGlobals (Str.ofString s) with
  | some (some (.ref C)) => C
  | _ => 0
theorem clK_of {K : PySem.W.Frag} {s : String} {C : Addr} (h : PySem.W.nsIn K mainGlobals (Str.ofString s) = some (some (.ref C))) : clK K s = C := by unfold clK; rw [h]
set_option maxHeartbeats 4000000 in
theorem all_mk {P : Program} {w : World} {K : PySem.W.Frag} {h : Heap} {mg : Str → Option Value} {fa : Addr} (X : K.In h) (G : h.Ns mainGlobals mg) (hfa : mg "law" = some (.ref fa))
    {f_remainder_power : Addr} {oc_remainder_power kV_remainder_power dc_remainder_power pm_remainder_power cd_remainder_power ct_remainder_power : Value} {od_remainder_power an_remainder_power : Option Addr} {sl_remainder_power : Array (Option Value)}
    {f_least_divisor : Addr} {oc_least_divisor kV_least_divisor dc_least_divisor pm_least_divisor cd_least_divisor ct_least_divisor : Value} {od_least_divisor an_least_divisor : Option Addr} {sl_least_divisor : Array (Option Value)}
    {f_is_small_prime : Addr} {oc_is_small_prime kV_is_small_prime dc_is_small_prime pm_is_small_prime cd_is_small_prime ct_is_small_prime : Value} {od_is_small_prime an_is_small_prime : Option Addr} {sl_is_small_prime : Array (Option Value)}
    {f_is_integer : Addr} {oc_is_integer kV_is_integer dc_is_integer pm_is_integer cd_is_integer ct_is_integer : Value} {od_is_integer an_is_integer : Option Addr} {sl_is_integer : Array (Option Value)}
    {f_is_between : Addr} {oc_is_between kV_is_between dc_is_between pm_is_between cd_is_between ct_is_between : Value} {od_is_between an_is_between : Option Addr} {sl_is_between : Array (Option Value)}
    {f_check_integer : Addr} {oc_check_integer kV_check_integer dc_check_integer pm_check_integer cd_check_integer ct_check_integer : Value} {od_check_integer an_check_integer : Option Addr} {sl_check_integer : Array (Option Value)}
    {D_check_integer : Addr} {sd_check_integer : Array (Option Value)} {od2_check_integer : Option Addr} {nd_check_integer : Nat}
    {f_check_odd : Addr} {oc_check_odd kV_check_odd dc_check_odd pm_check_odd cd_check_odd ct_check_odd : Value} {od_check_odd an_check_odd : Option Addr} {sl_check_odd : Array (Option Value)}
    {f_check_base : Addr} {oc_check_base kV_check_base dc_check_base pm_check_base cd_check_base ct_check_base : Value} {od_check_base an_check_base : Option Addr} {sl_check_base : Array (Option Value)}
    {f_passes_fermat : Addr} {oc_passes_fermat kV_passes_fermat dc_passes_fermat pm_passes_fermat cd_passes_fermat ct_passes_fermat : Value} {od_passes_fermat an_passes_fermat : Option Addr} {sl_passes_fermat : Array (Option Value)}
    {f_is_passed : Addr} {oc_is_passed kV_is_passed dc_is_passed pm_is_passed cd_is_passed ct_is_passed : Value} {od_is_passed an_is_passed : Option Addr} {sl_is_passed : Array (Option Value)}
    {f_passes_strong : Addr} {oc_passes_strong kV_passes_strong dc_passes_strong pm_passes_strong cd_passes_strong ct_passes_strong : Value} {od_passes_strong an_passes_strong : Option Addr} {sl_passes_strong : Array (Option Value)}
    {f_strong_witness : Addr} {oc_strong_witness kV_strong_witness dc_strong_witness pm_strong_witness cd_strong_witness ct_strong_witness : Value} {od_strong_witness an_strong_witness : Option Addr} {sl_strong_witness : Array (Option Value)}
    {f_l_cell : Addr} {oc_l_cell kV_l_cell dc_l_cell pm_l_cell cd_l_cell ct_l_cell : Value} {od_l_cell an_l_cell : Option Addr} {sl_l_cell : Array (Option Value)}
    {f_l_box : Addr} {oc_l_box kV_l_box dc_l_box pm_l_box cd_l_box ct_l_box : Value} {od_l_box an_l_box : Option Addr} {sl_l_box : Array (Option Value)}
    {f_l_take : Addr} {oc_l_take kV_l_take dc_l_take pm_l_take cd_l_take ct_l_take : Value} {od_l_take an_l_take : Option Addr} {sl_l_take : Array (Option Value)}
    {f_l_same : Addr} {oc_l_same kV_l_same dc_l_same pm_l_same cd_l_same ct_l_same : Value} {od_l_same an_l_same : Option Addr} {sl_l_same : Array (Option Value)}
    {f_l_very : Addr} {oc_l_very kV_l_very dc_l_very pm_l_very cd_l_very ct_l_very : Value} {od_l_very an_l_very : Option Addr} {sl_l_very : Array (Option Value)}
    {f_l_odd_value : Addr} {oc_l_odd_value kV_l_odd_value dc_l_odd_value pm_l_odd_value cd_l_odd_value ct_l_odd_value : Value} {od_l_odd_value an_l_odd_value : Option Addr} {sl_l_odd_value : Array (Option Value)}
    {f_l_power : Addr} {oc_l_power kV_l_power dc_l_power pm_l_power cd_l_power ct_l_power : Value} {od_l_power an_l_power : Option Addr} {sl_l_power : Array (Option Value)}
    {f_l_factors : Addr} {oc_l_factors kV_l_factors dc_l_factors pm_l_factors cd_l_factors ct_l_factors : Value} {od_l_factors an_l_factors : Option Addr} {sl_l_factors : Array (Option Value)}
    {f_l_is_prime : Addr} {oc_l_is_prime kV_l_is_prime dc_l_is_prime pm_l_is_prime cd_l_is_prime ct_l_is_prime : Value} {od_l_is_prime an_l_is_prime : Option Addr} {sl_l_is_prime : Array (Option Value)}
    {f_l_root : Addr} {oc_l_root kV_l_root dc_l_root pm_l_root cd_l_root ct_l_root : Value} {od_l_root an_l_root : Option Addr} {sl_l_root : Array (Option Value)}
    {f_l_number : Addr} {oc_l_number kV_l_number dc_l_number pm_l_number cd_l_number ct_l_number : Value} {od_l_number an_l_number : Option Addr} {sl_l_number : Array (Option Value)}
    {f_l_most : Addr} {oc_l_most kV_l_most dc_l_most pm_l_most cd_l_most ct_l_most : Value} {od_l_most an_l_most : Option Addr} {sl_l_most : Array (Option Value)}
    {f_l_strong : Addr} {oc_l_strong kV_l_strong dc_l_strong pm_l_strong cd_l_strong ct_l_strong : Value} {od_l_strong an_l_strong : Option Addr} {sl_l_strong : Array (Option Value)}
    {f_l_witness : Addr} {oc_l_witness kV_l_witness dc_l_witness pm_l_witness cd_l_witness ct_l_witness : Value} {od_l_witness an_l_witness : Option Addr} {sl_l_witness : Array (Option Value)}
    {f_l_asked : Addr} {oc_l_asked kV_l_asked dc_l_asked pm_l_asked cd_l_asked ct_l_asked : Value} {od_l_asked an_l_asked : Option Addr} {sl_l_asked : Array (Option Value)}
    {f_l_drawn : Addr} {oc_l_drawn kV_l_drawn dc_l_drawn pm_l_drawn cd_l_drawn ct_l_drawn : Value} {od_l_drawn an_l_drawn : Option Addr} {sl_l_drawn : Array (Option Value)}
    {f_l_bases : Addr} {oc_l_bases kV_l_bases dc_l_bases pm_l_bases cd_l_bases ct_l_bases : Value} {od_l_bases an_l_bases : Option Addr} {sl_l_bases : Array (Option Value)}
    {f_l_right : Addr} {oc_l_right kV_l_right dc_l_right pm_l_right cd_l_right ct_l_right : Value} {od_l_right an_l_right : Option Addr} {sl_l_right : Array (Option Value)}
    {f_l_errors : Addr} {oc_l_errors kV_l_errors dc_l_errors pm_l_errors cd_l_errors ct_l_errors : Value} {od_l_errors an_l_errors : Option Addr} {sl_l_errors : Array (Option Value)}
    {f_law : Addr} {oc_law kV_law dc_law pm_law cd_law ct_law : Value} {od_law an_law : Option Addr} {sl_law : Array (Option Value)}
    {C_InvalidBase I_InvalidBase N_InvalidBase : Addr} {nm_InvalidBase q_InvalidBase : Str} {bs_InvalidBase bm_InvalidBase : List Value} {sn_InvalidBase : List Str} {su_InvalidBase : List Value} {ab_InvalidBase : Bool} {co_InvalidBase : Option Bool} {dd_InvalidBase : Option Addr} {m0_InvalidBase m1_InvalidBase m2_InvalidBase m3_InvalidBase m5_InvalidBase : Option Value} {oi_InvalidBase ki_InvalidBase di_InvalidBase pi_InvalidBase ci_InvalidBase ti_InvalidBase : Value} {oj_InvalidBase ai_InvalidBase : Option Addr} {si_InvalidBase : Array (Option Value)}
    {C_InvalidNumber I_InvalidNumber N_InvalidNumber : Addr} {nm_InvalidNumber q_InvalidNumber : Str} {bs_InvalidNumber bm_InvalidNumber : List Value} {sn_InvalidNumber : List Str} {su_InvalidNumber : List Value} {ab_InvalidNumber : Bool} {co_InvalidNumber : Option Bool} {dd_InvalidNumber : Option Addr} {m0_InvalidNumber m1_InvalidNumber m2_InvalidNumber m3_InvalidNumber m5_InvalidNumber : Option Value} {oi_InvalidNumber ki_InvalidNumber di_InvalidNumber pi_InvalidNumber ci_InvalidNumber ti_InvalidNumber : Value} {oj_InvalidNumber ai_InvalidNumber : Option Addr} {si_InvalidNumber : Array (Option Value)}
    {C_NumberError : Addr}
    {t_LEAST_NUMBER : Tok}
    {t_MOST_NUMBER : Tok}
    (a_remainder_power : PySem.W.nsIn K mainGlobals "remainder_power" = some (some (.ref f_remainder_power)))
    (l_remainder_power : K.lookup f_remainder_power = some ⟨oc_remainder_power, od_remainder_power, .func (PySem.W.fnOf "remainder_power" "remainder_power" (defArgs s_remainder_power) (defBody s_remainder_power) (defScope s_remainder_power) .none kV_remainder_power dc_remainder_power pm_remainder_power an_remainder_power cd_remainder_power ct_remainder_power), sl_remainder_power⟩)
    (c_remainder_power : PySem.W.codeIn K cd_remainder_power "remainder_power" = true)
    (k_remainder_power : PySem.W.keepIn K (.ref f_remainder_power) = true)
    (a_least_divisor : PySem.W.nsIn K mainGlobals "least_divisor" = some (some (.ref f_least_divisor)))
    (l_least_divisor : K.lookup f_least_divisor = some ⟨oc_least_divisor, od_least_divisor, .func (PySem.W.fnOf "least_divisor" "least_divisor" (defArgs s_least_divisor) (defBody s_least_divisor) (defScope s_least_divisor) .none kV_least_divisor dc_least_divisor pm_least_divisor an_least_divisor cd_least_divisor ct_least_divisor), sl_least_divisor⟩)
    (c_least_divisor : PySem.W.codeIn K cd_least_divisor "least_divisor" = true)
    (k_least_divisor : PySem.W.keepIn K (.ref f_least_divisor) = true)
    (a_is_small_prime : PySem.W.nsIn K mainGlobals "is_small_prime" = some (some (.ref f_is_small_prime)))
    (l_is_small_prime : K.lookup f_is_small_prime = some ⟨oc_is_small_prime, od_is_small_prime, .func (PySem.W.fnOf "is_small_prime" "is_small_prime" (defArgs s_is_small_prime) (defBody s_is_small_prime) (defScope s_is_small_prime) .none kV_is_small_prime dc_is_small_prime pm_is_small_prime an_is_small_prime cd_is_small_prime ct_is_small_prime), sl_is_small_prime⟩)
    (c_is_small_prime : PySem.W.codeIn K cd_is_small_prime "is_small_prime" = true)
    (k_is_small_prime : PySem.W.keepIn K (.ref f_is_small_prime) = true)
    (a_is_integer : PySem.W.nsIn K mainGlobals "is_integer" = some (some (.ref f_is_integer)))
    (l_is_integer : K.lookup f_is_integer = some ⟨oc_is_integer, od_is_integer, .func (PySem.W.fnOf "is_integer" "is_integer" (defArgs s_is_integer) (defBody s_is_integer) (defScope s_is_integer) .none kV_is_integer dc_is_integer pm_is_integer an_is_integer cd_is_integer ct_is_integer), sl_is_integer⟩)
    (c_is_integer : PySem.W.codeIn K cd_is_integer "is_integer" = true)
    (k_is_integer : PySem.W.keepIn K (.ref f_is_integer) = true)
    (a_is_between : PySem.W.nsIn K mainGlobals "is_between" = some (some (.ref f_is_between)))
    (l_is_between : K.lookup f_is_between = some ⟨oc_is_between, od_is_between, .func (PySem.W.fnOf "is_between" "is_between" (defArgs s_is_between) (defBody s_is_between) (defScope s_is_between) .none kV_is_between dc_is_between pm_is_between an_is_between cd_is_between ct_is_between), sl_is_between⟩)
    (c_is_between : PySem.W.codeIn K cd_is_between "is_between" = true)
    (k_is_between : PySem.W.keepIn K (.ref f_is_between) = true)
    (a_check_integer : PySem.W.nsIn K mainGlobals "check_integer" = some (some (.ref f_check_integer)))
    (l_check_integer : K.lookup f_check_integer = some ⟨oc_check_integer, od_check_integer, .func (PySem.W.fnOf "check_integer" "check_integer" (defArgs s_check_integer) (defBody s_check_integer) (defScope s_check_integer) (.ref D_check_integer) kV_check_integer dc_check_integer pm_check_integer an_check_integer cd_check_integer ct_check_integer), sl_check_integer⟩)
    (c_check_integer : PySem.W.codeIn K cd_check_integer "check_integer" = true)
    (k_check_integer : PySem.W.keepIn K (.ref f_check_integer) = true)
    (dd_check_integer : K.lookup D_check_integer = some ⟨.type "tuple", od2_check_integer, .seq #[Value.none, Value.none] nd_check_integer, sd_check_integer⟩)
    (a_check_odd : PySem.W.nsIn K mainGlobals "check_odd" = some (some (.ref f_check_odd)))
    (l_check_odd : K.lookup f_check_odd = some ⟨oc_check_odd, od_check_odd, .func (PySem.W.fnOf "check_odd" "check_odd" (defArgs s_check_odd) (defBody s_check_odd) (defScope s_check_odd) .none kV_check_odd dc_check_odd pm_check_odd an_check_odd cd_check_odd ct_check_odd), sl_check_odd⟩)
    (c_check_odd : PySem.W.codeIn K cd_check_odd "check_odd" = true)
    (k_check_odd : PySem.W.keepIn K (.ref f_check_odd) = true)
    (a_check_base : PySem.W.nsIn K mainGlobals "check_base" = some (some (.ref f_check_base)))
    (l_check_base : K.lookup f_check_base = some ⟨oc_check_base, od_check_base, .func (PySem.W.fnOf "check_base" "check_base" (defArgs s_check_base) (defBody s_check_base) (defScope s_check_base) .none kV_check_base dc_check_base pm_check_base an_check_base cd_check_base ct_check_base), sl_check_base⟩)
    (c_check_base : PySem.W.codeIn K cd_check_base "check_base" = true)
    (k_check_base : PySem.W.keepIn K (.ref f_check_base) = true)
    (a_passes_fermat : PySem.W.nsIn K mainGlobals "passes_fermat" = some (some (.ref f_passes_fermat)))
    (l_passes_fermat : K.lookup f_passes_fermat = some ⟨oc_passes_fermat, od_passes_fermat, .func (PySem.W.fnOf "passes_fermat" "passes_fermat" (defArgs s_passes_fermat) (defBody s_passes_fermat) (defScope s_passes_fermat) .none kV_passes_fermat dc_passes_fermat pm_passes_fermat an_passes_fermat cd_passes_fermat ct_passes_fermat), sl_passes_fermat⟩)
    (c_passes_fermat : PySem.W.codeIn K cd_passes_fermat "passes_fermat" = true)
    (k_passes_fermat : PySem.W.keepIn K (.ref f_passes_fermat) = true)
    (a_is_passed : PySem.W.nsIn K mainGlobals "is_passed" = some (some (.ref f_is_passed)))
    (l_is_passed : K.lookup f_is_passed = some ⟨oc_is_passed, od_is_passed, .func (PySem.W.fnOf "is_passed" "is_passed" (defArgs s_is_passed) (defBody s_is_passed) (defScope s_is_passed) .none kV_is_passed dc_is_passed pm_is_passed an_is_passed cd_is_passed ct_is_passed), sl_is_passed⟩)
    (c_is_passed : PySem.W.codeIn K cd_is_passed "is_passed" = true)
    (k_is_passed : PySem.W.keepIn K (.ref f_is_passed) = true)
    (a_passes_strong : PySem.W.nsIn K mainGlobals "passes_strong" = some (some (.ref f_passes_strong)))
    (l_passes_strong : K.lookup f_passes_strong = some ⟨oc_passes_strong, od_passes_strong, .func (PySem.W.fnOf "passes_strong" "passes_strong" (defArgs s_passes_strong) (defBody s_passes_strong) (defScope s_passes_strong) .none kV_passes_strong dc_passes_strong pm_passes_strong an_passes_strong cd_passes_strong ct_passes_strong), sl_passes_strong⟩)
    (c_passes_strong : PySem.W.codeIn K cd_passes_strong "passes_strong" = true)
    (k_passes_strong : PySem.W.keepIn K (.ref f_passes_strong) = true)
    (a_strong_witness : PySem.W.nsIn K mainGlobals "strong_witness" = some (some (.ref f_strong_witness)))
    (l_strong_witness : K.lookup f_strong_witness = some ⟨oc_strong_witness, od_strong_witness, .func (PySem.W.fnOf "strong_witness" "strong_witness" (defArgs s_strong_witness) (defBody s_strong_witness) (defScope s_strong_witness) .none kV_strong_witness dc_strong_witness pm_strong_witness an_strong_witness cd_strong_witness ct_strong_witness), sl_strong_witness⟩)
    (c_strong_witness : PySem.W.codeIn K cd_strong_witness "strong_witness" = true)
    (k_strong_witness : PySem.W.keepIn K (.ref f_strong_witness) = true)
    (a_l_cell : PySem.W.nsIn K mainGlobals "_law_cell" = some (some (.ref f_l_cell)))
    (l_l_cell : K.lookup f_l_cell = some ⟨oc_l_cell, od_l_cell, .func (PySem.W.fnOf "_law_cell" "_law_cell" (defArgs s_l_cell) (defBody s_l_cell) (defScope s_l_cell) .none kV_l_cell dc_l_cell pm_l_cell an_l_cell cd_l_cell ct_l_cell), sl_l_cell⟩)
    (c_l_cell : PySem.W.codeIn K cd_l_cell "_law_cell" = true)
    (k_l_cell : PySem.W.keepIn K (.ref f_l_cell) = true)
    (a_l_box : PySem.W.nsIn K mainGlobals "_law_box" = some (some (.ref f_l_box)))
    (l_l_box : K.lookup f_l_box = some ⟨oc_l_box, od_l_box, .func (PySem.W.fnOf "_law_box" "_law_box" (defArgs s_l_box) (defBody s_l_box) (defScope s_l_box) .none kV_l_box dc_l_box pm_l_box an_l_box cd_l_box ct_l_box), sl_l_box⟩)
    (c_l_box : PySem.W.codeIn K cd_l_box "_law_box" = true)
    (k_l_box : PySem.W.keepIn K (.ref f_l_box) = true)
    (a_l_take : PySem.W.nsIn K mainGlobals "_law_take" = some (some (.ref f_l_take)))
    (l_l_take : K.lookup f_l_take = some ⟨oc_l_take, od_l_take, .func (PySem.W.fnOf "_law_take" "_law_take" (defArgs s_l_take) (defBody s_l_take) (defScope s_l_take) .none kV_l_take dc_l_take pm_l_take an_l_take cd_l_take ct_l_take), sl_l_take⟩)
    (c_l_take : PySem.W.codeIn K cd_l_take "_law_take" = true)
    (k_l_take : PySem.W.keepIn K (.ref f_l_take) = true)
    (a_l_same : PySem.W.nsIn K mainGlobals "_law_same" = some (some (.ref f_l_same)))
    (l_l_same : K.lookup f_l_same = some ⟨oc_l_same, od_l_same, .func (PySem.W.fnOf "_law_same" "_law_same" (defArgs s_l_same) (defBody s_l_same) (defScope s_l_same) .none kV_l_same dc_l_same pm_l_same an_l_same cd_l_same ct_l_same), sl_l_same⟩)
    (c_l_same : PySem.W.codeIn K cd_l_same "_law_same" = true)
    (k_l_same : PySem.W.keepIn K (.ref f_l_same) = true)
    (a_l_very : PySem.W.nsIn K mainGlobals "_law_very" = some (some (.ref f_l_very)))
    (l_l_very : K.lookup f_l_very = some ⟨oc_l_very, od_l_very, .func (PySem.W.fnOf "_law_very" "_law_very" (defArgs s_l_very) (defBody s_l_very) (defScope s_l_very) .none kV_l_very dc_l_very pm_l_very an_l_very cd_l_very ct_l_very), sl_l_very⟩)
    (c_l_very : PySem.W.codeIn K cd_l_very "_law_very" = true)
    (k_l_very : PySem.W.keepIn K (.ref f_l_very) = true)
    (a_l_odd_value : PySem.W.nsIn K mainGlobals "_law_odd_value" = some (some (.ref f_l_odd_value)))
    (l_l_odd_value : K.lookup f_l_odd_value = some ⟨oc_l_odd_value, od_l_odd_value, .func (PySem.W.fnOf "_law_odd_value" "_law_odd_value" (defArgs s_l_odd_value) (defBody s_l_odd_value) (defScope s_l_odd_value) .none kV_l_odd_value dc_l_odd_value pm_l_odd_value an_l_odd_value cd_l_odd_value ct_l_odd_value), sl_l_odd_value⟩)
    (c_l_odd_value : PySem.W.codeIn K cd_l_odd_value "_law_odd_value" = true)
    (k_l_odd_value : PySem.W.keepIn K (.ref f_l_odd_value) = true)
    (a_l_power : PySem.W.nsIn K mainGlobals "_law_power" = some (some (.ref f_l_power)))
    (l_l_power : K.lookup f_l_power = some ⟨oc_l_power, od_l_power, .func (PySem.W.fnOf "_law_power" "_law_power" (defArgs s_l_power) (defBody s_l_power) (defScope s_l_power) .none kV_l_power dc_l_power pm_l_power an_l_power cd_l_power ct_l_power), sl_l_power⟩)
    (c_l_power : PySem.W.codeIn K cd_l_power "_law_power" = true)
    (k_l_power : PySem.W.keepIn K (.ref f_l_power) = true)
    (a_l_factors : PySem.W.nsIn K mainGlobals "_law_factors" = some (some (.ref f_l_factors)))
    (l_l_factors : K.lookup f_l_factors = some ⟨oc_l_factors, od_l_factors, .func (PySem.W.fnOf "_law_factors" "_law_factors" (defArgs s_l_factors) (defBody s_l_factors) (defScope s_l_factors) .none kV_l_factors dc_l_factors pm_l_factors an_l_factors cd_l_factors ct_l_factors), sl_l_factors⟩)
    (c_l_factors : PySem.W.codeIn K cd_l_factors "_law_factors" = true)
    (k_l_factors : PySem.W.keepIn K (.ref f_l_factors) = true)
    (a_l_is_prime : PySem.W.nsIn K mainGlobals "_law_is_prime" = some (some (.ref f_l_is_prime)))
    (l_l_is_prime : K.lookup f_l_is_prime = some ⟨oc_l_is_prime, od_l_is_prime, .func (PySem.W.fnOf "_law_is_prime" "_law_is_prime" (defArgs s_l_is_prime) (defBody s_l_is_prime) (defScope s_l_is_prime) .none kV_l_is_prime dc_l_is_prime pm_l_is_prime an_l_is_prime cd_l_is_prime ct_l_is_prime), sl_l_is_prime⟩)
    (c_l_is_prime : PySem.W.codeIn K cd_l_is_prime "_law_is_prime" = true)
    (k_l_is_prime : PySem.W.keepIn K (.ref f_l_is_prime) = true)
    (a_l_root : PySem.W.nsIn K mainGlobals "_law_root" = some (some (.ref f_l_root)))
    (l_l_root : K.lookup f_l_root = some ⟨oc_l_root, od_l_root, .func (PySem.W.fnOf "_law_root" "_law_root" (defArgs s_l_root) (defBody s_l_root) (defScope s_l_root) .none kV_l_root dc_l_root pm_l_root an_l_root cd_l_root ct_l_root), sl_l_root⟩)
    (c_l_root : PySem.W.codeIn K cd_l_root "_law_root" = true)
    (k_l_root : PySem.W.keepIn K (.ref f_l_root) = true)
    (a_l_number : PySem.W.nsIn K mainGlobals "_law_number" = some (some (.ref f_l_number)))
    (l_l_number : K.lookup f_l_number = some ⟨oc_l_number, od_l_number, .func (PySem.W.fnOf "_law_number" "_law_number" (defArgs s_l_number) (defBody s_l_number) (defScope s_l_number) .none kV_l_number dc_l_number pm_l_number an_l_number cd_l_number ct_l_number), sl_l_number⟩)
    (c_l_number : PySem.W.codeIn K cd_l_number "_law_number" = true)
    (k_l_number : PySem.W.keepIn K (.ref f_l_number) = true)
    (a_l_most : PySem.W.nsIn K mainGlobals "_law_most" = some (some (.ref f_l_most)))
    (l_l_most : K.lookup f_l_most = some ⟨oc_l_most, od_l_most, .func (PySem.W.fnOf "_law_most" "_law_most" (defArgs s_l_most) (defBody s_l_most) (defScope s_l_most) .none kV_l_most dc_l_most pm_l_most an_l_most cd_l_most ct_l_most), sl_l_most⟩)
    (c_l_most : PySem.W.codeIn K cd_l_most "_law_most" = true)
    (k_l_most : PySem.W.keepIn K (.ref f_l_most) = true)
    (a_l_strong : PySem.W.nsIn K mainGlobals "_law_strong" = some (some (.ref f_l_strong)))
    (l_l_strong : K.lookup f_l_strong = some ⟨oc_l_strong, od_l_strong, .func (PySem.W.fnOf "_law_strong" "_law_strong" (defArgs s_l_strong) (defBody s_l_strong) (defScope s_l_strong) .none kV_l_strong dc_l_strong pm_l_strong an_l_strong cd_l_strong ct_l_strong), sl_l_strong⟩)
    (c_l_strong : PySem.W.codeIn K cd_l_strong "_law_strong" = true)
    (k_l_strong : PySem.W.keepIn K (.ref f_l_strong) = true)
    (a_l_witness : PySem.W.nsIn K mainGlobals "_law_witness" = some (some (.ref f_l_witness)))
    (l_l_witness : K.lookup f_l_witness = some ⟨oc_l_witness, od_l_witness, .func (PySem.W.fnOf "_law_witness" "_law_witness" (defArgs s_l_witness) (defBody s_l_witness) (defScope s_l_witness) .none kV_l_witness dc_l_witness pm_l_witness an_l_witness cd_l_witness ct_l_witness), sl_l_witness⟩)
    (c_l_witness : PySem.W.codeIn K cd_l_witness "_law_witness" = true)
    (k_l_witness : PySem.W.keepIn K (.ref f_l_witness) = true)
    (a_l_asked : PySem.W.nsIn K mainGlobals "_law_asked" = some (some (.ref f_l_asked)))
    (l_l_asked : K.lookup f_l_asked = some ⟨oc_l_asked, od_l_asked, .func (PySem.W.fnOf "_law_asked" "_law_asked" (defArgs s_l_asked) (defBody s_l_asked) (defScope s_l_asked) .none kV_l_asked dc_l_asked pm_l_asked an_l_asked cd_l_asked ct_l_asked), sl_l_asked⟩)
    (c_l_asked : PySem.W.codeIn K cd_l_asked "_law_asked" = true)
    (k_l_asked : PySem.W.keepIn K (.ref f_l_asked) = true)
    (a_l_drawn : PySem.W.nsIn K mainGlobals "_law_drawn" = some (some (.ref f_l_drawn)))
    (l_l_drawn : K.lookup f_l_drawn = some ⟨oc_l_drawn, od_l_drawn, .func (PySem.W.fnOf "_law_drawn" "_law_drawn" (defArgs s_l_drawn) (defBody s_l_drawn) (defScope s_l_drawn) .none kV_l_drawn dc_l_drawn pm_l_drawn an_l_drawn cd_l_drawn ct_l_drawn), sl_l_drawn⟩)
    (c_l_drawn : PySem.W.codeIn K cd_l_drawn "_law_drawn" = true)
    (k_l_drawn : PySem.W.keepIn K (.ref f_l_drawn) = true)
    (a_l_bases : PySem.W.nsIn K mainGlobals "_law_bases" = some (some (.ref f_l_bases)))
    (l_l_bases : K.lookup f_l_bases = some ⟨oc_l_bases, od_l_bases, .func (PySem.W.fnOf "_law_bases" "_law_bases" (defArgs s_l_bases) (defBody s_l_bases) (defScope s_l_bases) .none kV_l_bases dc_l_bases pm_l_bases an_l_bases cd_l_bases ct_l_bases), sl_l_bases⟩)
    (c_l_bases : PySem.W.codeIn K cd_l_bases "_law_bases" = true)
    (k_l_bases : PySem.W.keepIn K (.ref f_l_bases) = true)
    (a_l_right : PySem.W.nsIn K mainGlobals "_law_right" = some (some (.ref f_l_right)))
    (l_l_right : K.lookup f_l_right = some ⟨oc_l_right, od_l_right, .func (PySem.W.fnOf "_law_right" "_law_right" (defArgs s_l_right) (defBody s_l_right) (defScope s_l_right) .none kV_l_right dc_l_right pm_l_right an_l_right cd_l_right ct_l_right), sl_l_right⟩)
    (c_l_right : PySem.W.codeIn K cd_l_right "_law_right" = true)
    (k_l_right : PySem.W.keepIn K (.ref f_l_right) = true)
    (a_l_errors : PySem.W.nsIn K mainGlobals "_law_errors" = some (some (.ref f_l_errors)))
    (l_l_errors : K.lookup f_l_errors = some ⟨oc_l_errors, od_l_errors, .func (PySem.W.fnOf "_law_errors" "_law_errors" (defArgs s_l_errors) (defBody s_l_errors) (defScope s_l_errors) .none kV_l_errors dc_l_errors pm_l_errors an_l_errors cd_l_errors ct_l_errors), sl_l_errors⟩)
    (c_l_errors : PySem.W.codeIn K cd_l_errors "_law_errors" = true)
    (k_l_errors : PySem.W.keepIn K (.ref f_l_errors) = true)
    (a_law : PySem.W.nsIn K mainGlobals "law" = some (some (.ref f_law)))
    (l_law : K.lookup f_law = some ⟨oc_law, od_law, .func (PySem.W.fnOf "law" "law" (defArgs s_law) (defBody s_law) (defScope s_law) .none kV_law dc_law pm_law an_law cd_law ct_law), sl_law⟩)
    (c_law : PySem.W.codeIn K cd_law "law" = true)
    (k_law : PySem.W.keepIn K (.ref f_law) = true)
    (aC_InvalidBase : PySem.W.nsIn K mainGlobals "InvalidBase" = some (some (.ref C_InvalidBase)))
    (xL_InvalidBase : K.lookup C_InvalidBase = some (excClassObj nm_InvalidBase q_InvalidBase C_InvalidBase N_InvalidBase bs_InvalidBase bm_InvalidBase true sn_InvalidBase su_InvalidBase ab_InvalidBase co_InvalidBase dd_InvalidBase m0_InvalidBase m1_InvalidBase m2_InvalidBase m3_InvalidBase m5_InvalidBase "ValueError.__new__"))
    (rb_InvalidBase : PySem.HandSPX.refsVE bm_InvalidBase = true)
    (sa_InvalidBase : PySem.W.findIn K (.ref C_InvalidBase) "__setattr__" = some (some (.builtin "object.__setattr__")))
    (ga_InvalidBase : PySem.W.findIn K (.ref C_InvalidBase) "__getattribute__" = some (some (.builtin "BaseException.__getattribute__")))
    (gg_InvalidBase : PySem.W.findIn K (.ref C_InvalidBase) "__getattr__" = some none)
    (no_InvalidBase : PySem.W.findIn K (.ref C_InvalidBase) "given" = some none)
    (fi_InvalidBase : PySem.W.findIn K (.ref C_InvalidBase) "__init__" = some (some (.ref I_InvalidBase)))
    (ft_InvalidBase : PySem.W.typeIn K (.ref I_InvalidBase) = some (.type "function"))
    (fl_InvalidBase : K.lookup I_InvalidBase = some ⟨oi_InvalidBase, oj_InvalidBase, .func (PySem.W.fnOf "__init__" "InvalidBase.__init__" (defArgs (inClass (top 6) 0)) (defBody (inClass (top 6) 0)) (defScope (inClass (top 6) 0)) .none ki_InvalidBase di_InvalidBase pi_InvalidBase ai_InvalidBase ci_InvalidBase ti_InvalidBase), si_InvalidBase⟩)
    (fc_InvalidBase : PySem.W.codeIn K ci_InvalidBase "InvalidBase.__init__" = true)
    (fk_InvalidBase : PySem.W.keepIn K (.ref I_InvalidBase) = true)
    (kC_InvalidBase : PySem.W.keepIn K (.ref C_InvalidBase) = true)
    (eC_InvalidBase : PySem.W.subIn K (.ref C_InvalidBase) (.type "BaseException") = some true)
    (tC_InvalidBase : PySem.W.typeIn K (.ref C_InvalidBase) = some (.type "type"))
    (hC_InvalidBase : PySem.W.hasDictIn K C_InvalidBase = true)
    (iC_InvalidBase : PySem.W.isClsIn K C_InvalidBase = true)
    (cc_InvalidBase : PySem.W.findIn K (.ref C_InvalidBase) "__class__" = some (some (.builtin "object.__class__")))
    (mo_InvalidBase : PySem.W.mroIn K C_InvalidBase (.type "object") = some true)
    (aC_InvalidNumber : PySem.W.nsIn K mainGlobals "InvalidNumber" = some (some (.ref C_InvalidNumber)))
    (xL_InvalidNumber : K.lookup C_InvalidNumber = some (excClassObj nm_InvalidNumber q_InvalidNumber C_InvalidNumber N_InvalidNumber bs_InvalidNumber bm_InvalidNumber true sn_InvalidNumber su_InvalidNumber ab_InvalidNumber co_InvalidNumber dd_InvalidNumber m0_InvalidNumber m1_InvalidNumber m2_InvalidNumber m3_InvalidNumber m5_InvalidNumber "ValueError.__new__"))
    (rb_InvalidNumber : PySem.HandSPX.refsVE bm_InvalidNumber = true)
    (sa_InvalidNumber : PySem.W.findIn K (.ref C_InvalidNumber) "__setattr__" = some (some (.builtin "object.__setattr__")))
    (ga_InvalidNumber : PySem.W.findIn K (.ref C_InvalidNumber) "__getattribute__" = some (some (.builtin "BaseException.__getattribute__")))
    (gg_InvalidNumber : PySem.W.findIn K (.ref C_InvalidNumber) "__getattr__" = some none)
    (no_InvalidNumber : PySem.W.findIn K (.ref C_InvalidNumber) "given" = some none)
    (fi_InvalidNumber : PySem.W.findIn K (.ref C_InvalidNumber) "__init__" = some (some (.ref I_InvalidNumber)))
    (ft_InvalidNumber : PySem.W.typeIn K (.ref I_InvalidNumber) = some (.type "function"))
    (fl_InvalidNumber : K.lookup I_InvalidNumber = some ⟨oi_InvalidNumber, oj_InvalidNumber, .func (PySem.W.fnOf "__init__" "InvalidNumber.__init__" (defArgs (inClass (top 7) 0)) (defBody (inClass (top 7) 0)) (defScope (inClass (top 7) 0)) .none ki_InvalidNumber di_InvalidNumber pi_InvalidNumber ai_InvalidNumber ci_InvalidNumber ti_InvalidNumber), si_InvalidNumber⟩)
    (fc_InvalidNumber : PySem.W.codeIn K ci_InvalidNumber "InvalidNumber.__init__" = true)
    (fk_InvalidNumber : PySem.W.keepIn K (.ref I_InvalidNumber) = true)
    (kC_InvalidNumber : PySem.W.keepIn K (.ref C_InvalidNumber) = true)
    (eC_InvalidNumber : PySem.W.subIn K (.ref C_InvalidNumber) (.type "BaseException") = some true)
    (tC_InvalidNumber : PySem.W.typeIn K (.ref C_InvalidNumber) = some (.type "type"))
    (hC_InvalidNumber : PySem.W.hasDictIn K C_InvalidNumber = true)
    (iC_InvalidNumber : PySem.W.isClsIn K C_InvalidNumber = true)
    (cc_InvalidNumber : PySem.W.findIn K (.ref C_InvalidNumber) "__class__" = some (some (.builtin "object.__class__")))
    (mo_InvalidNumber : PySem.W.mroIn K C_InvalidNumber (.type "object") = some true)
    (sp_g : PySem.W.specialIn K (.builtin "object.__class__") "__get__" = some (some (.builtin "getset_descriptor.__get__")))
    (tk_g : PySem.W.takesIn K (.builtin "object.__class__") = some true)
    (aC_NumberError : PySem.W.nsIn K mainGlobals "NumberError" = some (some (.ref C_NumberError)))
    (tC_NumberError : PySem.W.typeIn K (.ref C_NumberError) = some (.type "type"))
    (iC_NumberError : PySem.W.isClsIn K C_NumberError = true)
    (s_InvalidBase_InvalidBase : PySem.W.subIn K (.ref C_InvalidBase) (.ref C_InvalidBase) = some true)
    (s_InvalidBase_InvalidNumber : PySem.W.subIn K (.ref C_InvalidBase) (.ref C_InvalidNumber) = some false)
    (s_InvalidBase_NumberError : PySem.W.subIn K (.ref C_InvalidBase) (.ref C_NumberError) = some true)
    (s_InvalidNumber_InvalidBase : PySem.W.subIn K (.ref C_InvalidNumber) (.ref C_InvalidBase) = some false)
    (s_InvalidNumber_InvalidNumber : PySem.W.subIn K (.ref C_InvalidNumber) (.ref C_InvalidNumber) = some true)
    (s_InvalidNumber_NumberError : PySem.W.subIn K (.ref C_InvalidNumber) (.ref C_NumberError) = some true)
    (b_abs : PySem.W.nsIn K mainGlobals "abs" = some none)
    (b_bool : PySem.W.nsIn K mainGlobals "bool" = some none)
    (b_dict : PySem.W.nsIn K mainGlobals "dict" = some none)
    (b_int : PySem.W.nsIn K mainGlobals "int" = some none)
    (b_isinstance : PySem.W.nsIn K mainGlobals "isinstance" = some none)
    (b_len : PySem.W.nsIn K mainGlobals "len" = some none)
    (b_list : PySem.W.nsIn K mainGlobals "list" = some none)
    (b_max : PySem.W.nsIn K mainGlobals "max" = some none)
    (b_min : PySem.W.nsIn K mainGlobals "min" = some none)
    (b_range : PySem.W.nsIn K mainGlobals "range" = some none)
    (b_repr : PySem.W.nsIn K mainGlobals "repr" = some none)
    (b_str : PySem.W.nsIn K mainGlobals "str" = some none)
    (b_sum : PySem.W.nsIn K mainGlobals "sum" = some none)
    (b_tuple : PySem.W.nsIn K mainGlobals "tuple" = some none)
    (k_LEAST_NUMBER : PySem.W.nsIn K mainGlobals "LEAST_NUMBER" = some (some (.int 5 t_LEAST_NUMBER)))
    (k_MOST_NUMBER : PySem.W.nsIn K mainGlobals "MOST_NUMBER" = some (some (.int 1000000000 t_MOST_NUMBER))) :
    ∃ fd : FuncData, (∀ (s : Shared) (u : Value), BindsTo s fd ⟨[u], []⟩ [("script", u)]) ∧ ∀ base : Heap, K.In base → base.Ns mainGlobals mg → FnG P w K mg base 16 fa fd ["script"] (spM K (clK K) 1 W_law) := by
  have e := hfa.symm.trans (PySem.W.mg_of X G a_law)
  cases e
  have F_remainder_power := fun_mk (st := s_remainder_power) l_remainder_power c_remainder_power k_remainder_power
  have B_remainder_power := F_remainder_power.binds (ps := ["base", "exponent", "modulus"]) fun _ _ _ _ _ _ us hl => match us, hl with | [_, _, _], _ => rfl
  have F_least_divisor := fun_mk (st := s_least_divisor) l_least_divisor c_least_divisor k_least_divisor
  have B_least_divisor := F_least_divisor.binds (ps := ["number"]) fun _ _ _ _ _ _ us hl => match us, hl with | [_], _ => rfl
  have F_is_small_prime := fun_mk (st := s_is_small_prime) l_is_small_prime c_is_small_prime k_is_small_prime
  have B_is_small_prime := F_is_small_prime.binds (ps := ["number"]) fun _ _ _ _ _ _ us hl => match us, hl with | [_], _ => rfl
  have F_is_integer := fun_mk (st := s_is_integer) l_is_integer c_is_integer k_is_integer
  have B_is_integer := F_is_integer.binds (ps := ["value"]) fun _ _ _ _ _ _ us hl => match us, hl with | [_], _ => rfl
  have F_is_between := fun_mk (st := s_is_between) l_is_between c_is_between k_is_between
  have B_is_between := F_is_between.binds (ps := ["value", "least", "most"]) fun _ _ _ _ _ _ us hl => match us, hl with | [_, _, _], _ => rfl
  have F_check_integer := fund_mk (st := s_check_integer) 1 l_check_integer c_check_integer k_check_integer dd_check_integer
  have B_check_integer := bindsD_all F_check_integer ["value", "least", "most"] fun _ _ _ _ _ _ _ us its h1 h2 => match us, its, h1, h2 with | [_, _, _], [_, _], _, _ => ⟨_, rfl, rfl⟩
  have F_check_odd := fun_mk (st := s_check_odd) l_check_odd c_check_odd k_check_odd
  have B_check_odd := F_check_odd.binds (ps := ["number"]) fun _ _ _ _ _ _ us hl => match us, hl with | [_], _ => rfl
  have F_check_base := fun_mk (st := s_check_base) l_check_base c_check_base k_check_base
  have B_check_base := F_check_base.binds (ps := ["number", "base"]) fun _ _ _ _ _ _ us hl => match us, hl with | [_, _], _ => rfl
  have F_passes_fermat := fun_mk (st := s_passes_fermat) l_passes_fermat c_passes_fermat k_passes_fermat
  have B_passes_fermat := F_passes_fermat.binds (ps := ["number", "base"]) fun _ _ _ _ _ _ us hl => match us, hl with | [_, _], _ => rfl
  have BK_passes_fermat_0_base_number : BindK K _ ["number", "base"] 0 ["base", "number"] [1, 0] := fun s us ws h1 h2 => match us, ws, h1, h2 with | [], [_, _], _, _ => BindsTo.of_eq (fd := PySem.W.fnOf "passes_fermat" "passes_fermat" (defArgs s_passes_fermat) (defBody s_passes_fermat) (defScope s_passes_fermat) .none kV_passes_fermat dc_passes_fermat pm_passes_fermat an_passes_fermat cd_passes_fermat ct_passes_fermat) rfl
  have F_is_passed := fun_mk (st := s_is_passed) l_is_passed c_is_passed k_is_passed
  have B_is_passed := F_is_passed.binds (ps := ["number", "base"]) fun _ _ _ _ _ _ us hl => match us, hl with | [_, _], _ => rfl
  have F_passes_strong := fun_mk (st := s_passes_strong) l_passes_strong c_passes_strong k_passes_strong
  have B_passes_strong := F_passes_strong.binds (ps := ["number", "base"]) fun _ _ _ _ _ _ us hl => match us, hl with | [_, _], _ => rfl
  have BK_passes_strong_0_base_number : BindK K _ ["number", "base"] 0 ["base", "number"] [1, 0] := fun s us ws h1 h2 => match us, ws, h1, h2 with | [], [_, _], _, _ => BindsTo.of_eq (fd := PySem.W.fnOf "passes_strong" "passes_strong" (defArgs s_passes_strong) (defBody s_passes_strong) (defScope s_passes_strong) .none kV_passes_strong dc_passes_strong pm_passes_strong an_passes_strong cd_passes_strong ct_passes_strong) rfl
  have F_strong_witness := fun_mk (st := s_strong_witness) l_strong_witness c_strong_witness k_strong_witness
  have B_strong_witness := F_strong_witness.binds (ps := ["number"]) fun _ _ _ _ _ _ us hl => match us, hl with | [_], _ => rfl
  have BK_strong_witness_0_number : BindK K _ ["number"] 0 ["number"] [0] := fun s us ws h1 h2 => match us, ws, h1, h2 with | [], [_], _, _ => BindsTo.of_eq (fd := PySem.W.fnOf "strong_witness" "strong_witness" (defArgs s_strong_witness) (defBody s_strong_witness) (defScope s_strong_witness) .none kV_strong_witness dc_strong_witness pm_strong_witness an_strong_witness cd_strong_witness ct_strong_witness) rfl
  have F_l_cell := fun_mk (st := s_l_cell) l_l_cell c_l_cell k_l_cell
  have B_l_cell := F_l_cell.binds (ps := ["script", "k"]) fun _ _ _ _ _ _ us hl => match us, hl with | [_, _], _ => rfl
  have F_l_box := fun_mk (st := s_l_box) l_l_box c_l_box k_l_box
  have B_l_box := F_l_box.binds (ps := ["great"]) fun _ _ _ _ _ _ us hl => match us, hl with | [_], _ => rfl
  have F_l_take := fun_mk (st := s_l_take) l_l_take c_l_take k_l_take
  have B_l_take := F_l_take.binds (ps := ["box", "many"]) fun _ _ _ _ _ _ us hl => match us, hl with | [_, _], _ => rfl
  have F_l_same := fun_mk (st := s_l_same) l_l_same c_l_same k_l_same
  have B_l_same := F_l_same.binds (ps := ["told", "due"]) fun _ _ _ _ _ _ us hl => match us, hl with | [_, _], _ => rfl
  have F_l_very := fun_mk (st := s_l_very) l_l_very c_l_very k_l_very
  have B_l_very := F_l_very.binds (ps := ["given", "value"]) fun _ _ _ _ _ _ us hl => match us, hl with | [_, _], _ => rfl
  have F_l_odd_value := fun_mk (st := s_l_odd_value) l_l_odd_value c_l_odd_value k_l_odd_value
  have B_l_odd_value := F_l_odd_value.binds (ps := ["box"]) fun _ _ _ _ _ _ us hl => match us, hl with | [_], _ => rfl
  have F_l_power := fun_mk (st := s_l_power) l_l_power c_l_power k_l_power
  have B_l_power := F_l_power.binds (ps := ["base", "exponent", "modulus"]) fun _ _ _ _ _ _ us hl => match us, hl with | [_, _, _], _ => rfl
  have F_l_factors := fun_mk (st := s_l_factors) l_l_factors c_l_factors k_l_factors
  have B_l_factors := F_l_factors.binds (ps := ["number"]) fun _ _ _ _ _ _ us hl => match us, hl with | [_], _ => rfl
  have F_l_is_prime := fun_mk (st := s_l_is_prime) l_l_is_prime c_l_is_prime k_l_is_prime
  have B_l_is_prime := F_l_is_prime.binds (ps := ["number"]) fun _ _ _ _ _ _ us hl => match us, hl with | [_], _ => rfl
  have F_l_root := fun_mk (st := s_l_root) l_l_root c_l_root k_l_root
  have B_l_root := F_l_root.binds (ps := ["number"]) fun _ _ _ _ _ _ us hl => match us, hl with | [_], _ => rfl
  have F_l_number := fun_mk (st := s_l_number) l_l_number c_l_number k_l_number
  have B_l_number := F_l_number.binds (ps := ["box", "most"]) fun _ _ _ _ _ _ us hl => match us, hl with | [_, _], _ => rfl
  have F_l_most := fun_mk (st := s_l_most) l_l_most c_l_most k_l_most
  have B_l_most := F_l_most.binds (ps := ["box"]) fun _ _ _ _ _ _ us hl => match us, hl with | [_], _ => rfl
  have F_l_strong := fun_mk (st := s_l_strong) l_l_strong c_l_strong k_l_strong
  have B_l_strong := F_l_strong.binds (ps := ["number", "base"]) fun _ _ _ _ _ _ us hl => match us, hl with | [_, _], _ => rfl
  have F_l_witness := fun_mk (st := s_l_witness) l_l_witness c_l_witness k_l_witness
  have B_l_witness := F_l_witness.binds (ps := ["number"]) fun _ _ _ _ _ _ us hl => match us, hl with | [_], _ => rfl
  have F_l_asked := fun_mk (st := s_l_asked) l_l_asked c_l_asked k_l_asked
  have B_l_asked := F_l_asked.binds (ps := ["word", "number", "base", "named"]) fun _ _ _ _ _ _ us hl => match us, hl with | [_, _, _, _], _ => rfl
  have F_l_drawn := fun_mk (st := s_l_drawn) l_l_drawn c_l_drawn k_l_drawn
  have B_l_drawn := F_l_drawn.binds (ps := ["box"]) fun _ _ _ _ _ _ us hl => match us, hl with | [_], _ => rfl
  have F_l_bases := fun_mk (st := s_l_bases) l_l_bases c_l_bases k_l_bases
  have B_l_bases := F_l_bases.binds (ps := ["box", "number"]) fun _ _ _ _ _ _ us hl => match us, hl with | [_, _], _ => rfl
  have F_l_right := fun_mk (st := s_l_right) l_l_right c_l_right k_l_right
  have B_l_right := F_l_right.binds (ps := ["box", "named"]) fun _ _ _ _ _ _ us hl => match us, hl with | [_, _], _ => rfl
  have F_l_errors := fun_mk (st := s_l_errors) l_l_errors c_l_errors k_l_errors
  have B_l_errors := F_l_errors.binds (ps := ["box", "named"]) fun _ _ _ _ _ _ us hl => match us, hl with | [_, _], _ => rfl
  have F_law := fun_mk (st := s_law) l_law c_law k_law
  have B_law := F_law.binds (ps := ["script"]) fun _ _ _ _ _ _ us hl => match us, hl with | [_], _ => rfl
  refine ⟨_, fun s u => BindsTo.of_eq (fd := PySem.W.fnOf "law" "law" (defArgs s_law) (defBody s_law) (defScope s_law) .none kV_law dc_law pm_law an_law cd_law ct_law) rfl, fun base KB GB => ?_⟩
  have e_InvalidBase := clK_of (s := "InvalidBase") aC_InvalidBase
  have e_InvalidNumber := clK_of (s := "InvalidNumber") aC_InvalidNumber
  have e_NumberError := clK_of (s := "NumberError") aC_NumberError
  have ox_InvalidBase : OexC K C_InvalidBase := ⟨⟨_, _, _, _, _, _, _, _, _, _, _, _, _, _, _, xL_InvalidBase, rb_InvalidBase⟩, sa_InvalidBase, eC_InvalidBase, tC_InvalidBase, kC_InvalidBase⟩
  have FI_InvalidBase := fun_mk (st := (inClass (top 6) 0)) fl_InvalidBase fc_InvalidBase fk_InvalidBase
  have in_InvalidBase : FnOk P w K mg base CX0 1 I_InvalidBase _ ["self", "given"] (spIni C_InvalidBase (Str.ofString "given")) := ini_ok FI_InvalidBase ⟨rfl, rfl, rfl, by decide +kernel, rfl, by decide +kernel, by decide +kernel⟩ ox_InvalidBase no_InvalidBase rfl (Or.inl rfl) (Or.inl rfl) (by decide) (by decide) (fun _ => rfl)
  have bi_InvalidBase := FI_InvalidBase.binds (ps := ["self", "given"]) fun _ _ _ _ _ _ us hl => match us, hl with | [_, _], _ => rfl
  have ox_InvalidNumber : OexC K C_InvalidNumber := ⟨⟨_, _, _, _, _, _, _, _, _, _, _, _, _, _, _, xL_InvalidNumber, rb_InvalidNumber⟩, sa_InvalidNumber, eC_InvalidNumber, tC_InvalidNumber, kC_InvalidNumber⟩
  have FI_InvalidNumber := fun_mk (st := (inClass (top 7) 0)) fl_InvalidNumber fc_InvalidNumber fk_InvalidNumber
  have in_InvalidNumber : FnOk P w K mg base CX0 1 I_InvalidNumber _ ["self", "given"] (spIni C_InvalidNumber (Str.ofString "given")) := ini_ok FI_InvalidNumber ⟨rfl, rfl, rfl, by decide +kernel, rfl, by decide +kernel, by decide +kernel⟩ ox_InvalidNumber no_InvalidNumber rfl (Or.inl rfl) (Or.inl rfl) (by decide) (by decide) (fun _ => rfl)
  have bi_InvalidNumber := FI_InvalidNumber.binds (ps := ["self", "given"]) fun _ _ _ _ _ _ us hl => match us, hl with | [_, _], _ => rfl
  have T : Txt P w K mg base (clK K) := {
    b_abs := PySem.W.mg_none_of X G b_abs
    b_bool := PySem.W.mg_none_of X G b_bool
    b_dict := PySem.W.mg_none_of X G b_dict
    b_int := PySem.W.mg_none_of X G b_int
    b_isinstance := PySem.W.mg_none_of X G b_isinstance
    b_len := PySem.W.mg_none_of X G b_len
    b_list := PySem.W.mg_none_of X G b_list
    b_max := PySem.W.mg_none_of X G b_max
    b_min := PySem.W.mg_none_of X G b_min
    b_range := PySem.W.mg_none_of X G b_range
    b_repr := PySem.W.mg_none_of X G b_repr
    b_str := PySem.W.mg_none_of X G b_str
    b_sum := PySem.W.mg_none_of X G b_sum
    b_tuple := PySem.W.mg_none_of X G b_tuple
    c_InvalidBase := by rw [e_InvalidBase]; exact PySem.W.mg_of X G aC_InvalidBase
    c_InvalidNumber := by rw [e_InvalidNumber]; exact PySem.W.mg_of X G aC_InvalidNumber
    c_NumberError := by rw [e_NumberError]; exact PySem.W.mg_of X G aC_NumberError
    x_InvalidBase := ⟨by rw [e_InvalidBase]; exact ox_InvalidBase, by rw [e_InvalidBase]; exact ⟨_, _, _, fi_InvalidBase, ft_InvalidBase, in_InvalidBase, bi_InvalidBase⟩, by rw [e_InvalidBase]; exact PySem.W.mg_of X G aC_InvalidBase⟩
    x_InvalidNumber := ⟨by rw [e_InvalidNumber]; exact ox_InvalidNumber, by rw [e_InvalidNumber]; exact ⟨_, _, _, fi_InvalidNumber, ft_InvalidNumber, in_InvalidNumber, bi_InvalidNumber⟩, by rw [e_InvalidNumber]; exact PySem.W.mg_of X G aC_InvalidNumber⟩
    exm_InvalidBase := by
      intro c1 hc
      simp only [knE, List.mem_cons, List.not_mem_nil, or_false] at hc
      rcases hc with rfl | rfl
      · rw [e_InvalidBase]; exact (PySem.W.exm_ref eC_InvalidBase hC_InvalidBase tC_InvalidBase s_InvalidBase_InvalidBase).trans (by decide +kernel)
      · rw [e_InvalidNumber, e_InvalidBase]; exact (PySem.W.exm_ref eC_InvalidBase hC_InvalidBase tC_InvalidBase s_InvalidNumber_InvalidBase).trans (by decide +kernel)

    exm_InvalidNumber := by
      intro c1 hc
      simp only [knE, List.mem_cons, List.not_mem_nil, or_false] at hc
      rcases hc with rfl | rfl
      · rw [e_InvalidBase, e_InvalidNumber]; exact (PySem.W.exm_ref eC_InvalidNumber hC_InvalidNumber tC_InvalidNumber s_InvalidBase_InvalidNumber).trans (by decide +kernel)
      · rw [e_InvalidNumber]; exact (PySem.W.exm_ref eC_InvalidNumber hC_InvalidNumber tC_InvalidNumber s_InvalidNumber_InvalidNumber).trans (by decide +kernel)

    xf := by
      intro c1 hc
      simp only [knE, List.mem_cons, List.not_mem_nil, or_false] at hc
      rcases hc with rfl | rfl
      · rw [e_InvalidBase]; exact ⟨ga_InvalidBase, gg_InvalidBase, eC_InvalidBase, hC_InvalidBase⟩
      · rw [e_InvalidNumber]; exact ⟨ga_InvalidNumber, gg_InvalidNumber, eC_InvalidNumber, hC_InvalidNumber⟩

    no_given := by
      intro c1 hc
      simp only [knE, List.mem_cons, List.not_mem_nil, or_false] at hc
      rcases hc with rfl | rfl
      · rw [e_InvalidBase]; exact no_InvalidBase
      · rw [e_InvalidNumber]; exact no_InvalidNumber

    ei := by
      intro c1 hc
      simp only [knE, List.mem_cons, List.not_mem_nil, or_false] at hc
      rcases hc with rfl | rfl
      · rw [e_InvalidBase]; exact ⟨iC_InvalidBase, ga_InvalidBase, gg_InvalidBase, eC_InvalidBase, cc_InvalidBase, sp_g, tk_g, mo_InvalidBase⟩
      · rw [e_InvalidNumber]; exact ⟨iC_InvalidNumber, ga_InvalidNumber, gg_InvalidNumber, eC_InvalidNumber, cc_InvalidNumber, sp_g, tk_g, mo_InvalidNumber⟩

    kit_NumberError := by
      intro c1 hc
      simp only [knE, List.mem_cons, List.not_mem_nil, or_false] at hc
      rcases hc with rfl | rfl
      · rw [e_InvalidBase, e_NumberError]; exact (kit_ref iC_NumberError tC_NumberError s_InvalidBase_NumberError).trans (by decide +kernel)
      · rw [e_InvalidNumber, e_NumberError]; exact (kit_ref iC_NumberError tC_NumberError s_InvalidNumber_NumberError).trans (by decide +kernel)

    k_LEAST_NUMBER := ⟨_, PySem.W.mg_of X G k_LEAST_NUMBER⟩
    k_MOST_NUMBER := ⟨_, PySem.W.mg_of X G k_MOST_NUMBER⟩ }
  have G_remainder_power : Fn P w K mg base (clK K) 1 "remainder_power" 3 W_remainder_power f_remainder_power _ ["base", "exponent", "modulus"] := fn_M F_remainder_power sc_remainder_power rfl (PySem.W.mg_of X G a_remainder_power) ar_remainder_power (fun cdv A outer s H E Z hcl hr ok => d_remainder_power T  cdv A outer s H E Z hcl hr ok) kp_remainder_power
  have G_least_divisor : Fn P w K mg base (clK K) 1 "least_divisor" 1 W_least_divisor f_least_divisor _ ["number"] := fn_M F_least_divisor sc_least_divisor rfl (PySem.W.mg_of X G a_least_divisor) ar_least_divisor (fun cdv A outer s H E Z hcl hr ok => d_least_divisor T  cdv A outer s H E Z hcl hr ok) kp_least_divisor
  have G_is_small_prime : Fn P w K mg base (clK K) 2 "is_small_prime" 1 W_is_small_prime f_is_small_prime _ ["number"] := fn_M F_is_small_prime sc_is_small_prime rfl (PySem.W.mg_of X G a_is_small_prime) ar_is_small_prime (fun cdv A outer s H E Z hcl hr ok => d_is_small_prime T G_least_divisor B_least_divisor cdv A outer s H E Z hcl hr ok) kp_is_small_prime
  have G_is_integer : Fn P w K mg base (clK K) 1 "is_integer" 1 W_is_integer f_is_integer _ ["value"] := fn_M F_is_integer sc_is_integer rfl (PySem.W.mg_of X G a_is_integer) ar_is_integer (fun cdv A outer s H E Z hcl hr ok => d_is_integer T  cdv A outer s H E Z hcl hr ok) kp_is_integer
  have G_is_between : Fn P w K mg base (clK K) 2 "is_between" 3 W_is_between f_is_between _ ["value", "least", "most"] := fn_M F_is_between sc_is_between rfl (PySem.W.mg_of X G a_is_between) ar_is_between (fun cdv A outer s H E Z hcl hr ok => d_is_between T G_is_integer B_is_integer cdv A outer s H E Z hcl hr ok) kp_is_between
  have G_check_integer : Fn P w K mg base (clK K) 3 "check_integer" 3 W_check_integer f_check_integer _ ["value", "least", "most"] := fn_MD F_check_integer sc_check_integer rfl (PySem.W.mg_of X G a_check_integer) ar_check_integer (fun cdv A outer s H E Z hcl hr ok => d_check_integer T G_is_integer B_is_integer cdv A outer s H E Z hcl hr ok) kp_check_integer
  have G_check_odd : Fn P w K mg base (clK K) 4 "check_odd" 1 W_check_odd f_check_odd _ ["number"] := fn_M F_check_odd sc_check_odd rfl (PySem.W.mg_of X G a_check_odd) ar_check_odd (fun cdv A outer s H E Z hcl hr ok => d_check_odd T G_check_integer B_check_integer cdv A outer s H E Z hcl hr ok) kp_check_odd
  have G_check_base : Fn P w K mg base (clK K) 3 "check_base" 2 W_check_base f_check_base _ ["number", "base"] := fn_M F_check_base sc_check_base rfl (PySem.W.mg_of X G a_check_base) ar_check_base (fun cdv A outer s H E Z hcl hr ok => d_check_base T G_is_between B_is_between cdv A outer s H E Z hcl hr ok) kp_check_base
  have G_passes_fermat : Fn P w K mg base (clK K) 5 "passes_fermat" 2 W_passes_fermat f_passes_fermat _ ["number", "base"] := fn_M F_passes_fermat sc_passes_fermat rfl (PySem.W.mg_of X G a_passes_fermat) ar_passes_fermat (fun cdv A outer s H E Z hcl hr ok => d_passes_fermat T G_check_base B_check_base G_check_odd B_check_odd G_remainder_power B_remainder_power cdv A outer s H E Z hcl hr ok) kp_passes_fermat
  have G_is_passed : Fn P w K mg base (clK K) 2 "is_passed" 2 W_is_passed f_is_passed _ ["number", "base"] := fn_M F_is_passed sc_is_passed rfl (PySem.W.mg_of X G a_is_passed) ar_is_passed (fun cdv A outer s H E Z hcl hr ok => d_is_passed T G_remainder_power B_remainder_power cdv A outer s H E Z hcl hr ok) kp_is_passed
  have G_passes_strong : Fn P w K mg base (clK K) 5 "passes_strong" 2 W_passes_strong f_passes_strong _ ["number", "base"] := fn_M F_passes_strong sc_passes_strong rfl (PySem.W.mg_of X G a_passes_strong) ar_passes_strong (fun cdv A outer s H E Z hcl hr ok => d_passes_strong T G_check_base B_check_base G_check_odd B_check_odd G_is_passed B_is_passed cdv A outer s H E Z hcl hr ok) kp_passes_strong
  have G_strong_witness : Fn P w K mg base (clK K) 5 "strong_witness" 1 W_strong_witness f_strong_witness _ ["number"] := fn_M F_strong_witness sc_strong_witness rfl (PySem.W.mg_of X G a_strong_witness) ar_strong_witness (fun cdv A outer s H E Z hcl hr ok => d_strong_witness T G_check_odd B_check_odd G_is_passed B_is_passed G_is_small_prime B_is_small_prime cdv A outer s H E Z hcl hr ok) kp_strong_witness
  have G_l_cell : Fn P w K mg base (clK K) 1 "_law_cell" 2 W_l_cell f_l_cell _ ["script", "k"] := fn_M F_l_cell sc_l_cell rfl (PySem.W.mg_of X G a_l_cell) ar_l_cell (fun cdv A outer s H E Z hcl hr ok => d_l_cell T  cdv A outer s H E Z hcl hr ok) kp_l_cell
  have G_l_box : Fn P w K mg base (clK K) 1 "_law_box" 1 W_l_box f_l_box _ ["great"] := fn_M F_l_box sc_l_box rfl (PySem.W.mg_of X G a_l_box) ar_l_box (fun cdv A outer s H E Z hcl hr ok => d_l_box T  cdv A outer s H E Z hcl hr ok) kp_l_box
  have G_l_take : Fn P w K mg base (clK K) 1 "_law_take" 2 W_l_take f_l_take _ ["box", "many"] := fn_M F_l_take sc_l_take rfl (PySem.W.mg_of X G a_l_take) ar_l_take (fun cdv A outer s H E Z hcl hr ok => d_l_take T  cdv A outer s H E Z hcl hr ok) kp_l_take
  have G_l_same := rec_l_same F_l_same B_l_same (PySem.W.mg_of X G a_l_same) T
  have G_l_very : Fn P w K mg base (clK K) 1 "_law_very" 2 W_l_very f_l_very _ ["given", "value"] := fn_M F_l_very sc_l_very rfl (PySem.W.mg_of X G a_l_very) ar_l_very (fun cdv A outer s H E Z hcl hr ok => d_l_very T  cdv A outer s H E Z hcl hr ok) (kp_l_very shwP)
  have G_l_odd_value : Fn P w K mg base (clK K) 2 "_law_odd_value" 1 W_l_odd_value f_l_odd_value _ ["box"] := fn_M F_l_odd_value sc_l_odd_value rfl (PySem.W.mg_of X G a_l_odd_value) ar_l_odd_value (fun cdv A outer s H E Z hcl hr ok => d_l_odd_value T G_l_take B_l_take cdv A outer s H E Z hcl hr ok) kp_l_odd_value
  have G_l_power : Fn P w K mg base (clK K) 1 "_law_power" 3 W_l_power f_l_power _ ["base", "exponent", "modulus"] := fn_M F_l_power sc_l_power rfl (PySem.W.mg_of X G a_l_power) ar_l_power (fun cdv A outer s H E Z hcl hr ok => d_l_power T  cdv A outer s H E Z hcl hr ok) kp_l_power
  have G_l_factors : Fn P w K mg base (clK K) 1 "_law_factors" 1 W_l_factors f_l_factors _ ["number"] := fn_M F_l_factors sc_l_factors rfl (PySem.W.mg_of X G a_l_factors) ar_l_factors (fun cdv A outer s H E Z hcl hr ok => d_l_factors T  cdv A outer s H E Z hcl hr ok) kp_l_factors
  have G_l_is_prime : Fn P w K mg base (clK K) 2 "_law_is_prime" 1 W_l_is_prime f_l_is_prime _ ["number"] := fn_M F_l_is_prime sc_l_is_prime rfl (PySem.W.mg_of X G a_l_is_prime) ar_l_is_prime (fun cdv A outer s H E Z hcl hr ok => d_l_is_prime T G_l_factors B_l_factors cdv A outer s H E Z hcl hr ok) kp_l_is_prime
  have G_l_root : Fn P w K mg base (clK K) 1 "_law_root" 1 W_l_root f_l_root _ ["number"] := fn_M F_l_root sc_l_root rfl (PySem.W.mg_of X G a_l_root) ar_l_root (fun cdv A outer s H E Z hcl hr ok => d_l_root T  cdv A outer s H E Z hcl hr ok) kp_l_root
  have G_l_number : Fn P w K mg base (clK K) 2 "_law_number" 2 W_l_number f_l_number _ ["box", "most"] := fn_M F_l_number sc_l_number rfl (PySem.W.mg_of X G a_l_number) ar_l_number (fun cdv A outer s H E Z hcl hr ok => d_l_number T G_l_root B_l_root G_l_take B_l_take cdv A outer s H E Z hcl hr ok) kp_l_number
  have G_l_most : Fn P w K mg base (clK K) 2 "_law_most" 1 W_l_most f_l_most _ ["box"] := fn_M F_l_most sc_l_most rfl (PySem.W.mg_of X G a_l_most) ar_l_most (fun cdv A outer s H E Z hcl hr ok => d_l_most T G_l_take B_l_take cdv A outer s H E Z hcl hr ok) kp_l_most
  have G_l_strong : Fn P w K mg base (clK K) 2 "_law_strong" 2 W_l_strong f_l_strong _ ["number", "base"] := fn_M F_l_strong sc_l_strong rfl (PySem.W.mg_of X G a_l_strong) ar_l_strong (fun cdv A outer s H E Z hcl hr ok => d_l_strong T G_l_power B_l_power cdv A outer s H E Z hcl hr ok) kp_l_strong
  have G_l_witness : Fn P w K mg base (clK K) 3 "_law_witness" 1 W_l_witness f_l_witness _ ["number"] := fn_M F_l_witness sc_l_witness rfl (PySem.W.mg_of X G a_l_witness) ar_l_witness (fun cdv A outer s H E Z hcl hr ok => d_l_witness T G_l_is_prime B_l_is_prime G_l_strong B_l_strong cdv A outer s H E Z hcl hr ok) kp_l_witness
  have G_l_asked : Fn P w K mg base (clK K) 6 "_law_asked" 4 W_l_asked f_l_asked _ ["word", "number", "base", "named"] := fn_M F_l_asked sc_l_asked rfl (PySem.W.mg_of X G a_l_asked) ar_l_asked (fun cdv A outer s H E Z hcl hr ok => d_l_asked T G_passes_fermat B_passes_fermat BK_passes_fermat_0_base_number G_passes_strong B_passes_strong BK_passes_strong_0_base_number G_strong_witness B_strong_witness BK_strong_witness_0_number cdv A outer s H E Z hcl hr ok) kp_l_asked
  have G_l_drawn : Fn P w K mg base (clK K) 3 "_law_drawn" 1 W_l_drawn f_l_drawn _ ["box"] := fn_M F_l_drawn sc_l_drawn rfl (PySem.W.mg_of X G a_l_drawn) ar_l_drawn (fun cdv A outer s H E Z hcl hr ok => d_l_drawn T G_l_is_prime B_l_is_prime G_l_most B_l_most G_l_number B_l_number G_l_take B_l_take cdv A outer s H E Z hcl hr ok) kp_l_drawn
  have G_l_bases : Fn P w K mg base (clK K) 2 "_law_bases" 2 W_l_bases f_l_bases _ ["box", "number"] := fn_M F_l_bases sc_l_bases rfl (PySem.W.mg_of X G a_l_bases) ar_l_bases (fun cdv A outer s H E Z hcl hr ok => d_l_bases T G_l_power B_l_power G_l_take B_l_take cdv A outer s H E Z hcl hr ok) kp_l_bases
  have G_l_right : Fn P w K mg base (clK K) 15 "_law_right" 2 W_l_right f_l_right _ ["box", "named"] := fn_M F_l_right sc_l_right rfl (PySem.W.mg_of X G a_l_right) ar_l_right (fun cdv A outer s H E Z hcl hr ok => d_l_right T G_l_asked B_l_asked G_l_bases B_l_bases G_l_drawn B_l_drawn G_l_power B_l_power G_l_same B_l_same G_l_strong B_l_strong G_l_witness B_l_witness cdv A outer s H E Z hcl hr ok) kp_l_right
  have G_l_errors : Fn P w K mg base (clK K) 7 "_law_errors" 2 W_l_errors f_l_errors _ ["box", "named"] := fn_M F_l_errors sc_l_errors rfl (PySem.W.mg_of X G a_l_errors) ar_l_errors (fun cdv A outer s H E Z hcl hr ok => d_l_errors T G_l_asked B_l_asked G_l_odd_value B_l_odd_value G_l_take B_l_take G_l_very B_l_very cdv A outer s H E Z hcl hr ok) kp_l_errors
  have G_law : Fn P w K mg base (clK K) 16 "law" 1 W_law fa _ ["script"] := fn_M F_law sc_law rfl (PySem.W.mg_of X G a_law) ar_law (fun cdv A outer s H E Z hcl hr ok => d_law T G_l_box B_l_box G_l_cell B_l_cell G_l_errors B_l_errors G_l_right B_l_right G_l_take B_l_take cdv A outer s H E Z hcl hr ok) kp_law
  exact G_law.ok
end NB
open PySem PySem.W PyProof.Rows
set_option maxRecDepth 100000 in
set_option maxHeartbeats 0 in
theorem PySem.Challenge.cw_numberbench_k07_false_witnesses_holds : PySem.Challenge.rw_numberbench_k07_false_witnesses.Holds := by
  w_on; o_law; k_head; (case hw => w_witness2)
  k_fill
  refine NB.law_end (l := PySem.Challenge.rw_numberbench_k07_false_witnesses) (x := "script") (lv := 16) (cl := NB.clK) (wt := NB.W_law) rfl rfl ⟨⟨rfl, by decide, by decide⟩, rfl⟩ (fun w h Y => PySem.W.kIn_of Y) NB.law_true ?F
  case F =>
    intro w mg fa h KX G hmg
    refine' NB.all_mk KX G hmg ?a_remainder_power ?l_remainder_power ?c_remainder_power ?k_remainder_power ?a_least_divisor ?l_least_divisor ?c_least_divisor ?k_least_divisor ?a_is_small_prime ?l_is_small_prime ?c_is_small_prime ?k_is_small_prime ?a_is_integer ?l_is_integer ?c_is_integer ?k_is_integer ?a_is_between ?l_is_between ?c_is_between ?k_is_between ?a_check_integer ?l_check_integer ?c_check_integer ?k_check_integer ?dd_check_integer ?a_check_odd ?l_check_odd ?c_check_odd ?k_check_odd ?a_check_base ?l_check_base ?c_check_base ?k_check_base ?a_passes_fermat ?l_passes_fermat ?c_passes_fermat ?k_passes_fermat ?a_is_passed ?l_is_passed ?c_is_passed ?k_is_passed ?a_passes_strong ?l_passes_strong ?c_passes_strong ?k_passes_strong ?a_strong_witness ?l_strong_witness ?c_strong_witness ?k_strong_witness ?a_l_cell ?l_l_cell ?c_l_cell ?k_l_cell ?a_l_box ?l_l_box ?c_l_box ?k_l_box ?a_l_take ?l_l_take ?c_l_take ?k_l_take ?a_l_same ?l_l_same ?c_l_same ?k_l_same ?a_l_very ?l_l_very ?c_l_very ?k_l_very ?a_l_odd_value ?l_l_odd_value ?c_l_odd_value ?k_l_odd_value ?a_l_power ?l_l_power ?c_l_power ?k_l_power ?a_l_factors ?l_l_factors ?c_l_factors ?k_l_factors ?a_l_is_prime ?l_l_is_prime ?c_l_is_prime ?k_l_is_prime ?a_l_root ?l_l_root ?c_l_root ?k_l_root ?a_l_number ?l_l_number ?c_l_number ?k_l_number ?a_l_most ?l_l_most ?c_l_most ?k_l_most ?a_l_strong ?l_l_strong ?c_l_strong ?k_l_strong ?a_l_witness ?l_l_witness ?c_l_witness ?k_l_witness ?a_l_asked ?l_l_asked ?c_l_asked ?k_l_asked ?a_l_drawn ?l_l_drawn ?c_l_drawn ?k_l_drawn ?a_l_bases ?l_l_bases ?c_l_bases ?k_l_bases ?a_l_right ?l_l_right ?c_l_right ?k_l_right ?a_l_errors ?l_l_errors ?c_l_errors ?k_l_errors ?a_law ?l_law ?c_law ?k_law ?aC_InvalidBase ?xL_InvalidBase ?rb_InvalidBase ?sa_InvalidBase ?ga_InvalidBase ?gg_InvalidBase ?no_InvalidBase ?fi_InvalidBase ?ft_InvalidBase ?fl_InvalidBase ?fc_InvalidBase ?fk_InvalidBase ?kC_InvalidBase ?eC_InvalidBase ?tC_InvalidBase ?hC_InvalidBase ?iC_InvalidBase ?cc_InvalidBase ?mo_InvalidBase ?aC_InvalidNumber ?xL_InvalidNumber ?rb_InvalidNumber ?sa_InvalidNumber ?ga_InvalidNumber ?gg_InvalidNumber ?no_InvalidNumber ?fi_InvalidNumber ?ft_InvalidNumber ?fl_InvalidNumber ?fc_InvalidNumber ?fk_InvalidNumber ?kC_InvalidNumber ?eC_InvalidNumber ?tC_InvalidNumber ?hC_InvalidNumber ?iC_InvalidNumber ?cc_InvalidNumber ?mo_InvalidNumber ?sp_g ?tk_g ?aC_NumberError ?tC_NumberError ?iC_NumberError ?s_InvalidBase_InvalidBase ?s_InvalidBase_InvalidNumber ?s_InvalidBase_NumberError ?s_InvalidNumber_InvalidBase ?s_InvalidNumber_InvalidNumber ?s_InvalidNumber_NumberError ?b_abs ?b_bool ?b_dict ?b_int ?b_isinstance ?b_len ?b_list ?b_max ?b_min ?b_range ?b_repr ?b_str ?b_sum ?b_tuple ?k_LEAST_NUMBER ?k_MOST_NUMBER
    (case a_remainder_power => first | k_is | rfl)
    (case l_remainder_power => first | k_is | rfl)
    (case c_remainder_power => first | k_is | rfl)
    (case k_remainder_power => first | k_is | rfl)
    (case a_least_divisor => first | k_is | rfl)
    (case l_least_divisor => first | k_is | rfl)
    (case c_least_divisor => first | k_is | rfl)
    (case k_least_divisor => first | k_is | rfl)
    (case a_is_small_prime => first | k_is | rfl)
    (case l_is_small_prime => first | k_is | rfl)
    (case c_is_small_prime => first | k_is | rfl)
    (case k_is_small_prime => first | k_is | rfl)
    (case a_is_integer => first | k_is | rfl)
    (case l_is_integer => first | k_is | rfl)
    (case c_is_integer => first | k_is | rfl)
    (case k_is_integer => first | k_is | rfl)
    (case a_is_between => first | k_is | rfl)
    (case l_is_between => first | k_is | rfl)
    (case c_is_between => first | k_is | rfl)
    (case k_is_between => first | k_is | rfl)
    (case a_check_integer => first | k_is | rfl)
    (case l_check_integer => first | k_is | rfl)
    (case c_check_integer => first | k_is | rfl)
    (case k_check_integer => first | k_is | rfl)
    (case dd_check_integer => first | k_is | rfl)
    (case a_check_odd => first | k_is | rfl)
    (case l_check_odd => first | k_is | rfl)
    (case c_check_odd => first | k_is | rfl)
    (case k_check_odd => first | k_is | rfl)
    (case a_check_base => first | k_is | rfl)
    (case l_check_base => first | k_is | rfl)
    (case c_check_base => first | k_is | rfl)
    (case k_check_base => first | k_is | rfl)
    (case a_passes_fermat => first | k_is | rfl)
    (case l_passes_fermat => first | k_is | rfl)
    (case c_passes_fermat => first | k_is | rfl)
    (case k_passes_fermat => first | k_is | rfl)
    (case a_is_passed => first | k_is | rfl)
    (case l_is_passed => first | k_is | rfl)
    (case c_is_passed => first | k_is | rfl)
    (case k_is_passed => first | k_is | rfl)
    (case a_passes_strong => first | k_is | rfl)
    (case l_passes_strong => first | k_is | rfl)
    (case c_passes_strong => first | k_is | rfl)
    (case k_passes_strong => first | k_is | rfl)
    (case a_strong_witness => first | k_is | rfl)
    (case l_strong_witness => first | k_is | rfl)
    (case c_strong_witness => first | k_is | rfl)
    (case k_strong_witness => first | k_is | rfl)
    (case a_l_cell => first | k_is | rfl)
    (case l_l_cell => first | k_is | rfl)
    (case c_l_cell => first | k_is | rfl)
    (case k_l_cell => first | k_is | rfl)
    (case a_l_box => first | k_is | rfl)
    (case l_l_box => first | k_is | rfl)
    (case c_l_box => first | k_is | rfl)
    (case k_l_box => first | k_is | rfl)
    (case a_l_take => first | k_is | rfl)
    (case l_l_take => first | k_is | rfl)
    (case c_l_take => first | k_is | rfl)
    (case k_l_take => first | k_is | rfl)
    (case a_l_same => first | k_is | rfl)
    (case l_l_same => first | k_is | rfl)
    (case c_l_same => first | k_is | rfl)
    (case k_l_same => first | k_is | rfl)
    (case a_l_very => first | k_is | rfl)
    (case l_l_very => first | k_is | rfl)
    (case c_l_very => first | k_is | rfl)
    (case k_l_very => first | k_is | rfl)
    (case a_l_odd_value => first | k_is | rfl)
    (case l_l_odd_value => first | k_is | rfl)
    (case c_l_odd_value => first | k_is | rfl)
    (case k_l_odd_value => first | k_is | rfl)
    (case a_l_power => first | k_is | rfl)
    (case l_l_power => first | k_is | rfl)
    (case c_l_power => first | k_is | rfl)
    (case k_l_power => first | k_is | rfl)
    (case a_l_factors => first | k_is | rfl)
    (case l_l_factors => first | k_is | rfl)
    (case c_l_factors => first | k_is | rfl)
    (case k_l_factors => first | k_is | rfl)
    (case a_l_is_prime => first | k_is | rfl)
    (case l_l_is_prime => first | k_is | rfl)
    (case c_l_is_prime => first | k_is | rfl)
    (case k_l_is_prime => first | k_is | rfl)
    (case a_l_root => first | k_is | rfl)
    (case l_l_root => first | k_is | rfl)
    (case c_l_root => first | k_is | rfl)
    (case k_l_root => first | k_is | rfl)
    (case a_l_number => first | k_is | rfl)
    (case l_l_number => first | k_is | rfl)
    (case c_l_number => first | k_is | rfl)
    (case k_l_number => first | k_is | rfl)
    (case a_l_most => first | k_is | rfl)
    (case l_l_most => first | k_is | rfl)
    (case c_l_most => first | k_is | rfl)
    (case k_l_most => first | k_is | rfl)
    (case a_l_strong => first | k_is | rfl)
    (case l_l_strong => first | k_is | rfl)
    (case c_l_strong => first | k_is | rfl)
    (case k_l_strong => first | k_is | rfl)
    (case a_l_witness => first | k_is | rfl)
    (case l_l_witness => first | k_is | rfl)
    (case c_l_witness => first | k_is | rfl)
    (case k_l_witness => first | k_is | rfl)
    (case a_l_asked => first | k_is | rfl)
    (case l_l_asked => first | k_is | rfl)
    (case c_l_asked => first | k_is | rfl)
    (case k_l_asked => first | k_is | rfl)
    (case a_l_drawn => first | k_is | rfl)
    (case l_l_drawn => first | k_is | rfl)
    (case c_l_drawn => first | k_is | rfl)
    (case k_l_drawn => first | k_is | rfl)
    (case a_l_bases => first | k_is | rfl)
    (case l_l_bases => first | k_is | rfl)
    (case c_l_bases => first | k_is | rfl)
    (case k_l_bases => first | k_is | rfl)
    (case a_l_right => first | k_is | rfl)
    (case l_l_right => first | k_is | rfl)
    (case c_l_right => first | k_is | rfl)
    (case k_l_right => first | k_is | rfl)
    (case a_l_errors => first | k_is | rfl)
    (case l_l_errors => first | k_is | rfl)
    (case c_l_errors => first | k_is | rfl)
    (case k_l_errors => first | k_is | rfl)
    (case a_law => first | k_is | rfl)
    (case l_law => first | k_is | rfl)
    (case c_law => first | k_is | rfl)
    (case k_law => first | k_is | rfl)
    (case aC_InvalidBase => first | k_is | rfl)
    (case xL_InvalidBase => first | k_is | rfl)
    (case rb_InvalidBase => decide +kernel)
    (case sa_InvalidBase => first | k_is | rfl)
    (case ga_InvalidBase => first | k_is | rfl)
    (case gg_InvalidBase => first | k_is | rfl)
    (case no_InvalidBase => first | k_is | rfl)
    (case fi_InvalidBase => first | k_is | rfl)
    (case ft_InvalidBase => first | k_is | rfl)
    (case fl_InvalidBase => first | k_is | rfl)
    (case fc_InvalidBase => first | k_is | rfl)
    (case fk_InvalidBase => first | k_is | rfl)
    (case kC_InvalidBase => first | k_is | rfl)
    (case eC_InvalidBase => first | k_is | rfl)
    (case tC_InvalidBase => first | k_is | rfl)
    (case hC_InvalidBase => first | k_is | rfl)
    (case iC_InvalidBase => first | k_is | rfl)
    (case cc_InvalidBase => first | k_is | rfl)
    (case mo_InvalidBase => first | k_is | rfl)
    (case aC_InvalidNumber => first | k_is | rfl)
    (case xL_InvalidNumber => first | k_is | rfl)
    (case rb_InvalidNumber => decide +kernel)
    (case sa_InvalidNumber => first | k_is | rfl)
    (case ga_InvalidNumber => first | k_is | rfl)
    (case gg_InvalidNumber => first | k_is | rfl)
    (case no_InvalidNumber => first | k_is | rfl)
    (case fi_InvalidNumber => first | k_is | rfl)
    (case ft_InvalidNumber => first | k_is | rfl)
    (case fl_InvalidNumber => first | k_is | rfl)
    (case fc_InvalidNumber => first | k_is | rfl)
    (case fk_InvalidNumber => first | k_is | rfl)
    (case kC_InvalidNumber => first | k_is | rfl)
    (case eC_InvalidNumber => first | k_is | rfl)
    (case tC_InvalidNumber => first | k_is | rfl)
    (case hC_InvalidNumber => first | k_is | rfl)
    (case iC_InvalidNumber => first | k_is | rfl)
    (case cc_InvalidNumber => first | k_is | rfl)
    (case mo_InvalidNumber => first | k_is | rfl)
    (case sp_g => first | k_is | rfl)
    (case tk_g => first | k_is | rfl)
    (case aC_NumberError => first | k_is | rfl)
    (case tC_NumberError => first | k_is | rfl)
    (case iC_NumberError => first | k_is | rfl)
    (case s_InvalidBase_InvalidBase => first | k_is | rfl)
    (case s_InvalidBase_InvalidNumber => first | k_is | rfl)
    (case s_InvalidBase_NumberError => first | k_is | rfl)
    (case s_InvalidNumber_InvalidBase => first | k_is | rfl)
    (case s_InvalidNumber_InvalidNumber => first | k_is | rfl)
    (case s_InvalidNumber_NumberError => first | k_is | rfl)
    (case b_abs => first | k_is | rfl)
    (case b_bool => first | k_is | rfl)
    (case b_dict => first | k_is | rfl)
    (case b_int => first | k_is | rfl)
    (case b_isinstance => first | k_is | rfl)
    (case b_len => first | k_is | rfl)
    (case b_list => first | k_is | rfl)
    (case b_max => first | k_is | rfl)
    (case b_min => first | k_is | rfl)
    (case b_range => first | k_is | rfl)
    (case b_repr => first | k_is | rfl)
    (case b_str => first | k_is | rfl)
    (case b_sum => first | k_is | rfl)
    (case b_tuple => first | k_is | rfl)
    (case k_LEAST_NUMBER => first | k_is | rfl)
    (case k_MOST_NUMBER => first | k_is | rfl)

import PyProof.Rows.All
import Wide.All
import OpenK.AllK
import Wide.FinOn
import Wide.Seal
import PyProof.Rows.EqNone
import PyProof.StationsW
import PyProof.NeKinds
import PyProof.StrLawsIn
import PyProof.Rows.StrInSeq3
import KE.KSliceW
import PyProof.SliceStr2
import PyProof.Rows.TupMore
import PyProof.Rows.StrCase
import PyProof.Rows.StrFirst
import PyProof.Rows.StrCut
import PyProof.DefCall
import PyProof.AssignAttr
import PyProof.Walks
import PyProof.StrWalks
import PyProof.CompUse
import PyProof.Rows.TupAssign
import PyProof.RulesAssignMore
import PyProof.ExcClass3
import PyProof.ExcInit
import PyProof.Rows.BitMore
import KE.BitLaws
import PySem.Challenge.RW_sj0094_01
open PySem PySem.W PyProof.Rows
set_option linter.all false
set_option linter.unusedVariables false
set_option bootstrap.genMatcherCode false
namespace Mine
section
set_option genCtorIdx false
set_option genSizeOf false
set_option genInjectivity false

abbrev Tx := List Nat

inductive D where
  | none
  | bool (b : Bool)
  | int (i : Int)
  | str (x : Tx)
  | tup (l : List D)
  | lst (l : List D)
  | node (k : Int) (a : D) (kids : List D)
  | h (n : Nat)

inductive MO where
  | inst (c : Nat) (at_ : List (Nat × D))
  | list (l : List D)
  | sdict (l : List (Tx × D))
  | idict (l : List (Int × D))

abbrev Sto := List MO
abbrev Loc := List (Option D)

set_option genCtorIdx true in
inductive BO where | add | sub | mul | fdiv | mod | pow | band | bor | bxor
set_option genCtorIdx true in
inductive CO where | eq | ne | lt | le | gt | ge | mem | nmem
set_option genCtorIdx true in
inductive BM where | lower | strip | find | join | get1 | get2 | append
set_option genCtorIdx true in
inductive BF where | len | str | abs | int | max | isStr | divmod | all
set_option genCtorIdx true in
inductive Md where | v | b | l | av | ov | ab | ob

inductive CE where
  | loc (i : Nat)
  | glob (g : Nat)
  | lit (d : D)
  | bin (o : BO) (a b : CE)
  | neg (a : CE)
  | not (a : CE)
  | cmp (o : CO) (a b : CE)
  | btw (a b c : CE)
  | isN (pos : Bool) (a : CE)
  | and (es : CE)
  | or (es : CE)
  | ite (t a b : CE)
  | tup (es : CE)
  | lst (es : CE)
  | sub (a i : CE)
  | slice (a lo hi : CE)
  | attr (a : CE) (n : Nat)
  | call (f : Nat) (es : CE)
  | node (es : CE)
  | mk (c : Nat) (es : CE)
  | meth (a : CE) (n : Nat) (es : CE)
  | bmeth (a : CE) (m : BM) (es : CE)
  | bif (f : BF) (es : CE)
  | csub (src : CE) (k : Nat)
  | cmod (src : CE) (k : Int)
  | cin (src : CE) (x : Tx)
  | pref (a : CE)
  | mlist (es : CE)
  | mcat (a b : CE)
  | mdict (b : Bool) (ks es : CE)
  | nil
  | cons (a r : CE)
  | dead

inductive CS where
  | nil
  | cons (s r : CS)
  | expr (e : CE)
  | asg (i : Nat) (e : CE)
  | asg2 (i j : Nat) (e : CE)
  | asgA (a : CE) (n : Nat) (e : CE)
  | asgI (a i e : CE)
  | aug (i : Nat) (o : BO) (e : CE)
  | augA (a : CE) (n : Nat) (o : BO) (e : CE)
  | ret (e : CE)
  | retN
  | ite (t : CE) (a b : CS)
  | while (t : CE) (b : CS)
  | forIn (i : Nat) (e : CE) (b : CS)
  | forR (i : Nat) (e : CE) (b : CS)
  | for4 (i j k l : Nat) (e : CE) (b : CS)
  | raise (x : Nat) (es : CE)
  | tryF (i : Nat) (e : CE) (f : CS)
  | tryX (e : CE) (x y : Nat) (a b c d : Int)
  | dead

inductive Fl where
  | next
  | ret (d : D)

@[reducible] noncomputable def Br (t : Bool) (P Q : Prop) : Prop := Bool.rec (motive := fun _ => Prop) Q P t
theorem br0 {t : Bool} {P Q : Prop} (h : t = true → P) (h' : t = false → Q) : Bool.rec (motive := fun _ => Prop) Q P t := by cases t; exact h' rfl; exact h rfl
theorem Br.t {t : Bool} {P Q : Prop} (h : Br t P Q) (e : t = true) : P := by cases e; exact h
theorem Br.f {t : Bool} {P Q : Prop} (h : Br t P Q) (e : t = false) : Q := by cases e; exact h
@[reducible] noncomputable def ck (p : Prop) (d : Decidable p) (P : Prop) : Prop := Decidable.rec (motive := fun _ => Prop) (fun _ => False) (fun _ => P) d
theorem ck.inv {p : Prop} {d : Decidable p} {P : Prop} (h : ck p d P) : p ∧ P := by
  cases d with
  | isFalse => exact h.elim
  | isTrue a => exact ⟨a, h⟩
theorem ckp {p : Prop} {d : Decidable p} {P : Prop} (h : ck p d P) : p := h.inv.1
theorem ckk {p : Prop} {d : Decidable p} {P : Prop} (h : ck p d P) : P := h.inv.2
theorem ckI {p : Prop} {d : Decidable p} {P : Prop} (h : p) (k : P) : Decidable.rec (motive := fun _ => Prop) (fun _ => False) (fun _ => P) d := by
  cases d with
  | isFalse n => exact absurd h n
  | isTrue => exact k

noncomputable def Sz (n : Nat) : Prop := n ≤ 16777216
noncomputable def B64 (i : Int) : Prop := -18446744073709551616 < i ∧ i < 18446744073709551616
@[reducible] noncomputable def ckz (n : Nat) (P : Prop) : Prop := ck (Sz n) (Nat.decLe n 16777216) P
noncomputable def inB (i : Int) : Bool := match i with | .ofNat n => Nat.ble n 18446744073709551615 | .negSucc n => Nat.ble n 18446744073709551614
theorem inB_iff (i : Int) : inB i = true ↔ B64 i := by
  cases i with
  | ofNat n => exact ⟨fun h => ⟨Int.lt_of_lt_of_le (by decide) (Int.natCast_nonneg n), Int.ofNat_lt.mpr (Nat.lt_succ_of_le (Nat.le_of_ble_eq_true h))⟩, fun h => Nat.ble_eq_true_of_le (Nat.le_of_lt_succ (Int.ofNat_lt.mp h.2))⟩
  | negSucc n => exact ⟨fun h => by have := Nat.le_of_ble_eq_true h; exact ⟨by omega, by omega⟩, fun h => Nat.ble_eq_true_of_le (by have := h.1; omega)⟩
noncomputable def nz (i : Int) : Bool := match i with | .ofNat n => (match n with | 0 => false | _ + 1 => true) | .negSucc _ => true
theorem nz_iff (i : Int) : nz i = true ↔ i ≠ 0 := by
  cases i with
  | ofNat n =>
    cases n with
    | zero => exact ⟨fun h => absurd h Bool.false_ne_true, fun h => absurd rfl h⟩
    | succ n => exact ⟨fun _ h => Nat.succ_ne_zero n (Int.ofNat.inj h), fun _ => rfl⟩
  | negSucc n => exact ⟨fun _ => Int.negSucc_ne_zero n, fun _ => rfl⟩
@[reducible] noncomputable def ckb (i : Int) (P : Prop) : Prop := ck (B64 i) (decidable_of_bool (inB i) (inB_iff i)) P
@[reducible] noncomputable def ckd (i : Int) (P : Prop) : Prop := ck (B64 i ∧ i ≠ 0) (decidable_of_bool (inB i && nz i) (Bool.and_eq_true_iff.trans (and_congr (inB_iff i) (nz_iff i)))) P

noncomputable def intTx (i : Int) : Tx := (Str.ofString (toString i)).cps.toList

noncomputable def Sto.at (σ : Sto) (n : Nat) : MO := σ.getD n (.list [])

@[reducible] noncomputable def ckl (n : Nat) (σ : Sto) (P : Prop) : Prop := ck (n < σ.length) (Nat.decLt n σ.length) P
/-! data of one make -/
noncomputable def onN (d : D) (P : Prop) : Prop := match d with | .none => P | _ => False
noncomputable def onB (d : D) (f : Bool → Prop) : Prop := match d with | .bool b => f b | _ => False
noncomputable def onI (d : D) (f : Int → Prop) : Prop := match d with | .int i => f i | _ => False
noncomputable def onS (d : D) (f : Tx → Prop) : Prop := match d with | .str x => f x | _ => False
noncomputable def onT (d : D) (f : List D → Prop) : Prop := match d with | .tup l => f l | _ => False
noncomputable def onL (d : D) (f : List D → Prop) : Prop := match d with | .lst l => f l | _ => False
noncomputable def onH (d : D) (f : Nat → Prop) : Prop := match d with | .h n => f n | _ => False
noncomputable def onII (d e : D) (f : Int → Int → Prop) : Prop := onI d fun a => onI e fun b => f a b
noncomputable def onO {α : Type} (o : Option α) (f : α → Prop) : Prop := match o with | some a => f a | none => False
noncomputable def onE {α : Type} (l : List α) (P : Prop) : Prop := match l with | [] => P | _ :: _ => False
noncomputable def onC {α : Type} (l : List α) (f : α → List α → Prop) : Prop := match l with | a :: r => f a r | [] => False
noncomputable def on1 {α : Type} (l : List α) (f : α → Prop) : Prop := onC l fun a r => onE r (f a)
noncomputable def on2 {α : Type} (l : List α) (f : α → α → Prop) : Prop := onC l fun a r => on1 r (f a)
noncomputable def on4 {α : Type} (l : List α) (f : α → α → α → α → Prop) : Prop := onC l fun a r => onC r fun b r => on2 r (f a b)
noncomputable def onZ (d : D) (P : Prop) : Prop := onI d fun i => match i with | .ofNat n => (match n with | 0 => P | _ + 1 => False) | .negSucc _ => False
noncomputable def moI (m : MO) (f : Nat → List (Nat × D) → Prop) : Prop := match m with | .inst c l => f c l | _ => False
noncomputable def moL (m : MO) (f : List D → Prop) : Prop := match m with | .list l => f l | _ => False
noncomputable def moS (m : MO) (f : List (Tx × D) → Prop) : Prop := match m with | .sdict l => f l | _ => False
noncomputable def moD (m : MO) (f : List (Int × D) → Prop) : Prop := match m with | .idict l => f l | _ => False
theorem onN_inv {d P} (h : onN d P) : d = .none ∧ P := by cases d <;> first | exact ⟨rfl, h⟩ | exact h.elim
theorem onB_inv {d f} (h : onB d f) : ∃ b, d = .bool b ∧ f b := by cases d <;> first | exact ⟨_, rfl, h⟩ | exact h.elim
theorem onI_inv {d f} (h : onI d f) : ∃ i, d = .int i ∧ f i := by cases d <;> first | exact ⟨_, rfl, h⟩ | exact h.elim
theorem onS_inv {d f} (h : onS d f) : ∃ x, d = .str x ∧ f x := by cases d <;> first | exact ⟨_, rfl, h⟩ | exact h.elim
theorem onT_inv {d f} (h : onT d f) : ∃ l, d = .tup l ∧ f l := by cases d <;> first | exact ⟨_, rfl, h⟩ | exact h.elim
theorem onL_inv {d f} (h : onL d f) : ∃ l, d = .lst l ∧ f l := by cases d <;> first | exact ⟨_, rfl, h⟩ | exact h.elim
theorem onH_inv {d f} (h : onH d f) : ∃ n, d = .h n ∧ f n := by cases d <;> first | exact ⟨_, rfl, h⟩ | exact h.elim
theorem onO_inv {α : Type} {o : Option α} {f} (h : onO o f) : ∃ a, o = some a ∧ f a := by cases o; exact h.elim; exact ⟨_, rfl, h⟩
theorem onE_inv {α : Type} {l : List α} {P} (h : onE l P) : l = [] ∧ P := by cases l; exact ⟨rfl, h⟩; exact h.elim
theorem onC_inv {α : Type} {l : List α} {f} (h : onC l f) : ∃ a r, l = a :: r ∧ f a r := by cases l; exact h.elim; exact ⟨_, _, rfl, h⟩
theorem on1_inv {α : Type} {l : List α} {f} (h : on1 l f) : ∃ a, l = [a] ∧ f a := by
  obtain ⟨a, r, rfl, h1⟩ := onC_inv h; obtain ⟨rfl, h2⟩ := onE_inv h1; exact ⟨a, rfl, h2⟩
theorem on2_inv {α : Type} {l : List α} {f} (h : on2 l f) : ∃ a b, l = [a, b] ∧ f a b := by
  obtain ⟨a, r, rfl, h1⟩ := onC_inv h; obtain ⟨b, rfl, h2⟩ := on1_inv h1; exact ⟨a, b, rfl, h2⟩
theorem on4_inv {α : Type} {l : List α} {f} (h : on4 l f) : ∃ a b c d, l = [a, b, c, d] ∧ f a b c d := by
  obtain ⟨a, r, rfl, h1⟩ := onC_inv h; obtain ⟨b, r', rfl, h2⟩ := onC_inv h1; obtain ⟨c, d, rfl, h3⟩ := on2_inv h2; exact ⟨a, b, c, d, rfl, h3⟩
theorem onZ_inv {d P} (h : onZ d P) : d = .int 0 ∧ P := by
  obtain ⟨i, rfl, h1⟩ := onI_inv h
  cases i with
  | ofNat n => cases n; exact ⟨rfl, h1⟩; exact h1.elim
  | negSucc n => exact h1.elim
theorem moI_inv {m f} (h : moI m f) : ∃ c l, m = .inst c l ∧ f c l := by cases m <;> first | exact ⟨_, _, rfl, h⟩ | exact h.elim
theorem moL_inv {m f} (h : moL m f) : ∃ l, m = .list l ∧ f l := by cases m <;> first | exact ⟨_, rfl, h⟩ | exact h.elim
theorem moS_inv {m f} (h : moS m f) : ∃ l, m = .sdict l ∧ f l := by cases m <;> first | exact ⟨_, rfl, h⟩ | exact h.elim
theorem moD_inv {m f} (h : moD m f) : ∃ l, m = .idict l ∧ f l := by cases m <;> first | exact ⟨_, rfl, h⟩ | exact h.elim

noncomputable def truthP (d : D) (k : Bool → Prop) : Prop := match d with
  | .none => k false
  | .bool b => k b
  | .int i => k (i != 0)
  | .str x => ckz x.length (k (!x.isEmpty))
  | .lst l => ckz l.length (k (!l.isEmpty))
  | _ => False

noncomputable def addP (d e : D) (k : D → Prop) : Prop := match d with
  | .int a => onI e fun b => k (.int (a + b))
  | .str a => onS e fun b => ckz (a.length + b.length) (k (.str (a ++ b)))
  | .lst a => onL e fun b => ckz (a.length + b.length) (k (.lst (a ++ b)))
  | _ => False
noncomputable def binP (o : BO) (d e : D) (k : D → Prop) : Prop := match o with
  | .add => addP d e k
  | .sub => onII d e fun a b => k (.int (a - b))
  | .mul => onII d e fun a b => B64 a ∧ B64 b ∧ k (.int (a * b))
  | .fdiv => onII d e fun a b => ckd b (k (.int (a.fdiv b)))
  | .mod => onII d e fun a b => ckd b (k (.int (a.fmod b)))
  | .pow => onII d e fun a b => B64 a ∧ 0 ≤ b ∧ b ≤ 1000 ∧ k (.int (a ^ b.toNat))
  | .band => onII d e fun a b => k (.int (Builtin.bitAnd a b))
  | .bor => onII d e fun a b => k (.int (Builtin.bitOr a b))
  | .bxor => onII d e fun a b => k (.int (Builtin.bitXor a b))

noncomputable def inpO (o : BO) (P : Prop) : Prop := match o with | .add => P | .sub => P | _ => False
noncomputable def inpD (d : D) (P : Prop) : Prop := match d with | .lst _ => False | _ => P
noncomputable def inpP (o : BO) (d e : D) (k : D → Prop) : Prop := inpO o (inpD d (binP o d e k))

noncomputable def eqA (d e : D) : Option Bool := match d with
  | .int a => (match e with | .int b => some (a == b) | _ => none)
  | .str a => (match e with | .str b => some (a == b) | _ => none)
  | _ => none

noncomputable def eqP (σ : Sto) (d e : D) (k : Bool → Prop) : Prop := match d with
  | .none => onN e (k true)
  | .bool a => onB e fun b => k (a == b)
  | .int a => onI e fun b => k (a == b)
  | .str a => onS e fun b => k (a == b)
  | .tup l => onT e fun r => on2 l fun a b => on2 r fun c d => onO (eqA a c) fun p => onO (eqA b d) fun q => k (p && q)
  | .h n => onL e fun l => onE l (σ.at n = .list [] ∧ n < σ.length ∧ k true)
  | _ => False

noncomputable def strMem (x : Tx) : List D → Option Bool
  | [] => some false
  | d :: r => (match d with | .str y => (strMem x r).map (x == y || ·) | _ => none)
noncomputable def intMem (x : Int) : List D → Option Bool
  | [] => some false
  | d :: r => (match d with | .int y => (intMem x r).map (x == y || ·) | _ => none)

noncomputable def memP (σ : Sto) (d e : D) (k : Bool → Prop) : Prop := match d with
  | .str x => (match e with
      | .str y => on1 x fun c => k (y.contains c)
      | .tup l => onO (strMem x l) k
      | .h n => ckl n σ (moS (σ.at n) fun l => k (l.lookup x).isSome)
      | _ => False)
  | .int x => onT e fun l => onO (intMem x l) k
  | _ => False

noncomputable def noH (d : D) (P : Prop) : Prop := match d with | .h _ => False | _ => P
noncomputable def cmpP (σ : Sto) (o : CO) (a b : D) (k : Bool → Prop) : Prop := match o with
  | .eq => eqP σ a b k
  | .ne => noH a (eqP σ a b fun t => k (!t))
  | .lt => onII a b fun a b => k (decide (a < b))
  | .le => onII a b fun a b => k (decide (a ≤ b))
  | .gt => onII a b fun a b => k (decide (a > b))
  | .ge => onII a b fun a b => k (decide (a ≥ b))
  | .mem => memP σ a b k
  | .nmem => memP σ a b fun t => k (!t)

noncomputable def jOk (n : Int) : Bool := match n with | .ofNat k => Nat.ble k 16777215 | .negSucc _ => false
theorem jOk_inv {n : Int} (h : jOk n = true) : 0 ≤ n ∧ n < 16777216 := by
  cases n with
  | ofNat k => exact ⟨Int.natCast_nonneg k, Int.ofNat_lt.mpr (Nat.lt_succ_of_le (Nat.le_of_ble_eq_true h))⟩
  | negSucc k => exact absurd h Bool.false_ne_true
theorem jOk_of {n : Int} (h0 : 0 ≤ n) (h : n < 16777216) : jOk n = true := by
  cases n with
  | ofNat k => exact Nat.ble_eq_true_of_le (Nat.le_of_lt_succ (Int.ofNat_lt.mp h))
  | negSucc k => exact absurd h0 (Int.not_le.mpr (Int.negSucc_lt_zero k))
noncomputable def atP (l : List D) (j : Int) (k : D → Prop) : Prop :=
  ck (jOk j = true) (instDecidableEqBool _ _) (onO l[j.toNat]? k)

noncomputable def idxP (m : MO) (j : Int) (k : D → Prop) : Prop := match m with
  | .list l => atP l j k
  | .idict l => onO (l.lookup j) k
  | _ => False
noncomputable def subP (σ : Sto) (d e : D) (k : D → Prop) : Prop := match d with
  | .tup l => onI e fun j => atP l j k
  | .lst l => onI e fun j => atP l j k
  | .str x => onI e fun j => ck (jOk j = true) (instDecidableEqBool _ _) (onO x[j.toNat]? fun c => k (.str [c]))
  | .h n => ckl n σ (match e with
      | .int j => idxP (σ.at n) j k
      | .str x => moS (σ.at n) fun l => onO (l.lookup x) k
      | _ => False)
  | _ => False

noncomputable def clampI (n : Nat) (i : Int) : Nat := if i < 0 then (i + n).toNat else min i.toNat n
noncomputable def loOf (n : Nat) : D → Option Nat
  | .none => some 0
  | .int i => some (clampI n i)
  | _ => none
noncomputable def hiOf (n : Nat) : D → Option Nat
  | .none => some n
  | .int i => some (clampI n i)
  | _ => none
noncomputable def cutL {α : Type} (l : List α) (lo hi : Nat) : List α := (l.take hi).drop lo
noncomputable def okI (d : D) (P : Prop) : Prop := match d with
  | .none => P
  | .int _ => P
  | _ => False
noncomputable def cutP (n : Nat) (lo hi : D) (k : Nat → Nat → Prop) : Prop := ckz n (onO (loOf n lo) fun p => onO (hiOf n hi) fun q => k p q)
noncomputable def sliceP (σ : Sto) (a lo hi : D) (k : D → Prop) : Prop := okI lo (okI hi (match a with
      | .str x => cutP x.length lo hi fun p q => k (.str (cutL x p q))
      | .tup l => ckz l.length (onN lo (onI hi fun b => 0 ≤ b ∧ b ≤ l.length ∧ k (.tup (l.take b.toNat))))
      | .lst l => cutP l.length lo hi fun p q => k (.lst (cutL l p q))
      | .h n => ckl n σ (moL (σ.at n) fun l => cutP l.length lo hi fun p q => k (.lst (cutL l p q)))
      | _ => False))

noncomputable def attrP (σ : Sto) (d : D) (i : Nat) (f : D → Prop) : Prop := match d with
  | .node k a ks => (match i with | 0 => f (.int k) | 1 => f a | 2 => f (.lst ks) | 3 => f (.int 0) | _ => False)
  | .h n => ckl n σ (moI (σ.at n) fun _ l => onO (l.lookup i) f)
  | _ => False

noncomputable def maxL (m : Int) : List D → Option Int
  | [] => some m
  | d :: r => (match d with | .int i => maxL (if i > m then i else m) r | _ => none)
noncomputable def allL : List D → Option Bool
  | [] => some true
  | d :: r => (match d with | .bool b => (allL r).map (b && ·) | _ => none)
noncomputable def lowC (c : Nat) : Nat := if 65 ≤ c ∧ c ≤ 90 then c + 32 else c
noncomputable def stripL (x cs : Tx) : Tx := ((x.dropWhile (cs.contains ·)).reverse.dropWhile (cs.contains ·)).reverse
noncomputable def findC (x : Tx) (c : Nat) : Int := match x.findIdx? (· == c) with | some i => i | none => -1
noncomputable def strsOf : List D → Option (List Tx)
  | [] => some []
  | d :: r => (match d with | .str x => (strsOf r).map (x :: ·) | _ => none)
noncomputable def isDig (c : Nat) : Bool := decide (48 ≤ c) && decide (c ≤ 57)
noncomputable def decVal (x : Tx) : Int := x.foldl (fun (n : Int) (c : Nat) => n * 10 + ((c : Int) - 48)) 0

noncomputable def lenP (σ : Sto) (d : D) (k : D → Prop) : Prop := match d with
  | .str x => ckz x.length (k (.int x.length))
  | .tup l => ckz l.length (k (.int l.length))
  | .lst l => ckz l.length (k (.int l.length))
  | .h n => ckl n σ (moL (σ.at n) fun l => ckz l.length (k (.int l.length)))
  | _ => False
noncomputable def strP (d : D) (k : D → Prop) : Prop := match d with
  | .int i => ckb i (k (.str (intTx i)))
  | .str x => k (.str x)
  | _ => False
noncomputable def isStrP (d : D) (k : D → Prop) : Prop := match d with
  | .str _ => k (.bool true)
  | .int _ => k (.bool false)
  | .none => k (.bool false)
  | _ => False
noncomputable def bifP (σ : Sto) (f : BF) (l : List D) (k : D → Prop) : Prop := match f with
  | .len => on1 l fun d => lenP σ d k
  | .str => on1 l fun d => strP d k
  | .abs => on1 l fun d => onI d fun i => k (.int (if i < 0 then -i else i))
  | .int => on1 l fun d => onS d fun x => x ≠ [] ∧ x.all isDig = true ∧ x.length ≤ 600 ∧ k (.int (decVal x))
  | .max => on1 l fun d => onL d fun l => onC l fun a r => onI a fun i => ckz (r.length + 1) (onO (maxL i r) fun m => k (.int m))
  | .isStr => on1 l fun d => isStrP d k
  | .divmod => on2 l fun d e => onII d e fun a b => ckd b (k (.tup [.int (a.fdiv b), .int (a.fmod b)]))
  | .all => on1 l fun d => onL d fun l => ckz l.length (onO (allL l) fun b => k (.bool b))

noncomputable def joinP (l : List D) (k : Tx → Prop) : Prop := onO (strsOf l) fun ts => (ts.map List.length).sum ≤ 16777216 ∧ k ts.flatten
noncomputable def get1P (m : MO) (e : D) (k : D → Prop) : Prop := match e with
  | .int i => moD m fun l => k ((l.lookup i).getD .none)
  | .none => moS m fun _ => k .none
  | .str x => moS m fun l => k ((l.lookup x).getD .none)
  | _ => False
noncomputable def bmethP (σ : Sto) (m : BM) (o : D) (l : List D) (k : D → Sto → Prop) : Prop := match m with
  | .lower => onS o fun x => onE l (ckz (x.length) (x.all (decide <| · < 128) = true ∧ k (.str (x.map lowC)) σ))
  | .strip => onS o fun x => on1 l fun d => onS d fun cs => ckz (x.length) (k (.str (stripL x cs)) σ)
  | .find => onS o fun x => on1 l fun d => onS d fun cs => on1 cs fun c => ckz (x.length) (k (.int (findC x c)) σ)
  | .join => onS o fun x => onE x (on1 l fun d => (match d with
      | .lst l => joinP l fun x => k (.str x) σ
      | .h n => ckl n σ (moL (σ.at n) fun l => joinP l fun x => k (.str x) σ)
      | _ => False))
  | .get1 => onH o fun n => on1 l fun d => ckl n σ (get1P (σ.at n) d fun r => k r σ)
  | .append => onH o fun n => on1 l fun d => ckl n σ (moL (σ.at n) fun l => ckz (l.length + 1) (k .none (σ.set n (.list (l ++ [d])))))
  | .get2 => False

noncomputable def bmOk (σ : Sto) (m : BM) (d : D) (P : Prop) : Prop := match m with
  | .lower => onS d fun _ => P
  | .strip => onS d fun _ => P
  | .find => onS d fun _ => P
  | .join => onS d fun _ => P
  | .append => onH d fun n => ckl n σ (moL (σ.at n) fun _ => P)
  | .get1 => onH d fun n => ckl n σ ((match σ.at n with | .sdict _ => P | .idict _ => P | _ => False))
  | .get2 => False

noncomputable def putA {α : Type} [BEq α] (x : α) (d : D) : List (α × D) → List (α × D)
  | [] => [(x, d)]
  | (y, e) :: r => if y == x then (y, d) :: r else (y, e) :: putA x d r

noncomputable def setIP (σ : Sto) (o j d : D) (k : Sto → Prop) : Prop := onH o fun n => ckl n σ (match j with
  | .str x => moS (σ.at n) fun l => ckz (l.length + 1) (k (σ.set n (.sdict (putA x d l))))
  | .int i => moD (σ.at n) fun l => ckz (l.length + 1) (k (σ.set n (.idict (putA i d l))))
  | _ => False)

noncomputable def setAP (σ : Sto) (o : D) (i : Nat) (d : D) (k : Sto → Prop) : Prop := onH o fun n => ckl n σ (moI (σ.at n) fun c l => ck (l.length ≤ 100) (Nat.decLe _ _) (k (σ.set n (.inst c (putA i d l)))))

noncomputable def subsL (k : Nat) : List D → Option (List D)
  | [] => some []
  | d :: r => (match d with | .tup l => (match l[k]? with | some d => (subsL k r).map (d :: ·) | none => none) | _ => none)
noncomputable def modsL (m : Int) : List D → Option (List D)
  | [] => some []
  | d :: r => (match d with | .int i => (modsL m r).map (.int (i.fmod m) :: ·) | _ => none)
noncomputable def prefB (x : Tx) : Int := if x == [48, 120] then 16 else if x == [48, 111] then 8 else if x == [48, 98] then 2 else 10

abbrev KV := D → Sto → Prop
abbrev KX := Nat → Sto → Prop
abbrev Calls := Nat → List D → Sto → KV → KX → Prop

structure Tab where
  glob : Nat → D
  meth : Nat → Nat → Option Nat
  init : Nat → Option Nat

noncomputable def keyD (T : Tab) : CE → Option D
  | .lit d => some d
  | .glob g => some (T.glob g)
  | _ => none
noncomputable def keysD (T : Tab) : CE → Option (List D)
  | .nil => some []
  | .cons a r => (match keyD T a with | some d => (keysD T r).map (d :: ·) | none => none)
  | _ => none
noncomputable def storeP (n : Nat) : List D → List D → Sto → (Sto → Prop) → Prop
  | [], ds, σ, k => onE ds (k σ)
  | j :: js, ds, σ, k => onC ds fun d ds => setIP σ (.h n) j d fun σ' => storeP n js ds σ' k

noncomputable def methOf (T : Tab) (σ : Sto) (d : D) (i : Nat) (k : Nat → Prop) : Prop := onH d fun n => ckl n σ (moI (σ.at n) fun c l => ck ((l.lookup i).isNone = true) (instDecidableEqBool _ _) (onO (T.meth c i) k))

noncomputable def isNV (p : Bool) : D → Bool
  | .none => p
  | _ => !p
noncomputable def nodeP (l : List D) (k : Int → D → List D → Prop) : Prop :=
  onC l fun d l => onI d fun n => onC l fun a l => onC l fun d l => onL d fun ks => on2 l fun d e => onZ d (onZ e (k n a ks))
noncomputable def mkP (C : Calls) (o : Option Nat) (c : Nat) (l : List D) (σ : Sto) (k : KV) (x : KX) : Prop := match o with
  | some f => C f (.h σ.length :: l) (σ ++ [.inst c []]) (fun r σ₂ => onN r (k (.h σ.length) σ₂)) x
  | none => onE l (k (.h σ.length) (σ ++ [.inst c []]))

noncomputable def ev (T : Tab) (C : Calls) (loc : Loc) : CE → Md → Sto → KV → KX → Prop
  | .loc i, md, σ, k, _ => (match md with
      | .v => onO (loc.getD i none) fun d => k d σ
      | .b => onO (loc.getD i none) fun d => truthP d fun t => k (.bool t) σ
      | _ => False)
  | .glob g, md, σ, k, _ => (match md with | .v => k (T.glob g) σ | _ => False)
  | .lit d, md, σ, k, _ => (match md with | .v => k d σ | _ => False)
  | .bin o a b, md, σ, k, x => (match md with
      | .v => ev T C loc a .v σ (fun d σ₁ => ev T C loc b .v σ₁ (fun e σ₂ => binP o d e fun r => k r σ₂) x) x
      | .b => ev T C loc a .v σ (fun d σ₁ => ev T C loc b .v σ₁ (fun e σ₂ => binP o d e fun r => truthP r fun t => k (.bool t) σ₂) x) x
      | _ => False)
  | .neg a, md, σ, k, x => (match md with | .v => ev T C loc a .v σ (fun d σ₁ => onI d fun i => k (.int (-i)) σ₁) x | _ => False)
  | .not a, md, σ, k, x => (match md with
      | .v => ev T C loc a .v σ (fun d σ₁ => truthP d fun t => k (.bool (!t)) σ₁) x
      | .b => ev T C loc a .b σ (fun d σ₁ => onB d fun t => k (.bool (!t)) σ₁) x
      | _ => False)
  | .cmp o a b, md, σ, k, x => (match md with
      | .v => ev T C loc a .v σ (fun d σ₁ => ev T C loc b .v σ₁ (fun e σ₂ => cmpP σ₂ o d e fun t => k (.bool t) σ₂) x) x
      | .b => ev T C loc a .v σ (fun d σ₁ => ev T C loc b .v σ₁ (fun e σ₂ => cmpP σ₂ o d e fun t => k (.bool t) σ₂) x) x
      | _ => False)
  | .btw a b c, md, σ, k, x => (match md with
      | .b => ev T C loc a .v σ (fun d σ₁ => ev T C loc b .v σ₁ (fun e σ₂ => onII d e fun p q =>
          Br (decide (p < q)) (ev T C loc c .v σ₂ (fun f σ₃ => onI f fun r => k (.bool (decide (q < r))) σ₃) x) (k (.bool false) σ₂)) x) x
      | _ => False)
  | .isN p a, md, σ, k, x => (match md with
      | .v => ev T C loc a .v σ (fun d σ₁ => k (.bool (isNV p d)) σ₁) x
      | .b => ev T C loc a .v σ (fun d σ₁ => k (.bool (isNV p d)) σ₁) x
      | _ => False)
  | .and es, md, σ, k, x => (match md with | .v => ev T C loc es .av σ k x | .b => ev T C loc es .ab σ k x | _ => False)
  | .or es, md, σ, k, x => (match md with | .v => ev T C loc es .ov σ k x | .b => ev T C loc es .ob σ k x | _ => False)
  | .ite t a b, md, σ, k, x => (match md with
      | .v => ev T C loc t .b σ (fun d σ₁ => onB d fun t => Br t (ev T C loc a .v σ₁ k x) (ev T C loc b .v σ₁ k x)) x
      | _ => False)
  | .tup es, md, σ, k, x => (match md with | .v => ev T C loc es .l σ (fun d σ₁ => onL d fun l => ckz l.length (k (.tup l) σ₁)) x | _ => False)
  | .lst es, md, σ, k, x => (match md with | .v => ev T C loc es .l σ (fun d σ₁ => onL d fun l => ckz l.length (k (.lst l) σ₁)) x | _ => False)
  | .sub a i, md, σ, k, x => (match md with
      | .v => ev T C loc a .v σ (fun d σ₁ => ev T C loc i .v σ₁ (fun e σ₂ => subP σ₂ d e fun r => k r σ₂) x) x
      | .b => ev T C loc a .v σ (fun d σ₁ => ev T C loc i .v σ₁ (fun e σ₂ => subP σ₂ d e fun r => truthP r fun t => k (.bool t) σ₂) x) x
      | _ => False)
  | .slice a lo hi, md, σ, k, x => (match md with
      | .v => ev T C loc a .v σ (fun d σ₁ => ev T C loc lo .v σ₁ (fun e σ₂ => ev T C loc hi .v σ₂ (fun f σ₃ => sliceP σ₃ d e f fun r => k r σ₃) x) x) x
      | _ => False)
  | .attr a n, md, σ, k, x => (match md with
      | .v => ev T C loc a .v σ (fun d σ₁ => attrP σ₁ d n fun r => k r σ₁) x
      | .b => ev T C loc a .v σ (fun d σ₁ => attrP σ₁ d n fun r => truthP r fun t => k (.bool t) σ₁) x
      | _ => False)
  | .call f es, md, σ, k, x => (match md with
      | .v => ev T C loc es .l σ (fun d σ₁ => onL d fun l => C f l σ₁ k x) x
      | .b => ev T C loc es .l σ (fun d σ₁ => onL d fun l => C f l σ₁ (fun r σ₂ => truthP r fun t => k (.bool t) σ₂) x) x
      | _ => False)
  | .node es, md, σ, k, x => (match md with | .v => ev T C loc es .l σ (fun d σ₁ => onL d fun l => nodeP l fun n a ks => k (.node n a ks) σ₁) x | _ => False)
  | .mk c es, md, σ, k, x => (match md with | .v => ev T C loc es .l σ (fun d σ₁ => onL d fun l => mkP C (T.init c) c l σ₁ k x) x | _ => False)
  | .meth a n es, md, σ, k, x => (match md with
      | .v => ev T C loc a .v σ (fun o σ₁ => methOf T σ₁ o n fun f => ev T C loc es .l σ₁ (fun d σ₂ => onL d fun l => C f (o :: l) σ₂ k x) x) x
      | _ => False)
  | .bmeth a m es, md, σ, k, x => (match md with
      | .v => ev T C loc a .v σ (fun o σ₁ => bmOk σ₁ m o (ev T C loc es .l σ₁ (fun d σ₂ => onL d fun l => bmethP σ₂ m o l k) x)) x
      | _ => False)
  | .bif f es, md, σ, k, x => (match md with
      | .v => ev T C loc es .l σ (fun d σ₁ => onL d fun l => bifP σ₁ f l fun r => k r σ₁) x
      | .b => ev T C loc es .l σ (fun d σ₁ => onL d fun l => bifP σ₁ f l fun r => truthP r fun t => k (.bool t) σ₁) x
      | _ => False)
  | .csub s n, md, σ, k, x => (match md with | .v => ev T C loc s .v σ (fun d σ₁ => onL d fun l => ckz l.length (ck (n < 1000) inferInstance (onO (subsL n l) fun r => k (.lst r) σ₁))) x | _ => False)
  | .cmod s m, md, σ, k, x => (match md with | .v => ev T C loc s .v σ (fun d σ₁ => onL d fun l => ckz l.length (ck (0 < m) inferInstance (onO (modsL m l) fun r => k (.lst r) σ₁))) x | _ => False)
  | .cin s y, md, σ, k, x => (match md with | .v => ev T C loc s .v σ (fun d σ₁ => onS d fun t => ckz t.length (k (.lst (t.map fun c => .bool (y.contains c))) σ₁)) x | _ => False)
  | .pref a, md, σ, k, x => (match md with | .v => ev T C loc a .v σ (fun d σ₁ => onS d fun t => k (.int (prefB t)) σ₁) x | _ => False)
  | .mlist es, md, σ, k, x => (match md with | .v => ev T C loc es .l σ (fun d σ₁ => onL d fun l => ckz l.length (k (.h σ₁.length) (σ₁ ++ [.list l]))) x | _ => False)
  | .mcat a b, md, σ, k, x => (match md with
      | .v => ev T C loc a .v σ (fun d σ₁ => ev T C loc b .v σ₁ (fun e σ₂ => onL d fun p => onL e fun q => ckz (p.length + q.length) (k (.h σ₂.length) (σ₂ ++ [.list (p ++ q)]))) x) x
      | _ => False)
  | .mdict b ks es, md, σ, k, x => (match md with
      | .v => onO (keysD T ks) fun p => ck (p.length ≤ 15) inferInstance (ev T C loc es .l (σ ++ [if b then .idict [] else .sdict []]) (fun e σ₂ => onL e fun q => storeP σ.length p q σ₂ (k (.h σ.length))) x)
      | _ => False)
  | .nil, md, σ, k, _ => (match md with
      | .l => k (.lst []) σ
      | .ab => k (.bool true) σ
      | .ob => k (.bool false) σ
      | _ => False)
  | .cons a r, md, σ, k, x => (match md with
      | .l => ev T C loc a .v σ (fun d σ₁ => ev T C loc r .l σ₁ (fun e σ₂ => onL e fun l => k (.lst (d :: l)) σ₂) x) x
      | .av => (match r with
          | .nil => ev T C loc a .v σ k x
          | _ => ev T C loc a .v σ (fun d σ₁ => truthP d fun t => Br t (ev T C loc r .av σ₁ k x) (k d σ₁)) x)
      | .ov => (match r with
          | .nil => ev T C loc a .v σ k x
          | _ => ev T C loc a .v σ (fun d σ₁ => truthP d fun t => Br t (k d σ₁) (ev T C loc r .ov σ₁ k x)) x)
      | .ab => ev T C loc a .b σ (fun d σ₁ => onB d fun t => Br t (ev T C loc r .ab σ₁ k x) (k (.bool false) σ₁)) x
      | .ob => ev T C loc a .b σ (fun d σ₁ => onB d fun t => Br t (k (.bool true) σ₁) (ev T C loc r .ob σ₁ k x)) x
      | _ => False)
  | .dead, _, _, _, _ => False

abbrev KF := Fl → Loc → Sto → Prop
noncomputable def sqF (g : Loc → Sto → Prop) (K : KF) : KF := fun f l s => match f with | .next => g l s | .ret d => K (.ret d) l s
noncomputable def nxF (g : Loc → Sto → Prop) : KF := fun f l s => match f with | .next => g l s | .ret _ => False
noncomputable def rtF (k : KV) : KF := fun f _ s => match f with | .next => k .none s | .ret d => k d s
noncomputable def wl (t : Loc → Sto → KV → KX → Prop) (b : Loc → Sto → KF → KX → Prop) : Nat → Loc → Sto → KF → KX → Prop
  | 0, _, _, _, _ => False
  | n + 1, loc, σ, k, x => t loc σ (fun d σ₁ => onB d fun t' => Br t' (b loc σ₁ (sqF (fun l s => wl t b n l s k x) k) x) (k .next loc σ₁)) x
noncomputable def fo (chk : Sto → Prop) (b : D → Loc → Sto → KF → KX → Prop) : List D → Loc → Sto → KF → KX → Prop
  | [], loc, σ, k, _ => chk σ ∧ k .next loc σ
  | d :: ds, loc, σ, k, x => chk σ ∧ b d loc σ (sqF (fun l s => fo chk b ds l s k x) k) x

noncomputable def rOk (n : Int) : Bool := match n with | .ofNat k => Nat.ble k 1000000 | .negSucc k => Nat.ble k 999999
theorem rOk_inv {n : Int} (h : rOk n = true) : n ≤ 1000000 ∧ -1000000 ≤ n := by
  cases n with
  | ofNat k => exact ⟨Int.ofNat_le.mpr (Nat.le_of_ble_eq_true h), Int.le_trans (by decide) (Int.natCast_nonneg k)⟩
  | negSucc k => exact ⟨Int.le_trans (Int.le_of_lt (Int.negSucc_lt_zero k)) (by decide), by have := Nat.le_of_ble_eq_true h; omega⟩
theorem rOk_of {n : Int} (h0 : 0 ≤ n) (h : n ≤ 1000000) : rOk n = true := by
  cases n with
  | ofNat k => exact Nat.ble_eq_true_of_le (Int.ofNat_le.mp h)
  | negSucc k => exact absurd h0 (Int.not_le.mpr (Int.negSucc_lt_zero k))
noncomputable def rangeL (n : Int) : List D := (List.range n.toNat).map fun (i : Nat) => D.int (i : Int)

noncomputable def setL (i : Nat) (b : Loc → Sto → KF → KX → Prop) (d : D) (loc : Loc) : Sto → KF → KX → Prop := b (loc.set i (some d))
noncomputable def set4 (i j l m : Nat) (b : Loc → Sto → KF → KX → Prop) (d : D) (loc : Loc) (σ : Sto) (k : KF) (x : KX) : Prop :=
  onT d fun p => on4 p fun a b' c f => b ((((loc.set i (some a)).set j (some b')).set l (some c)).set m (some f)) σ k x
noncomputable def forP (b : D → Loc → Sto → KF → KX → Prop) (d : D) (loc : Loc) (σ : Sto) (k : KF) (x : KX) : Prop := match d with
  | .str t => ckz t.length (fo (fun _ => True) b (t.map fun c => .str [c]) loc σ k x)
  | .lst l => ckz l.length (fo (fun _ => True) b l loc σ k x)
  | .tup l => ckz l.length (fo (fun _ => True) b l loc σ k x)
  | .h n => ckl n σ (moL (σ.at n) fun l => ckz l.length (fo (fun σ₂ => n < σ₂.length ∧ σ₂.at n = .list l) b l loc σ k x))
  | _ => False
noncomputable def for4P (b : D → Loc → Sto → KF → KX → Prop) (d : D) (loc : Loc) (σ : Sto) (k : KF) (x : KX) : Prop := onH d fun n =>
  ckl n σ (moL (σ.at n) fun l => ckz l.length (fo (fun σ₂ => n < σ₂.length ∧ σ₂.at n = .list l) b l loc σ k x))

noncomputable def ex (T : Tab) (C : Calls) : CS → Loc → Sto → KF → KX → Prop
  | .nil, loc, σ, k, _ => k .next loc σ
  | .cons s r, loc, σ, k, x => ex T C s loc σ (sqF (fun l s => ex T C r l s k x) k) x
  | .expr e, loc, σ, k, x => ev T C loc e .v σ (fun d σ₁ => onN d (k .next loc σ₁)) x
  | .asg i e, loc, σ, k, x => ev T C loc e .v σ (fun d σ₁ => k .next (loc.set i (some d)) σ₁) x
  | .asg2 i j e, loc, σ, k, x => ev T C loc e .v σ (fun d σ₁ => onT d fun l => on2 l fun a b => k .next ((loc.set i (some a)).set j (some b)) σ₁) x
  | .asgA a n e, loc, σ, k, x => ev T C loc e .v σ (fun d σ₁ => ev T C loc a .v σ₁ (fun o σ₂ => setAP σ₂ o n d fun σ₃ => k .next loc σ₃) x) x
  | .asgI a i e, loc, σ, k, x => ev T C loc e .v σ (fun d σ₁ => ev T C loc a .v σ₁ (fun o σ₂ => ev T C loc i .v σ₂ (fun j σ₃ => setIP σ₃ o j d fun σ₄ => k .next loc σ₄) x) x) x
  | .aug i o e, loc, σ, k, x => onO (loc.getD i none) fun d => ev T C loc e .v σ (fun d' σ₁ => inpP o d d' fun r => k .next (loc.set i (some r)) σ₁) x
  | .augA a n o e, loc, σ, k, x => ev T C loc a .v σ (fun ob σ₁ => attrP σ₁ ob n fun d => ev T C loc e .v σ₁ (fun d' σ₂ => inpP o d d' fun r => setAP σ₂ ob n r fun σ₃ => k .next loc σ₃) x) x
  | .ret e, loc, σ, k, x => ev T C loc e .v σ (fun d σ₁ => k (.ret d) loc σ₁) x
  | .retN, loc, σ, k, _ => k (.ret .none) loc σ
  | .ite t a b, loc, σ, k, x => ev T C loc t .b σ (fun d σ₁ => onB d fun t' => Br t' (ex T C a loc σ₁ k x) (ex T C b loc σ₁ k x)) x
  | .while t b, loc, σ, k, x => ∃ n, wl (fun loc σ k x => ev T C loc t .b σ k x) (ex T C b) n loc σ k x
  | .forIn i e b, loc, σ, k, x => ev T C loc e .v σ (fun d σ₁ => forP (setL i (ex T C b)) d loc σ₁ k x) x
  | .forR i e b, loc, σ, k, x => ev T C loc e .v σ (fun d σ₁ => onI d fun n => ck (rOk n = true) (instDecidableEqBool _ _) (fo (fun _ => True) (setL i (ex T C b)) (rangeL n) loc σ₁ k x)) x
  | .for4 i j l m e b, loc, σ, k, x => ev T C loc e .v σ (fun d σ₁ => for4P (set4 i j l m (ex T C b)) d loc σ₁ k x) x
  | .raise c es, loc, σ, _, x => ev T C loc es .l σ (fun d σ₁ => onL d fun l => on1 l fun d => onS d fun _ => x c σ₁) x
  | .tryF i e f, loc, σ, k, x => ev T C loc e .v σ
      (fun d σ₁ => ex T C f (loc.set i (some d)) σ₁ (nxF (k .next)) (fun _ _ => False))
      (fun c σ₁ => ex T C f loc σ₁ (nxF fun _ σ₂ => x c σ₂) (fun _ _ => False))
  | .tryX e y z a b c d, loc, σ, k, _ => ev T C loc e .v σ (fun r σ₁ => k (.ret r) loc σ₁)
      (fun n σ₁ => if n = y then k (.ret (.tup [.int a, .int b])) loc σ₁ else if n = z then k (.ret (.tup [.int c, .int d])) loc σ₁ else False)
  | .dead, _, _, _, _ => False

structure Fn where
  code : CS
  np : Nat
  nl : Nat

noncomputable def wf (T : Tab) (fns : Nat → Option Fn) : Nat → Calls
  | 0, _, _, _, _, _ => False
  | n + 1, f, args, σ, k, x => onO (fns f) fun F => args.length = F.np ∧ ex T (wf T fns n) F.code (args.map some ++ List.replicate (F.nl - F.np) none) σ (rtF k) x
end
section
set_option genCtorIdx false
set_option genSizeOf false
set_option genInjectivity false

noncomputable def toS (x : Tx) : Str := ⟨x.toArray⟩
theorem toS_inj {x y : Tx} (h : toS x = toS y) : x = y := by
  have := congrArg (fun s : Str => s.cps.toList) h
  simpa [toS] using this
theorem toS_len (x : Tx) : (toS x).length = x.length := by simp [toS, Str.length]
theorem toS_append (x y : Tx) : toS x ++ toS y = toS (x ++ y) := by
  show Str.mk _ = Str.mk _
  simp [toS]
theorem toS_of (s : Str) : toS s.cps.toList = s := by cases s; simp [toS]

structure Tb where
  tab : Tab
  atN : Nat → Str
  fnN : Nat → Str
  fnA : Nat → Addr
  clN : Nat → Str
  clsA : Nat → Addr
  glN : Nat → Str
  nodeC : Addr
  nodeI : Addr
  nAt : Nat
  nMt : Nat
  nCl : Nat
  nFn : Nat
  nGl : Nat

noncomputable def atOk (K : Frag) (C : Addr) (name : Str) : Bool :=
  plainGet K C name && hasDictIn K C && (match findIn K (.ref C) name with | some attr => noGet K attr | none => false)

noncomputable def stOk (K : Frag) (C : Addr) (name : Str) : Bool :=
  findIn K (.ref C) "__setattr__" == some (some (.builtin "object.__setattr__")) && plainOver K C && takerIn K C name == some none && (clsIn K C).any (·.hasDict)

structure Cx where
  prog : Program
  w : World
  base : Heap
  K : Frag
  view : Program
  loose : List Str
  mg : Str → Option Value
  mb : Str → Option Value
  B : Tb
  gens : Array GenState
  os : OsState

noncomputable def Is (h : Heap) (a : Addr) (c : Value) (d : Option Addr) (dt : Data) : Prop := ∃ sl, h.get? a = some ⟨c, d, dt, sl⟩
abbrev Lay := List (Addr × Addr)
noncomputable def Free (lay : Lay) (ban : List Addr) (a : Addr) : Prop := a ∉ ban ∧ ∀ p ∈ lay, p.1 ≠ a ∧ p.2 ≠ a

inductive SeqIs (h : Heap) (lay : Lay) (ban : List Addr) (c : String) (a : Addr) (vs : List Value) : Prop where
  | mk (n : Nat) (dd : Option Addr) (F : Free lay ban a) (I : Is h a (.type c) dd (.seq vs.toArray n)) : SeqIs h lay ban c a vs
inductive NodeIs (C : Addr) (at_ : Nat → Str) (h : Heap) (lay : Lay) (ban : List Addr) (k : Int) (x : Addr) (va : Value) (vs : List Value) : Prop where
  | mk (dx : Addr) (f : Str → Option Value) (tk : Tok) (la : Addr) (tn : Tok) (F1 : Free lay ban x) (F2 : Free lay ban dx) (I : Is h x (.ref C) (some dx) .plain)
      (N : h.Ns dx f) (e0 : f (at_ 0) = some (.int k tk)) (e1 : f (at_ 1) = some va) (e2 : f (at_ 2) = some (.ref la)) (S : SeqIs h lay ban "list" la vs) (e3 : f (at_ 3) = some (.int 0 tn)) :
      NodeIs C at_ h lay ban k x va vs
mutual
noncomputable def Rep (X : Cx) (h : Heap) (lay : Lay) (ban : List Addr) : D → Value → Prop
  | .none, v => v = .none
  | .bool b, v => v = .bool b
  | .int i, v => ∃ t, v = .int i t
  | .str x, v => ∃ t, v = .str (toS x) t
  | .tup l, v => ∃ a vs, v = .ref a ∧ SeqIs h lay ban "tuple" a vs ∧ RepL X h lay ban l vs
  | .lst l, v => ∃ a vs, v = .ref a ∧ SeqIs h lay ban "list" a vs ∧ RepL X h lay ban l vs
  | .node k d ks, v => ∃ x va vs, v = .ref x ∧ NodeIs X.B.nodeC X.B.atN h lay ban k x va vs ∧ Rep X h lay ban d va ∧ RepL X h lay ban ks vs
  | .h n, v => ∃ p, lay[n]? = some p ∧ v = .ref p.1
noncomputable def RepL (X : Cx) (h : Heap) (lay : Lay) (ban : List Addr) : List D → List Value → Prop
  | [], vs => vs = []
  | d :: ds, vs => ∃ v us, vs = v :: us ∧ Rep X h lay ban d v ∧ RepL X h lay ban ds us
end

noncomputable def ktsB (K : Frag) (x : Str) (c : Value) : Bool :=
  nsIn K mainGlobals x == some (some c) || (nsIn K mainGlobals x == some none && bootBuiltins x == some c && !(x == ("__name__" : Str)))
noncomputable def methB (K : Frag) (C : Addr) (name : Str) (f : Addr) : Bool :=
  plainGet K C name && findIn K (.ref C) name == some (some (.ref f)) && isFn K (.ref f) && keepIn K (.ref f)
noncomputable def initB (K : Frag) (C : Addr) (f : Option Addr) : Bool :=
  makesIn K C && keepIn K (.ref C) && (match f with
    | some a => findIn K (.ref C) "__init__" == some (some (.ref a)) && typeIn K (.ref a) == some (.type "function")
    | none => findIn K (.ref C) "__init__" == some (some (.builtin "object.__init__")))

noncomputable def bfN : BF → Str
  | .len => "len" | .str => "str" | .abs => "abs" | .int => "int" | .max => "max" | .isStr => "isinstance" | .divmod => "divmod" | .all => "all"
noncomputable def bfV : BF → Value
  | .len => .builtin "len" | .str => .type "str" | .abs => .builtin "abs" | .int => .type "int" | .max => .builtin "max" | .isStr => .builtin "isinstance" | .divmod => .builtin "divmod" | .all => .builtin "all"

structure Cx.Ok (X : Cx) : Prop where
  KX : X.K.In X.base
  top : TopRead X.view X.loose X.mg X.mb X.base
  atInj : ∀ i j, X.B.atN i = X.B.atN j → i = j
  at_ : ∀ c, c < X.B.nCl → ∀ i, i < X.B.nAt → atOk X.K (X.B.clsA c) (X.B.atN i) = true
  node : ∀ i, i < 4 → atOk X.K X.B.nodeC (X.B.atN i) = true
  st_ : ∀ c, c < X.B.nCl → ∀ i, i < X.B.nAt → stOk X.K (X.B.clsA c) (X.B.atN i) = true
  nodeSt : ∀ i, i < 6 → stOk X.K X.B.nodeC (X.B.atN i) = true
  sys : True
  fn_ : ∀ f, f < X.B.nFn → ktsB X.K (X.B.fnN f) (.ref (X.B.fnA f)) = true ∧ keepIn X.K (.ref (X.B.fnA f)) = true
  cl_ : ∀ c, c < X.B.nCl → ktsB X.K (X.B.clN c) (.ref (X.B.clsA c)) = true ∧ initB X.K (X.B.clsA c) ((X.B.tab.init c).map X.B.fnA) = true
  meth : ∀ c, c < X.B.nCl → ∀ i, i < X.B.nMt → ∀ f, X.B.tab.meth c i = some f → methB X.K (X.B.clsA c) (X.B.atN i) (X.B.fnA f) = true
  bf_ : ∀ f, ktsB X.K (bfN f) (bfV f) = true
  nodeK : ktsB X.K ("Node" : Str) (.ref X.B.nodeC) = true ∧ initB X.K X.B.nodeC (some X.B.nodeI) = true
  glob : ∀ g, g < X.B.nGl → ∃ v, ktsB X.K (X.B.glN g) v = true ∧ Rep X X.base [] [] (X.B.tab.glob g) v

structure Evo (ban : List Addr) (L : Option Addr) (lay lay' : Lay) (h h' : Heap) : Prop where
  alive : ∀ b o, h.get? b = some o → ∃ o', h'.get? b = some o'
  keep : ∀ b o, h.get? b = some o → Free lay ban b → h'.get? b = some o
  frames : ∀ b ∈ ban, some b ≠ L → ∀ o, h.get? b = some o → ∃ sl, h'.get? b = some { o with slots := sl }
  ext : ∃ r, lay' = lay ++ r ∧ ∀ p ∈ r, h.get? p.1 = none ∧ h.get? p.2 = none
  mono : ∀ p ∈ lay, ∀ vs n, h.get? p.1 = some (listOf vs n) → ∃ vs' n', h'.get? p.1 = some (listOf vs' n') ∧ (vs.size < vs'.size ∨ (vs' = vs ∧ n' = n))

theorem Evo.refl {ban L lay h} : Evo ban L lay lay h h :=
  ⟨fun _ o e => ⟨o, e⟩, fun _ _ e _ => e, fun _ _ _ o e => ⟨o.slots, e⟩, ⟨[], by simp, fun p hp => nomatch hp⟩, fun p _ vs n e => ⟨vs, n, e, .inr ⟨rfl, rfl⟩⟩⟩

theorem Free.ext {lay lay' : Lay} {ban : List Addr} {h : Heap} {a : Addr} {o : Obj} (F : Free lay ban a) (ho : h.get? a = some o) (e : ∃ r, lay' = lay ++ r ∧ ∀ p ∈ r, h.get? p.1 = none ∧ h.get? p.2 = none) : Free lay' ban a := by
  obtain ⟨r, rfl, hr⟩ := e
  refine ⟨F.1, fun p hp => ?_⟩
  rcases List.mem_append.mp hp with hp | hp
  · exact F.2 p hp
  · obtain ⟨h1, h2⟩ := hr p hp
    constructor
    · intro q; rw [q, ho] at h1; cases h1
    · intro q; rw [q, ho] at h2; cases h2

theorem Evo.gone {ban L lay lay' h h'} (x : Evo ban L lay lay' h h') {b : Addr} (e : h'.get? b = none) : h.get? b = none := by
  cases q : h.get? b with
  | none => rfl
  | some o => obtain ⟨o', e'⟩ := x.alive b o q; rw [e] at e'; cases e'
theorem Evo.trans {ban L lay₁ lay₂ lay₃ h₁ h₂ h₃} (x : Evo ban L lay₁ lay₂ h₁ h₂) (y : Evo ban L lay₂ lay₃ h₂ h₃) : Evo ban L lay₁ lay₃ h₁ h₃ := by
  refine ⟨fun b o e => ?_, fun b o e F => ?_, fun b hb hL o e => ?_, ?_, fun p hp vs n e => ?_⟩
  · obtain ⟨o', e'⟩ := x.alive b o e
    exact y.alive b o' e'
  · exact y.keep b o (x.keep b o e F) (F.ext e x.ext)
  · obtain ⟨s1, e1⟩ := x.frames b hb hL o e
    obtain ⟨s2, e2⟩ := y.frames b hb hL _ e1
    exact ⟨s2, e2⟩
  · obtain ⟨r, rfl, hr⟩ := x.ext
    obtain ⟨r', rfl, hr'⟩ := y.ext
    refine ⟨r ++ r', by simp, fun p hp => ?_⟩
    rcases List.mem_append.mp hp with hp | hp
    · exact hr p hp
    · exact ⟨x.gone (hr' p hp).1, x.gone (hr' p hp).2⟩
  · obtain ⟨vs', n', e', h1⟩ := x.mono p hp vs n e
    obtain ⟨r, er, _⟩ := x.ext
    obtain ⟨vs'', n'', e'', h2⟩ := y.mono p (er ▸ List.mem_append_left _ hp) vs' n' e'
    refine ⟨vs'', n'', e'', ?_⟩
    rcases h1 with h1 | ⟨rfl, rfl⟩
    · rcases h2 with h2 | ⟨rfl, rfl⟩
      · exact .inl (Nat.lt_trans h1 h2)
      · exact .inl h1
    · exact h2
theorem Evo.weak {ban L lay lay' h h'} (x : Evo ban none lay lay' h h') : Evo ban L lay lay' h h' :=
  ⟨x.alive, x.keep, fun b hb _ o e => x.frames b hb (fun q => by cases q) o e, x.ext, x.mono⟩

structure Kp (ban : List Addr) (lay lay' : Lay) (h h' : Heap) : Prop where
  keep : ∀ b o, h.get? b = some o → Free lay ban b → (∀ vs, o.data ≠ .fields vs) → h'.get? b = some o
  ext : ∃ r, lay' = lay ++ r ∧ ∀ p ∈ r, h.get? p.1 = none ∧ h.get? p.2 = none
theorem Evo.kp {ban L lay lay' h h'} (E : Evo ban L lay lay' h h') : Kp ban lay lay' h h' := ⟨fun b o e F _ => E.keep b o e F, E.ext⟩
theorem Is.kp {ban lay lay' h h' a c d dt} (E : Kp ban lay lay' h h') (I : Is h a c d dt) (F : Free lay ban a) (n : ∀ vs, dt ≠ .fields vs) : Is h' a c d dt :=
  let ⟨sl, e⟩ := I; ⟨sl, E.keep _ _ e F n⟩
theorem Is.evo {ban L lay lay' h h' a c d dt} (E : Evo ban L lay lay' h h') (I : Is h a c d dt) (F : Free lay ban a) (n : ∀ vs, dt ≠ .fields vs) : Is h' a c d dt := I.kp E.kp F n
theorem Is.freeK {ban lay lay' h h' a c d dt} (E : Kp ban lay lay' h h') (I : Is h a c d dt) (F : Free lay ban a) : Free lay' ban a := let ⟨_, e⟩ := I; F.ext e E.ext
theorem Is.free {ban L lay lay' h h' a c d dt} (E : Evo ban L lay lay' h h') (I : Is h a c d dt) (F : Free lay ban a) : Free lay' ban a := I.freeK E.kp F
theorem Ns.kp {ban lay lay' h h' a f} (E : Kp ban lay lay' h h') (N : Heap.Ns h a f) (F : Free lay ban a) : Heap.Ns h' a f :=
  let ⟨o, es, ep, e, d, r⟩ := N; ⟨o, es, ep, E.keep _ _ e F (fun vs q => by rw [d] at q; cases q), d, r⟩
theorem Ns.freeK {ban lay lay' h h' a f} (E : Kp ban lay lay' h h') (N : Heap.Ns h a f) (F : Free lay ban a) : Free lay' ban a := let ⟨_, _, _, e, _⟩ := N; F.ext e E.ext
theorem Is.ne {h a c d dt b} (I : Is h a c d dt) (e : h.get? b = none) : a ≠ b := by
  obtain ⟨_, e'⟩ := I; intro q; subst q; rw [e] at e'; cases e'
theorem Ns.ne {h a f b} (I : Heap.Ns h a f) (e : h.get? b = none) : a ≠ b := by
  obtain ⟨_, _, _, e', _⟩ := I; intro q; subst q; rw [e] at e'; cases e'

structure Trf (lay lay' : Lay) (ban ban' : List Addr) (h h' : Heap) : Prop where
  obj : ∀ a o, h.get? a = some o → (∀ vs, o.data ≠ .fields vs) → Free lay ban a → h'.get? a = some o ∧ Free lay' ban' a
  lay : ∀ (n : Nat) p, lay[n]? = some p → lay'[n]? = some p
section
variable {X : Cx} {lay lay' : Lay} {ban ban' : List Addr} {h h' : Heap}
theorem SeqIs.tr (T : Trf lay lay' ban ban' h h') {c a vs} (r : SeqIs h lay ban c a vs) : SeqIs h' lay' ban' c a vs := by
  obtain ⟨n, dd, F, sl, e⟩ := r
  have t := T.obj _ _ e (fun _ q => Data.noConfusion q) F
  exact ⟨n, dd, t.2, sl, t.1⟩
theorem NodeIs.tr (T : Trf lay lay' ban ban' h h') {C at_ k x va vs} (r : NodeIs C at_ h lay ban k x va vs) : NodeIs C at_ h' lay' ban' k x va vs := by
  obtain ⟨dx, f, tk, la, tn, F1, F2, ⟨sl, e⟩, ⟨o, es, ep, e', d, r⟩, e0, e1, e2, S, e3⟩ := r
  have t1 := T.obj _ _ e (fun _ q => Data.noConfusion q) F1
  have t2 := T.obj _ _ e' (fun _ q => Data.noConfusion (d.symm.trans q)) F2
  exact ⟨dx, f, tk, la, tn, t1.2, t2.2, ⟨sl, t1.1⟩, ⟨o, es, ep, t2.1, d, r⟩, e0, e1, e2, S.tr T, e3⟩
mutual
theorem Rep.tr (T : Trf lay lay' ban ban' h h') : ∀ {d v}, Rep X h lay ban d v → Rep X h' lay' ban' d v
  | .none, _, r => r
  | .bool _, _, r => r
  | .int _, _, r => r
  | .str _, _, r => r
  | .tup l, v, r => r.imp fun _ r => r.imp fun _ r => ⟨r.1, r.2.1.tr T, RepL.tr T r.2.2⟩
  | .lst l, v, r => r.imp fun _ r => r.imp fun _ r => ⟨r.1, r.2.1.tr T, RepL.tr T r.2.2⟩
  | .node k d ks, v, r => r.imp fun _ r => r.imp fun _ r => r.imp fun _ r => ⟨r.1, r.2.1.tr T, Rep.tr T r.2.2.1, RepL.tr T r.2.2.2⟩
  | .h n, v, r => r.imp fun _ r => ⟨T.lay _ _ r.1, r.2⟩
theorem RepL.tr (T : Trf lay lay' ban ban' h h') : ∀ {ds vs}, RepL X h lay ban ds vs → RepL X h' lay' ban' ds vs
  | [], _, r => r
  | d :: ds, vs, r => r.imp fun _ r => r.imp fun _ r => ⟨r.1, Rep.tr T r.2.1, RepL.tr T r.2.2⟩
end
end
theorem Kp.tr {ban lay lay' h h'} (E : Kp ban lay lay' h h') : Trf lay lay' ban ban h h' :=
  ⟨fun a o e n F => ⟨E.keep a o e F n, F.ext e E.ext⟩, fun n p hp => by
    obtain ⟨q, rfl, _⟩ := E.ext
    rw [List.getElem?_append_left (List.getElem?_eq_some_iff.mp hp).1]; exact hp⟩
theorem Rep.kp {X : Cx} {ban lay lay' h h'} (E : Kp ban lay lay' h h') {d v} (r : Rep X h lay ban d v) : Rep X h' lay' ban d v := r.tr E.tr
theorem RepL.kp {X : Cx} {ban lay lay' h h'} (E : Kp ban lay lay' h h') {d v} (r : RepL X h lay ban d v) : RepL X h' lay' ban d v := r.tr E.tr
theorem Rep.evo {X : Cx} {ban L lay lay' h h'} (E : Evo ban L lay lay' h h') {d v} (r : Rep X h lay ban d v) : Rep X h' lay' ban d v := r.kp E.kp
theorem RepL.evo {X : Cx} {ban L lay lay' h h'} (E : Evo ban L lay lay' h h') {d v} (r : RepL X h lay ban d v) : RepL X h' lay' ban d v := r.kp E.kp

theorem Free.less {lay ban ban' a} (F : Free lay ban' a) (s : ∀ b ∈ ban, b ∈ ban') : Free lay ban a := ⟨fun q => F.1 (s _ q), F.2⟩
theorem Trf.less {ban ban' lay h} (s : ∀ b ∈ ban, b ∈ ban') : Trf lay lay ban' ban h h := ⟨fun _ _ e _ F => ⟨e, F.less s⟩, fun _ _ e => e⟩
theorem Rep.less {X : Cx} {ban ban' lay h} (s : ∀ b ∈ ban, b ∈ ban') {d v} (r : Rep X h lay ban' d v) : Rep X h lay ban d v := r.tr (.less s)
theorem RepL.less {X : Cx} {ban ban' lay h} (s : ∀ b ∈ ban, b ∈ ban') {ds vs} (r : RepL X h lay ban' ds vs) : RepL X h lay ban ds vs := r.tr (.less s)

theorem Free.more {lay ban a b} (F : Free lay ban a) (h : a ≠ b) : Free lay (b :: ban) a :=
  ⟨fun q => by rcases List.mem_cons.mp q with q | q; exact h q; exact F.1 q, F.2⟩
theorem Trf.more {ban lay h b} (s : h.get? b = none) : Trf lay lay ban (b :: ban) h h :=
  ⟨fun a o e _ F => ⟨e, F.more fun q => by rw [q, s] at e; cases e⟩, fun _ _ e => e⟩
theorem Rep.more {X : Cx} {ban lay h b} (s : h.get? b = none) {d v} (r : Rep X h lay ban d v) : Rep X h lay (b :: ban) d v := r.tr (.more s)
theorem RepL.more {X : Cx} {ban lay h b} (s : h.get? b = none) {ds vs} (r : RepL X h lay ban ds vs) : RepL X h lay (b :: ban) ds vs := r.tr (.more s)

section
variable {X : Cx} {h : Heap} {lay : Lay} {ban : List Addr}
theorem RepL.nil : RepL X h lay ban [] [] := rfl
theorem RepL.cons {d ds v vs} (r : Rep X h lay ban d v) (q : RepL X h lay ban ds vs) : RepL X h lay ban (d :: ds) (v :: vs) := ⟨v, vs, rfl, r, q⟩
@[elab_as_elim] theorem RepL.uncons {d ds vs} {P : List Value → Prop} (r : RepL X h lay ban (d :: ds) vs) (H : ∀ v us, Rep X h lay ban d v → RepL X h lay ban ds us → P (v :: us)) : P vs := by
  obtain ⟨v, us, rfl, a, b⟩ := r; exact H v us a b
@[elab_as_elim] theorem RepL.unnil {vs} {P : List Value → Prop} (r : RepL X h lay ban [] vs) (H : P []) : P vs := by cases r; exact H
theorem RepL.length : ∀ {ds vs}, RepL X h lay ban ds vs → ds.length = vs.length
  | [], _, r => r.unnil rfl
  | _ :: _, _, r => r.uncons fun _ _ _ b => congrArg (· + 1) b.length
theorem RepL.get : ∀ {ds vs} (i : Nat), RepL X h lay ban ds vs → ∀ {d}, ds[i]? = some d → ∃ v, vs[i]? = some v ∧ Rep X h lay ban d v
  | [], _, i, _, _, e => nomatch e
  | d :: ds, _, i, r, d', e => r.uncons fun v us a b => match i, e with
    | 0, e => ⟨v, rfl, Option.some.inj e ▸ a⟩
    | i + 1, e => b.get i e
theorem RepL.append : ∀ {ds vs es ws}, RepL X h lay ban ds vs → RepL X h lay ban es ws → RepL X h lay ban (ds ++ es) (vs ++ ws)
  | [], _, _, _, r, r' => r.unnil r'
  | d :: ds, _, _, _, r, r' => r.uncons fun _ _ a b => .cons a (b.append r')
theorem RepL.take : ∀ {ds vs} (n : Nat), RepL X h lay ban ds vs → RepL X h lay ban (ds.take n) (vs.take n)
  | [], _, n, r => r.unnil (by rw [List.take_nil, List.take_nil]; exact .nil)
  | d :: ds, _, 0, r => .nil
  | d :: ds, _, n + 1, r => r.uncons fun _ _ a b => .cons a (b.take n)
theorem RepL.drop : ∀ {ds vs} (n : Nat), RepL X h lay ban ds vs → RepL X h lay ban (ds.drop n) (vs.drop n)
  | [], _, n, r => r.unnil (by rw [List.drop_nil, List.drop_nil]; exact .nil)
  | d :: ds, _, 0, r => r
  | d :: ds, _, n + 1, r => r.uncons fun _ _ _ b => b.drop n

/-! what a value is, told to a goal -/
@[elab_as_elim] theorem Rep.none {v} {P : Value → Prop} (r : Rep X h lay ban .none v) (H : P .none) : P v := Eq.symm (show v = .none from r) ▸ H
@[elab_as_elim] theorem Rep.bool {b v} {P : Value → Prop} (r : Rep X h lay ban (.bool b) v) (H : P (.bool b)) : P v := Eq.symm (show v = .bool b from r) ▸ H
@[elab_as_elim] theorem Rep.int {i v} {P : Value → Prop} (r : Rep X h lay ban (.int i) v) (H : ∀ t, P (.int i t)) : P v := by obtain ⟨t, rfl⟩ := r; exact H t
@[elab_as_elim] theorem Rep.str {x v} {P : Value → Prop} (r : Rep X h lay ban (.str x) v) (H : ∀ t, P (.str (toS x) t)) : P v := by obtain ⟨t, rfl⟩ := r; exact H t
@[elab_as_elim] theorem Rep.tup {l v} {P : Value → Prop} (r : Rep X h lay ban (.tup l) v) (H : ∀ a vs, SeqIs h lay ban "tuple" a vs → RepL X h lay ban l vs → P (.ref a)) : P v := by obtain ⟨a, vs, rfl, S, R⟩ := r; exact H a vs S R
@[elab_as_elim] theorem Rep.lst {l v} {P : Value → Prop} (r : Rep X h lay ban (.lst l) v) (H : ∀ a vs, SeqIs h lay ban "list" a vs → RepL X h lay ban l vs → P (.ref a)) : P v := by obtain ⟨a, vs, rfl, S, R⟩ := r; exact H a vs S R
@[elab_as_elim] theorem Rep.ofH {n v} {P : Value → Prop} (r : Rep X h lay ban (.h n) v) (H : ∀ p, lay[n]? = some p → P (.ref p.1)) : P v := by obtain ⟨p, e, rfl⟩ := r; exact H p e
end
end
section
noncomputable def isNo (v : Value) : Bool := match v with | .none => true | _ => false
theorem isNo_of {v : Value} (h : isNo v = true) : v = .none := by cases v <;> first | rfl | exact absurd h Bool.false_ne_true
noncomputable def isOk (k : Option Str) (v : Value) : Bool := match k with
  | none => isNo v
  | some x => v.isStrOf x
theorem isOk_none {v : Value} (h : isOk none v = true) : v = .none := isNo_of (v := v) h
theorem isOk_some {x : Str} {v : Value} (h : isOk (some x) v = true) : ∃ t, v = .str x t := Value.isStrOf_shape (x := x) (v := v) h
@[elab_as_elim] theorem isOk_el {k : Option Str} {v : Value} {P : Option Str → Value → Prop} (h : isOk k v = true) (H1 : P none .none) (H2 : ∀ x t, P (some x) (.str x t)) : P k v := by
  cases k with
  | none => exact isNo_of h ▸ H1
  | some x => obtain ⟨t, rfl⟩ := Value.isStrOf_shape (x := x) (v := v) h; exact H2 x t

section
variable {prog : Program} {w : World} {A : Around} {E : Value → Shared → Prop} {s : Shared}
theorem pyHash_none {Q : Int → Shared → Prop} (h : Q (reduceHash 0xFCA86420) { s with toks := s.toks + 1 }) : wpAny (model prog w) A (pyHash .none) Q E s :=
  pyHash_slot (T := "NoneType") rfl F.slot_NoneType_hash F.entry_NoneType_hash (F.args_NoneType_hash_1 _) (beq_builtin_none _) (.inl rfl) (wpAny_bind (wpAny_pure (wpAny_bind (wpAny_mkInt (wpAny_pure ⟨_, _, rfl, h⟩)))))
theorem eqBool_ns {x : Str} {t : Tok} {Q : Bool → Shared → Prop} (q : Q false s) : wpAny (model prog w) A (eqBool .none (.str x t)) Q E s := by
  unfold eqBool
  refine wpAny_holding ?_
  show wpAny _ _ (if ((Value.none : Value) == .str x t) = true then _ else _) Q E s
  rw [if_neg (by rw [show ((Value.none : Value) == .str x t) = false from rfl]; decide)]
  exact wpAny_bind (EqNone.eq_none_str (wpAny_truthy_bool q))
theorem eqBool_sn {x : Str} {t : Tok} {Q : Bool → Shared → Prop} (q : Q false s) : wpAny (model prog w) A (eqBool (.str x t) .none) Q E s := by
  unfold eqBool
  refine wpAny_holding ?_
  show wpAny _ _ (if ((Value.str x t) == .none) = true then _ else _) Q E s
  rw [if_neg (by rw [show ((Value.str x t) == .none) = false from rfl]; decide)]
  exact wpAny_bind (EqNone.eq_str_none (wpAny_truthy_bool q))
theorem eqBool_none {Q : Bool → Shared → Prop} (h : Q true s) : wpAny (model prog w) A (eqBool .none .none) Q E s := by
  unfold eqBool
  refine wpAny_holding ?_
  show wpAny _ _ (if ((Value.none : Value) == Value.none) = true then _ else _) Q E s
  rw [if_pos (by rfl)]
  exact wpAny_bind (wpAny_rule (wpAny_pure h))
end

theorem okInj {v : Value} {a b : Option Str} (ha : isOk a v = true) (hb : isOk b v = true) : a = b := by
  cases a with
  | none =>
    cases isOk_none ha
    cases b with
    | none => rfl
    | some x => obtain ⟨t, e⟩ := isOk_some hb; cases e
  | some x =>
    obtain ⟨t, rfl⟩ := isOk_some ha
    cases b with
    | none => cases isOk_none hb
    | some y => obtain ⟨u, e⟩ := isOk_some hb; cases e; rfl
noncomputable def okKind (prog : Program) (w : World) : KeyKind prog w (Option Str) where
  is := isOk
  hash := fun k => match k with | none => reduceHash 0xFCA86420 | some x => hashStr w x
  inj := fun v a b ha hb => okInj ha hb
  byValue := fun k v h => isOk_el h rfl fun _ _ => rfl
  pyHash := fun hv => isOk_el hv (fun h => pyHash_none h) fun _ _ h => wpAny_pyHash_str h
  eqBool := fun hu hv => isOk_el hu (isOk_el hv (fun h => eqBool_none (by simpa using h)) fun _ _ h => eqBool_ns (by simpa using h))
    fun _ _ => isOk_el hv (fun h => eqBool_sn (by simpa using h)) fun _ _ h => wpAny_eqBool_str (by simpa using h)
  «strs» := fun k x t v h => by
    revert h
    cases k with
    | none => intro h; cases isOk_none h
    | some y =>
      intro h
      obtain ⟨u, e⟩ := isOk_some h
      injection e with e
      subst e
      cases v <;> rfl

theorem okMap {prog : Program} {w : World} {h : Heap} {a : Addr} {f : Str → Option Value} (M : h.MapOf (PySem.strKind prog w) a f) : h.MapOf (okKind prog w) a (fun k => match k with | some x => f x | none => none) := by
  obtain ⟨o, es, ep, ho, hc, hd, hk, hf⟩ := M
  refine ⟨o, es, ep, ho, hc, hd, fun e he => ?_, fun k => ?_⟩
  · obtain ⟨k, h1, h2⟩ := hk e he
    exact ⟨some k, h1, h2⟩
  · cases k with
    | some x => exact hf x
    | none =>
      show (es.find? fun e => isOk none e.key).map (·.val) = none
      rw [Option.map_eq_none_iff, Array.find?_eq_none]
      intro e he
      obtain ⟨k, h1, h2⟩ := hk e he
      obtain ⟨t, h3⟩ := Value.isStrOf_shape (x := k) (v := e.key) h1
      rw [h3]
      exact Bool.false_ne_true
end
section
set_option genCtorIdx false
set_option genSizeOf false
set_option genInjectivity false

structure Fm where
  name : Str
  scope : Scope
  L : Addr
  a : Addr
  cd : Value
  outer : List Env
  nm : List Str
abbrev Fm.env (fr : Fm) : Env := envOf fr.name fr.scope fr.L fr.a fr.cd
abbrev Fm.envs (fr : Fm) : List Env := fr.env :: fr.outer
abbrev banOf (envs : List Env) : List Addr := envs.filterMap (·.frame)
abbrev Fm.ban (fr : Fm) : List Addr := banOf fr.envs
structure Fm.Ok (fr : Fm) : Prop where
  kind : fr.scope.kind = .function
  nodup : fr.nm.Nodup
  loc : ∀ x ∈ fr.nm, fr.env.kindOf x = some .local
  dbg : ∀ x ∈ fr.nm, (x == ("__debug__" : Str)) = false
theorem Fm.ban_eq (fr : Fm) : fr.ban = fr.L :: banOf fr.outer := rfl

noncomputable def ORep (X : Cx) (h : Heap) (lay : Lay) (ban : List Addr) (o : Option D) (w : Option Value) : Prop := match o with
  | some d => ∃ v, w = some v ∧ Rep X h lay ban d v
  | none => w = none
inductive InstRep (X : Cx) (h : Heap) (lay : Lay) (ban : List Addr) (c : Nat) (l : List (Nat × D)) (p : Addr × Addr) : Prop where
  | mk (hc : c < X.B.nCl) (I : Is h p.1 (.ref (X.B.clsA c)) (some p.2) .plain) (ne : p.1 ≠ p.2) (f : Str → Option Value) (N : h.Ns p.2 f) (z : ∀ o es ep, h.get? p.2 = some o → o.data = .dict es ep → es.size ≤ l.length)
      (e : ∀ i, ORep X h lay ban (l.lookup i) (f (X.B.atN i))) : InstRep X h lay ban c l p
inductive ListRep (X : Cx) (h : Heap) (lay : Lay) (ban : List Addr) (l : List D) (p : Addr × Addr) : Prop where
  | mk (e : p.2 = p.1) (vs : List Value) (n : Nat) (I : h.get? p.1 = some (listOf vs.toArray n)) (R : RepL X h lay ban l vs) : ListRep X h lay ban l p
inductive SdRep (X : Cx) (h : Heap) (lay : Lay) (ban : List Addr) (l : List (Tx × D)) (p : Addr × Addr) : Prop where
  | mk (e : p.2 = p.1) (kvs : List (Option Str × Value)) (M : h.DictOf (okKind X.prog X.w) p.1 kvs) (z : kvs.length ≤ l.length) (zn : valueAt kvs none = none) (q : ∀ x, ORep X h lay ban (l.lookup x) (valueAt kvs (some (toS x)))) : SdRep X h lay ban l p
inductive IdRep (X : Cx) (h : Heap) (lay : Lay) (ban : List Addr) (l : List (Int × D)) (p : Addr × Addr) : Prop where
  | mk (e : p.2 = p.1) (kvs : List (Int × Value)) (M : h.DictOf (intKind X.prog X.w) p.1 kvs) (z : kvs.length ≤ l.length) (q : ∀ x, ORep X h lay ban (l.lookup x) (valueAt kvs x)) : IdRep X h lay ban l p
noncomputable def MORep (X : Cx) (h : Heap) (lay : Lay) (ban : List Addr) (mo : MO) (p : Addr × Addr) : Prop := match mo with
  | .inst c l => InstRep X h lay ban c l p
  | .list l => ListRep X h lay ban l p
  | .sdict l => SdRep X h lay ban l p
  | .idict l => IdRep X h lay ban l p

inductive NewAt (base : Heap) (ban : List Addr) (h : Heap) (a : Addr) : Prop where
  | mk (b : base.get? a = none) (c : a ∉ ban) (o : Obj) (e : h.get? a = some o) (n : ∀ vs, o.data ≠ .fields vs) : NewAt base ban h a
theorem NewAt.base {base ban h a} (x : NewAt base ban h a) : base.get? a = none := by obtain ⟨b, _⟩ := x; exact b
theorem NewAt.ban {base ban h a} (x : NewAt base ban h a) : a ∉ ban := by obtain ⟨_, c, _⟩ := x; exact c
theorem NewAt.here {base ban h a} (x : NewAt base ban h a) (q : h.get? a = none) : False := by obtain ⟨_, _, o, e, _⟩ := x; rw [q] at e; cases e
theorem NewAt.to {base ban ban' h h' a} (x : NewAt base ban h a) (c : a ∉ ban → a ∉ ban') (k : ∀ o, h.get? a = some o → (∀ vs, o.data ≠ .fields vs) → h'.get? a = some o) : NewAt base ban' h' a := by
  obtain ⟨b, d, o, e, n⟩ := x; exact ⟨b, c d, o, k o e n, n⟩

structure G (X : Cx) (envs : List Env) (lay : Lay) (σ : Sto) (s : Shared) : Prop where
  stays : X.base.StaysIn s.heap
  frames : s.heap.FunFrames X.base envs
  len : lay.length = σ.length
  sto : ∀ (n : Nat) (mo : MO) (p : Addr × Addr), σ[n]? = some mo → lay[n]? = some p → MORep X s.heap lay (banOf envs) mo p
  new : ∀ p ∈ lay, NewAt X.base (banOf envs) s.heap p.1 ∧ NewAt X.base (banOf envs) s.heap p.2
  apart : ∀ (i j : Nat) (p q : Addr × Addr), lay[i]? = some p → lay[j]? = some q → i ≠ j → p.1 ≠ q.1 ∧ p.1 ≠ q.2 ∧ p.2 ≠ q.1 ∧ p.2 ≠ q.2
  gens : s.gens = X.gens
  os : s.os = X.os
  sys : sysModules < X.base.objs.size ∧ ∀ p ∈ lay, p.2 = p.1 → (p.1 == sysModules) = false

structure St (X : Cx) (fr : Fm) (m : Str → Option Value) (loc : Loc) (lay : Lay) (σ : Sto) (s : Shared) : Prop where
  ns : s.heap.Ns fr.L m
  loc : ∀ (i : Nat) (x : Str) (d : D), fr.nm[i]? = some x → loc[i]? = some (some d) → ∃ v, m x = some v ∧ Rep X s.heap lay fr.ban d v
  above : X.base.objs.size ≤ fr.L
  g : G X fr.envs lay σ s

theorem MapOf.keeps' {K : Type} [DecidableEq K] {prog : Program} {w : World} {knd : KeyKind prog w K} {h h' : Heap} {a : Addr} {f : K → Option Value} (M : h.MapOf knd a f) (k : ∀ o, h.get? a = some o → h'.get? a = some o) : h'.MapOf knd a f :=
  M.imp fun o r => r.imp fun es r => r.imp fun ep r => ⟨k o r.1, r.2⟩

theorem lay_mem {lay : Lay} {n : Nat} {p : Addr × Addr} (e : lay[n]? = some p) : p ∈ lay := List.mem_of_getElem? e

theorem ORep.tr {X : Cx} {lay lay' : Lay} {ban ban' : List Addr} {h h' : Heap} (T : Trf lay lay' ban ban' h h') {o w} (r : ORep X h lay ban o w) : ORep X h' lay' ban' o w := by
  cases o with
  | none => exact r
  | some d => exact r.imp fun v q => ⟨q.1, q.2.tr T⟩
theorem MORep.tr {X : Cx} {lay lay' : Lay} {ban ban' : List Addr} {h h' : Heap} (T : Trf lay lay' ban ban' h h') {mo : MO} {p : Addr × Addr}
    (k1 : ∀ o, h.get? p.1 = some o → h'.get? p.1 = some o) (k2 : ∀ o, h.get? p.2 = some o → h'.get? p.2 = some o) (r : MORep X h lay ban mo p) : MORep X h' lay' ban' mo p := by
  cases mo with
  | inst c l =>
    obtain ⟨hc, ⟨sl, I⟩, ne, f, ⟨o, es, ep, ho, d, r⟩, z, e⟩ := r
    refine ⟨hc, ⟨sl, k1 _ I⟩, ne, f, ⟨o, es, ep, k2 _ ho, d, r⟩, fun o' es' ep' ho' hd => ?_, fun i => (e i).tr T⟩
    rw [k2 _ ho] at ho'; cases ho'
    exact z _ _ _ ho hd
  | list l => obtain ⟨e, vs, n, I, R⟩ := r; exact ⟨e, vs, n, k1 _ I, R.tr T⟩
  | sdict l => obtain ⟨e, kvs, M, z, zn, q⟩ := r; exact ⟨e, kvs, M.at k1, z, zn, fun i => (q i).tr T⟩
  | idict l => obtain ⟨e, kvs, M, z, q⟩ := r; exact ⟨e, kvs, M.at k1, z, fun i => (q i).tr T⟩
theorem MORep.keepsK {X : Cx} {ban : List Addr} {lay lay' : Lay} {h h' : Heap} (E : Kp ban lay lay' h h') {mo : MO} {p : Addr × Addr}
    (k1 : ∀ o, h.get? p.1 = some o → h'.get? p.1 = some o) (k2 : ∀ o, h.get? p.2 = some o → h'.get? p.2 = some o) (r : MORep X h lay ban mo p) : MORep X h' lay' ban mo p := r.tr E.tr k1 k2

theorem MORep.keeps {X : Cx} {ban : List Addr} {L : Option Addr} {lay lay' : Lay} {h h' : Heap} (E : Evo ban L lay lay' h h') {mo : MO} {p : Addr × Addr}
    (k1 : ∀ o, h.get? p.1 = some o → h'.get? p.1 = some o) (k2 : ∀ o, h.get? p.2 = some o → h'.get? p.2 = some o) (r : MORep X h lay ban mo p) : MORep X h' lay' ban mo p := r.keepsK E.kp k1 k2

section
variable {X : Cx} {fr : Fm} {m : Str → Option Value} {loc : Loc} {lay : Lay} {σ : Sto} {s : Shared}

theorem St.toFr (S : St X fr m loc lay σ s) : Fr X.base fr.L s.heap m := ⟨S.ns, S.g.stays, S.above⟩

theorem G.evo {envs : List Env} {L : Option Addr} (S : G X envs lay σ s) {s' : Shared} (E : Evo (banOf envs) L lay lay s.heap s'.heap) (st : X.base.StaysIn s'.heap) (ff : s'.heap.FunFrames X.base envs)
    (k : ∀ p ∈ lay, (∀ o, s.heap.get? p.1 = some o → s'.heap.get? p.1 = some o) ∧ (∀ o, s.heap.get? p.2 = some o → s'.heap.get? p.2 = some o))
    (hg : s'.gens = s.gens) (ho : s'.os = s.os) : G X envs lay σ s' := by
  refine ⟨st, ff, S.len, fun n mo p e1 e2 => ?_, fun p hp => ?_, S.apart, hg.trans S.gens, ho.trans S.os, S.sys⟩
  · exact (S.sto n mo p e1 e2).keeps E (k p (lay_mem e2)).1 (k p (lay_mem e2)).2
  · exact ⟨(S.new p hp).1.to id fun o e _ => (k p hp).1 o e, (S.new p hp).2.to id fun o e _ => (k p hp).2 o e⟩

noncomputable def full (X : Cx) (L : Addr) (h : Heap) : List (Addr × Obj) :=
  (List.range h.objs.size).filterMap fun b => if b = L ∨ (X.base.get? b).isSome = true then none else (h.get? b).map fun o => (b, o)
theorem mem_full {L : Addr} {h : Heap} {b : Addr} {o : Obj} : (b, o) ∈ full X L h ↔ h.get? b = some o ∧ b ≠ L ∧ X.base.get? b = none := by
  unfold full
  rw [List.mem_filterMap]
  constructor
  · rintro ⟨c, _, e⟩
    by_cases q : c = L ∨ (X.base.get? c).isSome = true
    · rw [if_pos q] at e; cases e
    · rw [if_neg q] at e
      obtain ⟨o', e', q'⟩ := Option.map_eq_some_iff.mp e
      cases q'
      exact ⟨e', fun z => q (.inl z), Option.not_isSome_iff_eq_none.mp fun z => q (.inr z)⟩
  · intro h
    refine ⟨b, List.mem_range.mpr (Heap.lt_size h.1), ?_⟩
    rw [if_neg (fun q => q.elim h.2.1 fun q => by rw [h.2.2] at q; cases q), h.1]; rfl
theorem full_news {L : Addr} {h : Heap} : News X.base L h (full X L h) := fun p hp => by
  obtain ⟨b, o⟩ := p
  obtain ⟨e, n, z⟩ := mem_full.mp hp
  exact ⟨e, n, z⟩
theorem full_keep {L : Addr} {h h' : Heap} {m' : Str → Option Value} (F : Fr X.base L h' m') (N : News X.base L h' (full X L h)) (st : X.base.StaysIn h) : ∀ b o, b ≠ L → h.get? b = some o → h'.get? b = some o := by
  intro b o n e
  cases z : X.base.get? b with
  | none => exact (N (b, o) (mem_full.mpr ⟨e, n, z⟩)).1
  | some o' =>
    have q := st b o' z
    rw [e] at q
    have q' : o = o' := Option.some.inj q
    subst q'
    exact F.keep b o z

theorem G.L_lay {envs : List Env} (S : G X envs lay σ s) {L : Addr} (hL : L ∈ banOf envs) {p : Addr × Addr} (hp : p ∈ lay) : p.1 ≠ L ∧ p.2 ≠ L := by
  exact ⟨fun q => (S.new p hp).1.ban (q ▸ hL), fun q => (S.new p hp).2.ban (q ▸ hL)⟩
theorem Fm.L_ban (fr : Fm) : fr.L ∈ fr.ban := List.Mem.head _

theorem funFrames_keep {base h h' : Heap} {L : Addr} {oL : Obj} (hL : h'.get? L = some oL) (hn : ∀ vs, oL.data ≠ .fields vs) (k : ∀ b o, b ≠ L → h.get? b = some o → (∀ vs, o.data ≠ .fields vs) → ∃ sl, h'.get? b = some { o with slots := sl }) :
    ∀ {envs : List Env}, h.FunFrames base envs → h'.FunFrames base envs
  | [], _ => trivial
  | env :: _, h => by
    refine ⟨h.1, ?_, funFrames_keep hL hn k h.2.2⟩
    obtain ⟨L', o, hf, hb, ho, hd⟩ := h.2.1
    by_cases q : L' = L
    · exact ⟨L', oL, hf, hb, q ▸ hL, hn⟩
    · obtain ⟨sl, e⟩ := k L' o q ho hd
      exact ⟨L', _, hf, hb, e, hd⟩

theorem St.evoBut (S : St X fr m loc lay σ s) {h' : Heap} {m' : Str → Option Value} (hL : h'.Ns fr.L m') (k : ∀ b o, b ≠ fr.L → s.heap.get? b = some o → h'.get? b = some o) :
    Evo fr.ban (some fr.L) lay lay s.heap h' := by
  refine ⟨fun b o e => ?_, fun b o e F => ?_, fun b hb hne o e => ?_, ⟨[], by simp, fun p hp => nomatch hp⟩, fun p hp vs n e => ⟨vs, n, k _ _ (S.g.L_lay fr.L_ban hp).1 e, .inr ⟨rfl, rfl⟩⟩⟩
  · by_cases q : b = fr.L
    · subst q; obtain ⟨o', _, _, e', _⟩ := hL; exact ⟨o', e'⟩
    · exact ⟨o, k b o q e⟩
  · exact k b o (fun q => F.1 (q ▸ fr.L_ban)) e
  · exact ⟨o.slots, k b o (fun q => hne (by rw [q])) e⟩
theorem St.gBut (S : St X fr m loc lay σ s) {s' : Shared} {m' : Str → Option Value} (hL : s'.heap.Ns fr.L m') (k : ∀ b o, b ≠ fr.L → s.heap.get? b = some o → s'.heap.get? b = some o) (hg : s'.gens = s.gens) (ho : s'.os = s.os) :
    G X fr.envs lay σ s' := by
  have hL' := hL
  obtain ⟨oL, es, ep, eL, dL, _⟩ := hL'
  refine S.g.evo (S.evoBut hL k) (fun b o e => k b o (fun q => ?_) (S.g.stays b o e)) (funFrames_keep eL (fun vs q => by rw [dL] at q; cases q) (fun b o n e _ => ⟨o.slots, k b o n e⟩) S.g.frames)
    (fun p hp => ⟨fun o e => k _ o (S.g.L_lay fr.L_ban hp).1 e, fun o e => k _ o (S.g.L_lay fr.L_ban hp).2 e⟩) hg ho
  subst q
  exact absurd (Nat.lt_of_lt_of_le (Heap.lt_size e) S.above) (Nat.lt_irrefl _)
theorem St.stepK (S : St X fr m loc lay σ s) {s' : Shared} (hL : s'.heap.Ns fr.L m) (k : ∀ b o, b ≠ fr.L → s.heap.get? b = some o → s'.heap.get? b = some o) (hg : s'.gens = s.gens) (ho : s'.os = s.os) :
    St X fr m loc lay σ s' ∧ Evo fr.ban (some fr.L) lay lay s.heap s'.heap :=
  have E := S.evoBut hL k
  ⟨⟨hL, fun i x d e1 e2 => let ⟨v, a, b⟩ := S.loc i x d e1 e2; ⟨v, a, Rep.evo E b⟩, S.above, S.gBut hL k hg ho⟩, E⟩
theorem St.step (S : St X fr m loc lay σ s) {s' : Shared} (F : Fr X.base fr.L s'.heap m) (N : News X.base fr.L s'.heap (full X fr.L s.heap)) (hg : s'.gens = s.gens) (ho : s'.os = s.os) :
    St X fr m loc lay σ s' ∧ Evo fr.ban (some fr.L) lay lay s.heap s'.heap := S.stepK F.ns (full_keep F N S.g.stays) hg ho
theorem St.same (S : St X fr m loc lay σ s) {s' : Shared} (hh : s'.heap = s.heap) (hg : s'.gens = s.gens) (ho : s'.os = s.os) : St X fr m loc lay σ s' := by
  have := (S.stepK (s' := s') (hh ▸ S.ns) (fun b o _ e => hh ▸ e) hg ho).1
  exact this

theorem St.freeNew (S : St X fr m loc lay σ s) {a : Addr} (e : s.heap.get? a = none) : Free lay fr.ban a := by
  refine ⟨fun q => ?_, fun p hp => ⟨fun q => (S.g.new p hp).1.here (q ▸ e), fun q => (S.g.new p hp).2.here (q ▸ e)⟩⟩
  obtain ⟨_, o, ho, _⟩ := S.g.frames.mem q
  rw [e] at ho; cases ho

end
theorem none_size (h : Heap) : h.get? h.objs.size = none := by
  cases q : h.get? h.objs.size with
  | none => rfl
  | some o => exact absurd (Heap.lt_size q) (Nat.lt_irrefl _)
end
section
/-! the makes of trees, seen one level deep -/
noncomputable def xName (e : Expr) (f : Str → Pos → Bool) : Bool := if h : e.ctorIdx = 23 then @Expr.Name.elim (fun _ => Bool) e h f else false
@[elab_as_elim] theorem xName_el {e : Expr} {f} {P : Expr → Prop} (h : xName e f = true) (H : ∀ id p, f id p = true → P (.Name id p)) : P e :=
  if q : e.ctorIdx = 23 then @Expr.Name.elim (fun e => xName e f = true → P e) e q (fun id p h => H id p h) h else absurd (show dite (e.ctorIdx = 23) _ _ = true from h) (by rw [dif_neg q]; decide)
noncomputable def xConst (e : Expr) (f : Const → Nat → Pos → Bool) : Bool := if h : e.ctorIdx = 19 then @Expr.Constant.elim (fun _ => Bool) e h f else false
@[elab_as_elim] theorem xConst_el {e : Expr} {f} {P : Expr → Prop} (h : xConst e f = true) (H : ∀ c k p, f c k p = true → P (.Constant c k p)) : P e :=
  if q : e.ctorIdx = 19 then @Expr.Constant.elim (fun e => xConst e f = true → P e) e q (fun c k p h => H c k p h) h else absurd (show dite (e.ctorIdx = 19) _ _ = true from h) (by rw [dif_neg q]; decide)
noncomputable def xBin (e : Expr) (f : Expr → Operator → Expr → Pos → Bool) : Bool := if h : e.ctorIdx = 2 then @Expr.BinOp.elim (fun _ => Bool) e h f else false
@[elab_as_elim] theorem xBin_el {e : Expr} {f} {P : Expr → Prop} (h : xBin e f = true) (H : ∀ l op r p, f l op r p = true → P (.BinOp l op r p)) : P e :=
  if q : e.ctorIdx = 2 then @Expr.BinOp.elim (fun e => xBin e f = true → P e) e q (fun l op r p h => H l op r p h) h else absurd (show dite (e.ctorIdx = 2) _ _ = true from h) (by rw [dif_neg q]; decide)
noncomputable def xUn (e : Expr) (f : UnaryOp → Expr → Pos → Bool) : Bool := if h : e.ctorIdx = 3 then @Expr.UnaryOp.elim (fun _ => Bool) e h f else false
@[elab_as_elim] theorem xUn_el {e : Expr} {f} {P : Expr → Prop} (h : xUn e f = true) (H : ∀ op x p, f op x p = true → P (.UnaryOp op x p)) : P e :=
  if q : e.ctorIdx = 3 then @Expr.UnaryOp.elim (fun e => xUn e f = true → P e) e q (fun op x p h => H op x p h) h else absurd (show dite (e.ctorIdx = 3) _ _ = true from h) (by rw [dif_neg q]; decide)
noncomputable def xCmp (e : Expr) (f : Expr → List CmpOp → List Expr → Pos → Bool) : Bool := if h : e.ctorIdx = 15 then @Expr.Compare.elim (fun _ => Bool) e h f else false
@[elab_as_elim] theorem xCmp_el {e : Expr} {f} {P : Expr → Prop} (h : xCmp e f = true) (H : ∀ l ops rs p, f l ops rs p = true → P (.Compare l ops rs p)) : P e :=
  if q : e.ctorIdx = 15 then @Expr.Compare.elim (fun e => xCmp e f = true → P e) e q (fun l ops rs p h => H l ops rs p h) h else absurd (show dite (e.ctorIdx = 15) _ _ = true from h) (by rw [dif_neg q]; decide)
noncomputable def xBool (e : Expr) (f : BoolOp → List Expr → Pos → Bool) : Bool := if h : e.ctorIdx = 0 then @Expr.BoolOp.elim (fun _ => Bool) e h f else false
@[elab_as_elim] theorem xBool_el {e : Expr} {f} {P : Expr → Prop} (h : xBool e f = true) (H : ∀ op vs p, f op vs p = true → P (.BoolOp op vs p)) : P e :=
  if q : e.ctorIdx = 0 then @Expr.BoolOp.elim (fun e => xBool e f = true → P e) e q (fun op vs p h => H op vs p h) h else absurd (show dite (e.ctorIdx = 0) _ _ = true from h) (by rw [dif_neg q]; decide)
noncomputable def xIf (e : Expr) (f : Expr → Expr → Expr → Pos → Bool) : Bool := if h : e.ctorIdx = 5 then @Expr.IfExp.elim (fun _ => Bool) e h f else false
@[elab_as_elim] theorem xIf_el {e : Expr} {f} {P : Expr → Prop} (h : xIf e f = true) (H : ∀ x y z p, f x y z p = true → P (.IfExp x y z p)) : P e :=
  if q : e.ctorIdx = 5 then @Expr.IfExp.elim (fun e => xIf e f = true → P e) e q (fun x y z p h => H x y z p h) h else absurd (show dite (e.ctorIdx = 5) _ _ = true from h) (by rw [dif_neg q]; decide)
noncomputable def xTup (e : Expr) (f : List Expr → Nat → Pos → Bool) : Bool := if h : e.ctorIdx = 25 then @Expr.Tuple.elim (fun _ => Bool) e h f else false
@[elab_as_elim] theorem xTup_el {e : Expr} {f} {P : Expr → Prop} (h : xTup e f = true) (H : ∀ vs k p, f vs k p = true → P (.Tuple vs k p)) : P e :=
  if q : e.ctorIdx = 25 then @Expr.Tuple.elim (fun e => xTup e f = true → P e) e q (fun vs k p h => H vs k p h) h else absurd (show dite (e.ctorIdx = 25) _ _ = true from h) (by rw [dif_neg q]; decide)
noncomputable def xList (e : Expr) (f : List Expr → Pos → Bool) : Bool := if h : e.ctorIdx = 24 then @Expr.List.elim (fun _ => Bool) e h f else false
@[elab_as_elim] theorem xList_el {e : Expr} {f} {P : Expr → Prop} (h : xList e f = true) (H : ∀ vs p, f vs p = true → P (.List vs p)) : P e :=
  if q : e.ctorIdx = 24 then @Expr.List.elim (fun e => xList e f = true → P e) e q (fun vs p h => H vs p h) h else absurd (show dite (e.ctorIdx = 24) _ _ = true from h) (by rw [dif_neg q]; decide)
noncomputable def xSub (e : Expr) (f : Expr → Expr → Pos → Bool) : Bool := if h : e.ctorIdx = 21 then @Expr.Subscript.elim (fun _ => Bool) e h f else false
@[elab_as_elim] theorem xSub_el {e : Expr} {f} {P : Expr → Prop} (h : xSub e f = true) (H : ∀ v s p, f v s p = true → P (.Subscript v s p)) : P e :=
  if q : e.ctorIdx = 21 then @Expr.Subscript.elim (fun e => xSub e f = true → P e) e q (fun v s p h => H v s p h) h else absurd (show dite (e.ctorIdx = 21) _ _ = true from h) (by rw [dif_neg q]; decide)
noncomputable def xSlice (e : Expr) (f : Option Expr → Option Expr → Option Expr → Pos → Bool) : Bool := if h : e.ctorIdx = 26 then @Expr.Slice.elim (fun _ => Bool) e h f else false
@[elab_as_elim] theorem xSlice_el {e : Expr} {f} {P : Expr → Prop} (hh : xSlice e f = true) (H : ∀ l h st p, f l h st p = true → P (.Slice l h st p)) : P e :=
  if q : e.ctorIdx = 26 then @Expr.Slice.elim (fun e => xSlice e f = true → P e) e q (fun l h st p z => H l h st p z) hh else absurd (show dite (e.ctorIdx = 26) _ _ = true from hh) (by rw [dif_neg q]; decide)
noncomputable def xAttr (e : Expr) (f : Expr → Str → Pos → Bool) : Bool := if h : e.ctorIdx = 20 then @Expr.Attribute.elim (fun _ => Bool) e h f else false
@[elab_as_elim] theorem xAttr_el {e : Expr} {f} {P : Expr → Prop} (h : xAttr e f = true) (H : ∀ v x p, f v x p = true → P (.Attribute v x p)) : P e :=
  if q : e.ctorIdx = 20 then @Expr.Attribute.elim (fun e => xAttr e f = true → P e) e q (fun v x p h => H v x p h) h else absurd (show dite (e.ctorIdx = 20) _ _ = true from h) (by rw [dif_neg q]; decide)
noncomputable def xCall (e : Expr) (f : Expr → List Expr → List Keyword → Pos → Bool) : Bool := if h : e.ctorIdx = 16 then @Expr.Call.elim (fun _ => Bool) e h f else false
@[elab_as_elim] theorem xCall_el {e : Expr} {f} {P : Expr → Prop} (h : xCall e f = true) (H : ∀ g vs ks p, f g vs ks p = true → P (.Call g vs ks p)) : P e :=
  if q : e.ctorIdx = 16 then @Expr.Call.elim (fun e => xCall e f = true → P e) e q (fun g vs ks p h => H g vs ks p h) h else absurd (show dite (e.ctorIdx = 16) _ _ = true from h) (by rw [dif_neg q]; decide)
noncomputable def xComp (e : Expr) (f : Expr → List Comprehension → Scope → Pos → Bool) : Bool := if h : e.ctorIdx = 8 then @Expr.ListComp.elim (fun _ => Bool) e h f else false
@[elab_as_elim] theorem xComp_el {e : Expr} {f} {P : Expr → Prop} (h : xComp e f = true) (H : ∀ x gs cs p, f x gs cs p = true → P (.ListComp x gs cs p)) : P e :=
  if q : e.ctorIdx = 8 then @Expr.ListComp.elim (fun e => xComp e f = true → P e) e q (fun x gs cs p h => H x gs cs p h) h else absurd (show dite (e.ctorIdx = 8) _ _ = true from h) (by rw [dif_neg q]; decide)
noncomputable def xDict (e : Expr) (f : List (Option Expr) → List Expr → Pos → Bool) : Bool := if h : e.ctorIdx = 6 then @Expr.Dict.elim (fun _ => Bool) e h f else false
@[elab_as_elim] theorem xDict_el {e : Expr} {f} {P : Expr → Prop} (h : xDict e f = true) (H : ∀ ks vs p, f ks vs p = true → P (.Dict ks vs p)) : P e :=
  if q : e.ctorIdx = 6 then @Expr.Dict.elim (fun e => xDict e f = true → P e) e q (fun ks vs p h => H ks vs p h) h else absurd (show dite (e.ctorIdx = 6) _ _ = true from h) (by rw [dif_neg q]; decide)
noncomputable def yExpr (e : Stmt) (f : Expr → Pos → Bool) : Bool := if h : e.ctorIdx = 24 then @Stmt.Expr.elim (fun _ => Bool) e h f else false
@[elab_as_elim] theorem yExpr_el {e : Stmt} {f} {P : Stmt → Prop} (h : yExpr e f = true) (H : ∀ x p, f x p = true → P (.Expr x p)) : P e :=
  if q : e.ctorIdx = 24 then @Stmt.Expr.elim (fun e => yExpr e f = true → P e) e q (fun x p h => H x p h) h else absurd (show dite (e.ctorIdx = 24) _ _ = true from h) (by rw [dif_neg q]; decide)
noncomputable def yAsg (e : Stmt) (f : List Expr → Expr → Pos → Bool) : Bool := if h : e.ctorIdx = 5 then @Stmt.Assign.elim (fun _ => Bool) e h f else false
@[elab_as_elim] theorem yAsg_el {e : Stmt} {f} {P : Stmt → Prop} (h : yAsg e f = true) (H : ∀ ts v p, f ts v p = true → P (.Assign ts v p)) : P e :=
  if q : e.ctorIdx = 5 then @Stmt.Assign.elim (fun e => yAsg e f = true → P e) e q (fun ts v p h => H ts v p h) h else absurd (show dite (e.ctorIdx = 5) _ _ = true from h) (by rw [dif_neg q]; decide)
noncomputable def yAug (e : Stmt) (f : Expr → Operator → Expr → Pos → Bool) : Bool := if h : e.ctorIdx = 7 then @Stmt.AugAssign.elim (fun _ => Bool) e h f else false
@[elab_as_elim] theorem yAug_el {e : Stmt} {f} {P : Stmt → Prop} (h : yAug e f = true) (H : ∀ t op v p, f t op v p = true → P (.AugAssign t op v p)) : P e :=
  if q : e.ctorIdx = 7 then @Stmt.AugAssign.elim (fun e => yAug e f = true → P e) e q (fun t op v p h => H t op v p h) h else absurd (show dite (e.ctorIdx = 7) _ _ = true from h) (by rw [dif_neg q]; decide)
noncomputable def yRet (e : Stmt) (f : Option Expr → Pos → Bool) : Bool := if h : e.ctorIdx = 3 then @Stmt.Return.elim (fun _ => Bool) e h f else false
@[elab_as_elim] theorem yRet_el {e : Stmt} {f} {P : Stmt → Prop} (h : yRet e f = true) (H : ∀ x p, f x p = true → P (.Return x p)) : P e :=
  if q : e.ctorIdx = 3 then @Stmt.Return.elim (fun e => yRet e f = true → P e) e q (fun x p h => H x p h) h else absurd (show dite (e.ctorIdx = 3) _ _ = true from h) (by rw [dif_neg q]; decide)
noncomputable def yIf (e : Stmt) (f : Expr → List Stmt → List Stmt → Pos → Bool) : Bool := if h : e.ctorIdx = 12 then @Stmt.If.elim (fun _ => Bool) e h f else false
@[elab_as_elim] theorem yIf_el {e : Stmt} {f} {P : Stmt → Prop} (h : yIf e f = true) (H : ∀ x ys zs p, f x ys zs p = true → P (.If x ys zs p)) : P e :=
  if q : e.ctorIdx = 12 then @Stmt.If.elim (fun e => yIf e f = true → P e) e q (fun x ys zs p h => H x ys zs p h) h else absurd (show dite (e.ctorIdx = 12) _ _ = true from h) (by rw [dif_neg q]; decide)
noncomputable def yWhile (e : Stmt) (f : Expr → List Stmt → List Stmt → Pos → Bool) : Bool := if h : e.ctorIdx = 11 then @Stmt.While.elim (fun _ => Bool) e h f else false
@[elab_as_elim] theorem yWhile_el {e : Stmt} {f} {P : Stmt → Prop} (h : yWhile e f = true) (H : ∀ x ys zs p, f x ys zs p = true → P (.While x ys zs p)) : P e :=
  if q : e.ctorIdx = 11 then @Stmt.While.elim (fun e => yWhile e f = true → P e) e q (fun x ys zs p h => H x ys zs p h) h else absurd (show dite (e.ctorIdx = 11) _ _ = true from h) (by rw [dif_neg q]; decide)
noncomputable def yFor (e : Stmt) (f : Expr → Expr → List Stmt → List Stmt → Pos → Bool) : Bool := if h : e.ctorIdx = 9 then @Stmt.For.elim (fun _ => Bool) e h f else false
@[elab_as_elim] theorem yFor_el {e : Stmt} {f} {P : Stmt → Prop} (h : yFor e f = true) (H : ∀ t x ys zs p, f t x ys zs p = true → P (.For t x ys zs p)) : P e :=
  if q : e.ctorIdx = 9 then @Stmt.For.elim (fun e => yFor e f = true → P e) e q (fun t x ys zs p h => H t x ys zs p h) h else absurd (show dite (e.ctorIdx = 9) _ _ = true from h) (by rw [dif_neg q]; decide)
noncomputable def yRaise (e : Stmt) (f : Option Expr → Option Expr → Pos → Bool) : Bool := if h : e.ctorIdx = 16 then @Stmt.Raise.elim (fun _ => Bool) e h f else false
@[elab_as_elim] theorem yRaise_el {e : Stmt} {f} {P : Stmt → Prop} (h : yRaise e f = true) (H : ∀ x c p, f x c p = true → P (.Raise x c p)) : P e :=
  if q : e.ctorIdx = 16 then @Stmt.Raise.elim (fun e => yRaise e f = true → P e) e q (fun x c p h => H x c p h) h else absurd (show dite (e.ctorIdx = 16) _ _ = true from h) (by rw [dif_neg q]; decide)
noncomputable def yTry (e : Stmt) (f : List Stmt → List ExceptHandler → List Stmt → List Stmt → Pos → Bool) : Bool := if h : e.ctorIdx = 17 then @Stmt.Try.elim (fun _ => Bool) e h f else false
@[elab_as_elim] theorem yTry_el {e : Stmt} {f} {P : Stmt → Prop} (h : yTry e f = true) (H : ∀ b hs o f0 p, f b hs o f0 p = true → P (.Try b hs o f0 p)) : P e :=
  if q : e.ctorIdx = 17 then @Stmt.Try.elim (fun e => yTry e f = true → P e) e q (fun b hs o f0 p h => H b hs o f0 p h) h else absurd (show dite (e.ctorIdx = 17) _ _ = true from h) (by rw [dif_neg q]; decide)

section
variable {α : Type}
noncomputable def bC (l : List α) (f : α → List α → Bool) : Bool := match l with | a :: r => f a r | [] => false
noncomputable def b1 (l : List α) (f : α → Bool) : Bool := bC l fun a r => r.isEmpty && f a
noncomputable def b2 (l : List α) (f : α → α → Bool) : Bool := bC l fun a r => b1 r (f a)
noncomputable def bO (o : Option α) (f : α → Bool) : Bool := match o with | some a => f a | none => false
@[elab_as_elim] theorem bC_el {l : List α} {f} {P : List α → Prop} (h : bC l f = true) (H : ∀ a r, f a r = true → P (a :: r)) : P l := by
  cases l with | nil => exact absurd h Bool.false_ne_true | cons a r => exact H a r h
theorem bAnd {a b : Bool} (h : (a && b) = true) : a = true ∧ b = true := Bool.and_eq_true_iff.mp h
@[elab_as_elim] theorem b0_el {l : List α} {P : List α → Prop} (h : l.isEmpty = true) (H : P []) : P l := List.isEmpty_iff.mp h ▸ H
@[elab_as_elim] theorem b1_el {l : List α} {f} {P : List α → Prop} (h : b1 l f = true) (H : ∀ a, f a = true → P [a]) : P l := bC_el h fun a r h => b0_el (bAnd h).1 (H a (bAnd h).2)
@[elab_as_elim] theorem b2_el {l : List α} {f} {P : List α → Prop} (h : b2 l f = true) (H : ∀ a b, f a b = true → P [a, b]) : P l := bC_el h fun a r h => b1_el h fun b h => H a b h
theorem bO_inv {o : Option α} {f} (h : bO o f = true) : ∃ a, o = some a ∧ f a = true := by
  cases o with | none => exact absurd h Bool.false_ne_true | some a => exact ⟨a, rfl, h⟩
end
noncomputable def xCallN (e : Expr) (f : Str → List Expr → Bool) : Bool := xCall e fun g vs ks _ => ks.isEmpty && xName g fun id _ => f id vs
@[elab_as_elim] theorem xCallN_el {e : Expr} {f} {P : Expr → Prop} (h : xCallN e f = true) (H : ∀ id vs ip p, f id vs = true → P (.Call (.Name id ip) vs [] p)) : P e :=
  xCall_el h fun g vs ks p h => b0_el (bAnd h).1 (xName_el (bAnd h).2 fun id ip h => H id vs ip p h)
noncomputable def xCallA (e : Expr) (f : Expr → Str → Pos → List Expr → Pos → Bool) : Bool := xCall e fun g vs ks p => ks.isEmpty && xAttr g fun o x ap => f o x ap vs p
@[elab_as_elim] theorem xCallA_el {e : Expr} {f} {P : Expr → Prop} (h : xCallA e f = true) (H : ∀ o x ap vs p, f o x ap vs p = true → P (.Call (.Attribute o x ap) vs [] p)) : P e :=
  xCall_el h fun g vs ks p h => b0_el (bAnd h).1 (xAttr_el (bAnd h).2 fun o x ap h => H o x ap vs p h)
noncomputable def xLC (e : Expr) (f : Expr → Str → Expr → Scope → Bool) : Bool := xComp e fun x gs cs _ => b1 gs fun c => c.ifs.isEmpty && (c.is_async == 0 && xName c.target fun y _ => f x y c.iter cs)
@[elab_as_elim] theorem xLC_el {e : Expr} {f} {P : Expr → Prop} (h : xLC e f = true) (H : ∀ x y yp it cs p, f x y it cs = true → P (.ListComp x [⟨.Name y yp, it, [], 0⟩] cs p)) : P e :=
  xComp_el h fun x gs cs p h => b1_el h fun c h => by
    obtain ⟨t, it, ifs, ia⟩ := c
    obtain ⟨h1, h2⟩ := bAnd h
    obtain ⟨h2, h3⟩ := bAnd h2
    exact b0_el (P := fun ifs => P (.ListComp x [⟨t, it, ifs, ia⟩] cs p)) h1 (xName_el (P := fun t => P (.ListComp x [⟨t, it, [], ia⟩] cs p)) h3 fun y yp h => by cases (beq_iff_eq.mp h2 : ia = 0); exact H x y yp it cs p h)

noncomputable def opOf : BO → Operator
  | .add => .Add | .sub => .Sub | .mul => .Mult | .fdiv => .FloorDiv | .mod => .Mod | .pow => .Pow | .band => .BitAnd | .bor => .BitOr | .bxor => .BitXor
noncomputable def cpOf : CO → CmpOp
  | .eq => .Eq | .ne => .NotEq | .lt => .Lt | .le => .LtE | .gt => .Gt | .ge => .GtE | .mem => .In | .nmem => .NotIn
noncomputable def bmN : BM → Str
  | .lower => "lower" | .strip => "strip" | .find => "find" | .join => "join" | .get1 => "get" | .get2 => "get" | .append => "append"
noncomputable def gl (sc : Scope) (id : Str) : Bool := sc.names.lookup id == some .globalImplicit && !(id == ("__debug__" : Str))
noncomputable def plainE (e : Expr) : Bool := !([22, 8, 9, 10, 7, 11, 13, 12, 14, 4].contains e.ctorIdx)
noncomputable def unstar (e : Expr) : Bool := e.ctorIdx != 22
noncomputable def noSuper (e : Expr) : Bool := !(e.ctorIdx == 16 && xCallN e fun _ vs => vs.isEmpty)
noncomputable def compB (sc : Scope) (x : Str) : Bool :=
  sc.kind == .function && sc.names.all (fun y => y.2 != .free) && sc.names.all (fun y => y.2 != .cell) && sc.names.all (fun y => y.2 != .local || sc.names.lookup y.1 == some .local) &&
    sc.names.lookup x == some .local && !(x == ("__debug__" : Str))
noncomputable def keysOf : List (Option Expr) → Option (List Expr)
  | [] => some []
  | o :: r => (match o with | some e => (keysOf r).map (e :: ·) | none => none)
noncomputable def litB (d : D) (c : Const) : Bool := match d with
  | .none => c == .none
  | .bool b => c == .bool b
  | .int i => c == .int i
  | .str x => c == .str (toS x)
  | _ => false
noncomputable def isNoLit (c : CE) : Bool := match c with | .lit d => (match d with | .none => true | _ => false) | _ => false

section
variable (B : Tb) (sc : Scope) (nm : List Str)
mutual
noncomputable def agE : CE → Expr → Bool
  | .loc i, e => xName e fun id _ => nm[i]? == some id
  | .glob g, e => xName e fun id _ => id == B.glN g && gl sc id && decide (g < B.nGl)
  | .lit d, e => xConst e fun c _ _ => litB d c
  | .bin o a b, e => xBin e fun l op r _ => op == opOf o && plainE l && plainE r && agE a l && agE b r
  | .neg a, e => xUn e fun op x _ => op == .USub && agE a x
  | .not a, e => xUn e fun op x _ => op == .Not && agE a x
  | .cmp o a b, e => xCmp e fun l ops rs _ => ops == [cpOf o] && b1 rs fun r => plainE r && agE a l && agE b r
  | .btw a b c, e => xCmp e fun l ops rs _ => ops == [.Lt, .Lt] && b2 rs fun m r => plainE m && plainE r && agE a l && agE b m && agE c r
  | .isN p a, e => xCmp e fun l ops rs _ => ops == [if p then .Is else .IsNot] && (agE a l && b1 rs fun r => xConst r fun c _ _ => c == .none)
  | .and es, e => xBool e fun op vs _ => op == .And && agL es vs
  | .or es, e => xBool e fun op vs _ => op == .Or && agL es vs
  | .ite t a b, e => xIf e fun x y z _ => agE t x && agE a y && agE b z
  | .tup es, e => xTup e fun vs _ _ => agL es vs
  | .lst es, e => xList e fun vs _ => agL es vs
  | .sub a i, e => xSub e fun v s _ => s.ctorIdx != 26 && agE a v && agE i s
  | .slice a lo hi, e => xSub e fun v s _ => agE a v && xSlice s fun l h st _ => st.isNone && (match l with | none => isNoLit lo | some l => agE lo l) && (match h with | none => isNoLit hi | some h => agE hi h)
  | .attr a n, e => xAttr e fun v x _ => x == B.atN n && noSuper v && decide (n < B.nAt) && agE a v
  | .call f es, e => xCallN e fun id vs => id == B.fnN f && gl sc id && decide (f < B.nFn) && agL es vs
  | .node es, e => xCallN e fun id vs => id == ("Node" : Str) && gl sc id && agL es vs
  | .mk c es, e => xCallN e fun id vs => id == B.clN c && gl sc id && decide (c < B.nCl) && agL es vs
  | .meth a n es, e => xCallA e fun o x ap vs pos => x == B.atN n && ap.endLine == pos.line && noSuper o && decide (vs.length < 20) && decide (n < B.nMt) && agE a o && agL es vs
  | .bmeth a m es, e => xCallA e fun o x ap vs pos => x == bmN m && ap.endLine == pos.line && noSuper o && decide (vs.length < 20) && agE a o && agL es vs
  | .bif f es, e => xCallN e fun id vs => id == bfN f && gl sc id && (match f with
      | .isStr => b2 vs fun v st => agL es [v] && xName st fun st _ => st == ("str" : Str) && gl sc st
      | _ => agL es vs)
  | .csub s k, e => xLC e fun x y it cs => plainE it && agE s it && xSub x fun v t _ => (xName v fun x _ => x == y && compB cs x) && xConst t fun c _ _ => c == .int (k : Int)
  | .cmod s k, e => xLC e fun x y it cs => plainE it && agE s it && xBin x fun v op t _ => op == .Mod && (xName v fun x _ => x == y && compB cs x) && xConst t fun c _ _ => c == .int k
  | .cin s t, e => xLC e fun x y it cs => plainE it && agE s it && xCmp x fun v ops rs _ => ops == [.In] && (xName v fun x _ => x == y && compB cs x) && b1 rs fun r => xConst r fun c _ _ => c == .str (toS t)
  | .pref a, e => xCallA e fun o x ap vs pos => x == ("get" : Str) && ap.endLine == pos.line && (xName o fun id _ => id == ("PREFIX_BASES" : Str) && gl sc id) && b2 vs fun v d => unstar v && agE a v && xConst d fun c _ _ => c == .int 10
  | .mlist es, e => xList e fun vs _ => agL es vs
  | .mcat a b, e => xBin e fun l op r _ => op == .Add && plainE l && plainE r && agE a l && agE b r
  | .mdict b ks es, e => xDict e fun ko vs _ => bO (keysOf ko) fun kl => agL ks kl && agL es vs && decide (kl.length = vs.length)
  | .nil, _ => false
  | .cons _ _, _ => false
  | .dead, _ => true
noncomputable def agL : CE → List Expr → Bool
  | .nil, es => es.isEmpty
  | .cons a r, es => bC es fun e es => unstar e && agE a e && agL r es
  | _, _ => false
end
end
end
section
set_option genCtorIdx false
set_option genSizeOf false
set_option genInjectivity false

theorem Sz.line {n : Nat} (h : Sz n) : n ≤ sizeLine := by rw [sizeLine_eq]; exact h
theorem B64.bits {i : Int} (h : B64 i) : Builtin.Int.intBits i ≤ 64 := intBits_le_64 (by have := h.1; omega) (by have := h.2; omega)
theorem B64.abs {i : Int} (h : B64 i) : i.natAbs < 2 ^ 64 := by have h1 := h.1; have h2 := h.2; omega
theorem B64.log {i : Int} (h : B64 i) : i.natAbs.log2 < 64 := by
  by_cases q : i.natAbs = 0
  · rw [q]; decide
  · exact (Nat.log2_lt q).mpr h.abs

section
variable (X : Cx) (fr : Fm) (m : Str → Option Value) (loc : Loc)
inductive VQ (h₀ : Heap) (lay₀ : Lay) (k : KV) (v : Value) (s' : Shared) : Prop where
  | mk (d : D) (σ' : Sto) (lay' : Lay) (S : St X fr m loc lay' σ' s') (E : Evo fr.ban (some fr.L) lay₀ lay' h₀ s'.heap) (R : Rep X s'.heap lay' fr.ban d v) (K : k d σ') : VQ h₀ lay₀ k v s'
inductive BQ (h₀ : Heap) (lay₀ : Lay) (k : Bool → Sto → Prop) (b : Bool) (s' : Shared) : Prop where
  | mk (σ' : Sto) (lay' : Lay) (S : St X fr m loc lay' σ' s') (E : Evo fr.ban (some fr.L) lay₀ lay' h₀ s'.heap) (K : k b σ') : BQ h₀ lay₀ k b s'
inductive Traced (h₀ : Heap) (c : Nat) (v : Value) (h : Heap) : Prop where
  | mk (e : Addr) (a0 : Value) (hv : v = .ref e) (n : h₀.get? e = none) (T : h.TracedW h₀ e (.ref (X.B.clsA c)) a0) : Traced h₀ c v h
inductive XQ (h₀ : Heap) (lay₀ : Lay) (x : KX) (v : Value) (s' : Shared) : Prop where
  | mk (c : Nat) (σ' : Sto) (lay' : Lay) (S : St X fr m loc lay' σ' s') (E : Evo fr.ban (some fr.L) lay₀ lay' h₀ s'.heap) (T : Traced X h₀ c v s'.heap) (K : x c σ') : XQ h₀ lay₀ x v s'
end

section
variable {X : Cx} {fr : Fm} {m : Str → Option Value} {loc : Loc} {lay : Lay} {σ : Sto} {s : Shared} {A : Around} {E : Value → Shared → Prop}

theorem VQ.back {h₀ h₁ lay₀ lay₁ k v s'} (e : Evo fr.ban (some fr.L) lay₀ lay₁ h₀ h₁) (q : VQ X fr m loc h₁ lay₁ k v s') : VQ X fr m loc h₀ lay₀ k v s' := by
  obtain ⟨d, σ', lay', S, E, R, K⟩ := q; exact ⟨d, σ', lay', S, e.trans E, R, K⟩
theorem BQ.back {h₀ h₁ lay₀ lay₁ k v s'} (e : Evo fr.ban (some fr.L) lay₀ lay₁ h₀ h₁) (q : BQ X fr m loc h₁ lay₁ k v s') : BQ X fr m loc h₀ lay₀ k v s' := by
  obtain ⟨σ', lay', S, E, K⟩ := q; exact ⟨σ', lay', S, e.trans E, K⟩
theorem TracedW.back {ban L} {h₀ h₁ h : Heap} {lay₀ lay₁} {e : Addr} {a0 c : Value} (x : Evo ban L lay₀ lay₁ h₀ h₁) (q : h.TracedW h₁ e c a0) : h.TracedW h₀ e c a0 := by
  obtain ⟨oe, vs, T, oT, ts, he, hc, hd, h1, hT, r⟩ := q
  exact ⟨oe, vs, T, oT, ts, he, hc, hd, h1, x.gone hT, r⟩
theorem Traced.back {ban L h₀ h₁ lay₀ lay₁ c v h} (e : Evo ban L lay₀ lay₁ h₀ h₁) (q : Traced X h₁ c v h) : Traced X h₀ c v h := by
  obtain ⟨ex, a0, hv, hn, r⟩ := q; exact ⟨ex, a0, hv, e.gone hn, TracedW.back e r⟩
theorem XQ.back {h₀ h₁ lay₀ lay₁ x v s'} (e : Evo fr.ban (some fr.L) lay₀ lay₁ h₀ h₁) (q : XQ X fr m loc h₁ lay₁ x v s') : XQ X fr m loc h₀ lay₀ x v s' := by
  obtain ⟨d, σ', lay', S, E, R, K⟩ := q; exact ⟨d, σ', lay', S, e.trans E, R.back e, K⟩

theorem St.vq (S : St X fr m loc lay σ s) {k : KV} {d : D} {v : Value} {t : Nat} (R : Rep X s.heap lay fr.ban d v) (h : k d σ) : VQ X fr m loc s.heap lay k v { s with toks := t } :=
  ⟨d, σ, lay, S.same rfl rfl rfl, Evo.refl, R, h⟩
theorem St.bq (S : St X fr m loc lay σ s) {k : Bool → Sto → Prop} {b : Bool} {t : Nat} (h : k b σ) : BQ X fr m loc s.heap lay k b { s with toks := t } :=
  ⟨σ, lay, S.same rfl rfl rfl, Evo.refl, h⟩
theorem St.vqI (S : St X fr m loc lay σ s) {k : KV} {i : Int} {u : Nat} {t : Nat} (h : k (.int i) σ) : VQ X fr m loc s.heap lay k (.int i u) { s with toks := t } :=
  S.vq (d := .int i) ⟨_, rfl⟩ h
theorem St.vqS (S : St X fr m loc lay σ s) {k : KV} {x : Tx} {u : Nat} {t : Nat} (h : k (.str x) σ) : VQ X fr m loc s.heap lay k (.str (toS x) u) { s with toks := t } :=
  S.vq (d := .str x) ⟨_, rfl⟩ h
theorem St.vqB (S : St X fr m loc lay σ s) {k : KV} {b : Bool} {t : Nat} (h : k (.bool b) σ) : VQ X fr m loc s.heap lay k (.bool b) { s with toks := t } :=
  S.vq (d := .bool b) rfl h
theorem St.vqN (S : St X fr m loc lay σ s) {k : KV} {t : Nat} (h : k .none σ) : VQ X fr m loc s.heap lay k .none { s with toks := t } :=
  S.vq (d := .none) rfl h

theorem St.made (S : St X fr m loc lay σ s) {o : Obj} {s' : Shared} (F : Fr X.base fr.L s'.heap m) (N : News X.base fr.L s'.heap ((s.heap.objs.size, o) :: full X fr.L s.heap)) (hg : s'.gens = s.gens) (ho : s'.os = s.os) :
    St X fr m loc lay σ s' ∧ Evo fr.ban (some fr.L) lay lay s.heap s'.heap ∧ s'.heap.get? s.heap.objs.size = some o ∧ Free lay fr.ban s.heap.objs.size :=
  have q := S.step F (fun p hp => N p (.tail _ hp)) hg ho
  ⟨q.1, q.2, (N _ (.head _)).1, S.freeNew (none_size _)⟩

theorem newTuple_sound (S : St X fr m loc lay σ s) {k : KV} {l : List D} {vs : List Value} (R : RepL X s.heap lay fr.ban l vs) (h : ckz l.length (k (.tup l) σ)) :
    wpAny (model X.prog X.w) A (newTuple vs) (VQ X fr m loc s.heap lay k) E s :=
  newTuple_N S.toFr full_news (fun h' F' N' =>
    have q := S.made (s' := { s with heap := h' }) F' N' rfl rfl
    ⟨.tup l, σ, lay, q.1, q.2.1, ⟨_, vs, rfl, ⟨_, _, q.2.2.2, _, q.2.2.1⟩, R.evo q.2.1⟩, ckk h⟩) (R.length ▸ (ckp h).line)
theorem newList_sound (S : St X fr m loc lay σ s) {k : KV} {l : List D} {vs : List Value} (R : RepL X s.heap lay fr.ban l vs) (h : ckz l.length (k (.lst l) σ)) :
    wpAny (model X.prog X.w) A (newList vs) (VQ X fr m loc s.heap lay k) E s :=
  newList_N S.toFr full_news (fun h' F' N' =>
    have q := S.made (s' := { s with heap := h' }) F' N' rfl rfl
    ⟨.lst l, σ, lay, q.1, q.2.1, ⟨_, vs, rfl, ⟨_, _, q.2.2.2, _, q.2.2.1⟩, R.evo q.2.1⟩, ckk h⟩) (R.length ▸ (ckp h).line)

theorem SeqIs.tup {h : Heap} {lay ban a vs} (I : SeqIs h lay ban "tuple" a vs) : IsTup h a vs.toArray := by obtain ⟨n, _, _, _, e⟩ := I; exact ⟨_, e, rfl, n, rfl⟩
theorem SeqIs.lst {h : Heap} {lay ban a vs} (I : SeqIs h lay ban "list" a vs) : h.IsList a vs.toArray := by obtain ⟨n, _, _, _, e⟩ := I; exact ⟨_, e, rfl, n, rfl⟩

/-! what a datum is, told to a goal -/
section
variable {h : Heap} {ban : List Addr} {d e : D} {v u : Value} {P : Value → Prop} {P2 : Value → Value → Prop}
@[elab_as_elim] theorem onN_el {p : Prop} (H : onN d p) (R : Rep X h lay ban d v) (q : p → P .none) : P v := by obtain ⟨rfl, H⟩ := onN_inv H; exact R.none (q H)
@[elab_as_elim] theorem onB_el {f} (H : onB d f) (R : Rep X h lay ban d v) (q : ∀ b, f b → P (.bool b)) : P v := by obtain ⟨b, rfl, H⟩ := onB_inv H; exact R.bool (q b H)
@[elab_as_elim] theorem onI_el {f} (H : onI d f) (R : Rep X h lay ban d v) (q : ∀ i t, f i → P (.int i t)) : P v := by obtain ⟨b, rfl, H⟩ := onI_inv H; exact R.int fun t => q b t H
@[elab_as_elim] theorem onS_el {f} (H : onS d f) (R : Rep X h lay ban d v) (q : ∀ x t, f x → P (.str (toS x) t)) : P v := by obtain ⟨b, rfl, H⟩ := onS_inv H; exact R.str fun t => q b t H
@[elab_as_elim] theorem onT_el {f} (H : onT d f) (R : Rep X h lay ban d v) (q : ∀ l a vs, f l → SeqIs h lay ban "tuple" a vs → RepL X h lay ban l vs → P (.ref a)) : P v := by
  obtain ⟨b, rfl, H⟩ := onT_inv H; exact R.tup fun a vs I L => q b a vs H I L
@[elab_as_elim] theorem onL_el {f} (H : onL d f) (R : Rep X h lay ban d v) (q : ∀ l a vs, f l → SeqIs h lay ban "list" a vs → RepL X h lay ban l vs → P (.ref a)) : P v := by
  obtain ⟨b, rfl, H⟩ := onL_inv H; exact R.lst fun a vs I L => q b a vs H I L
@[elab_as_elim] theorem onH_el {f} (H : onH d f) (R : Rep X h lay ban d v) (q : ∀ n p, f n → lay[n]? = some p → P (.ref p.1)) : P v := by
  obtain ⟨b, rfl, H⟩ := onH_inv H; exact R.ofH fun p e => q b p H e
@[elab_as_elim] theorem onII_el {f} (H : onII d e f) (R : Rep X h lay ban d v) (Q : Rep X h lay ban e u) (q : ∀ i j t t', f i j → P2 (.int i t) (.int j t')) : P2 v u :=
  onI_el H R fun i t H => onI_el H Q fun j t' H => q i j t t' H
@[elab_as_elim] theorem onSS_el {f : Tx → Tx → Prop} (H : onS d fun a => onS e (f a)) (R : Rep X h lay ban d v) (Q : Rep X h lay ban e u) (q : ∀ x y t t', f x y → P2 (.str (toS x) t) (.str (toS y) t')) : P2 v u :=
  onS_el H R fun i t H => onS_el H Q fun j t' H => q i j t t' H
@[elab_as_elim] theorem RepL.one {vs : List Value} {P : List Value → Prop} (R : RepL X h lay ban [d] vs) (q : ∀ v, Rep X h lay ban d v → P [v]) : P vs := R.uncons fun v us r R => R.unnil (q v r)
@[elab_as_elim] theorem RepL.two {vs : List Value} {P : List Value → Prop} (R : RepL X h lay ban [d, e] vs) (q : ∀ v u, Rep X h lay ban d v → Rep X h lay ban e u → P [v, u]) : P vs := R.uncons fun v us r R => R.one fun u r' => q v u r r'
end

theorem add_sound (S : St X fr m loc lay σ s) {d e : D} {v u : Value} {k : KV} (R : Rep X s.heap lay fr.ban d v) (Q : Rep X s.heap lay fr.ban e u) (h : addP d e fun r => k r σ) :
    wpAny (model X.prog X.w) A (binaryOp .Add v u) (VQ X fr m loc s.heap lay k) E s := by
  cases d with
  | int a => exact R.int fun t => onI_el h Q fun b t' h => PyProof.Rows.add_int (S.vqI h)
  | str a => exact R.str fun t => onS_el h Q fun b t' h => PyProof.Rows.add_str (fun t' tk => (toS_append a b).symm ▸ S.vqS (ckk h)) (by rw [toS_len, toS_len]; exact (ckp h).line)
  | lst a => exact R.lst fun a1 vs I1 R1 => onL_el h Q fun b a2 ws h I2 R2 =>
      add_lists S.toFr full_news I1.lst I2.lst (fun h' F' N' =>
        have q := S.made (s' := { s with heap := h' }) F' N' rfl rfl
        ⟨.lst (a ++ b), σ, lay, q.1, q.2.1, ⟨_, _, rfl, ⟨_, _, q.2.2.2, _, q.2.2.1⟩, (R1.append R2).evo q.2.1⟩, ckk h⟩) (R1.length ▸ R2.length ▸ (ckp h).line)
  | _ => exact h.elim
theorem pow_fits {a b : Int} (h : B64 a ∧ 0 ≤ b ∧ b ≤ 1000) : (Builtin.Int.intBits a : Int) * b ≤ 2 ^ 27 := by
  have h1 : ((Builtin.Int.intBits a : Nat) : Int) ≤ 64 := by have := h.1.bits; omega
  have h4 : (Builtin.Int.intBits a : Int) * b ≤ 64 * b := Int.mul_le_mul_of_nonneg_right h1 h.2.1
  have := h.2.2
  omega
theorem bin_sound (S : St X fr m loc lay σ s) {o : BO} {d e : D} {v u : Value} {k : KV} (R : Rep X s.heap lay fr.ban d v) (Q : Rep X s.heap lay fr.ban e u) (h : binP o d e fun r => k r σ) :
    wpAny (model X.prog X.w) A (binaryOp (opOf o) v u) (VQ X fr m loc s.heap lay k) E s := by
  cases o with
  | add => exact add_sound S R Q h
  | sub => exact onII_el h R Q fun a b t t' h => PyProof.Rows.sub_int' (S.vqI h)
  | mul => exact onII_el h R Q fun a b t t' h => PyProof.Rows.mul_int (S.vqI h.2.2) (IntMulOk.of_left h.1.bits)
  | fdiv => exact onII_el h R Q fun a b t t' h => PyProof.Rows.floordiv_int (ckp h).2 (S.vqI (ckk h)) (.inl (PyProof.noPylong_of_log2 (Nat.lt_trans (ckp h).1.log (by decide))))
  | mod => exact onII_el h R Q fun a b t t' h => PyProof.Rows.mod_int' (ckp h).2 (S.vqI (ckk h))
  | pow => exact onII_el h R Q fun a b t t' h => PyProof.Rows.pow_int h.2.1 (pow_fits ⟨h.1, h.2.1, h.2.2.1⟩) (S.vqI h.2.2.2)
  | band => exact onII_el h R Q fun a b t t' h => PyProof.Rows.and_int (S.vqI h)
  | bor => exact onII_el h R Q fun a b t t' h => PyProof.Rows.or_int (S.vqI h)
  | bxor => exact onII_el h R Q fun a b t t' h => PyProof.Rows.xor_int (S.vqI h)

theorem inp_sound (S : St X fr m loc lay σ s) {o : BO} {d e : D} {v u : Value} {k : KV} (R : Rep X s.heap lay fr.ban d v) (Q : Rep X s.heap lay fr.ban e u) (h : inpP o d e fun r => k r σ) :
    wpAny (model X.prog X.w) A (inplaceOp (opOf o) v u) (VQ X fr m loc s.heap lay k) E s := by
  cases o with
  | add => cases d with
    | int a => exact R.int fun t => onI_el h Q fun b t' h => PySem.P.iadd_int (S.vqI h)
    | str a => exact R.str fun t => onS_el h Q fun b t' h => PyProof.Rows.iadd_str (fun t' tk => (toS_append a b).symm ▸ S.vqS (ckk h)) (by rw [toS_len, toS_len]; exact (ckp h).line)
    | _ => exact h.elim
  | sub => cases d with
    | int a => exact R.int fun t => onI_el h Q fun b t' h => PySem.P.isub_int (S.vqI h)
    | _ => exact h.elim
  | _ => exact h.elim
end
end
section
open PySem.SeqAt
section
variable {X : Cx} {fr : Fm} {m : Str → Option Value} {loc : Loc} {lay : Lay} {σ : Sto} {s : Shared} {A : Around} {E : Value → Shared → Prop}

theorem toS_beq (a b : Tx) : (toS a == toS b) = (a == b) := by
  rw [Bool.eq_iff_iff, beq_iff_eq, beq_iff_eq]
  exact ⟨toS_inj, fun h => h ▸ rfl⟩

theorem eqA_sound {h ban a b v u p} (R : Rep X h lay ban a v) (Q : Rep X h lay ban b u) (e : eqA a b = some p) : EqAt A s v u p := by
  cases a with
  | int i => cases b with
    | int j => exact R.int fun t => Q.int fun t' => (Option.some.inj e) ▸ (MeetsSeq.EqGives.int _ _ _ _).at A s
    | _ => cases e
  | str x => cases b with
    | str y => exact R.str fun t => Q.str fun t' => (Option.some.inj ((congrArg some (toS_beq x y)).trans e)) ▸ (eqGives_str _ _ _ _).at A s
    | _ => cases e
  | _ => cases e

theorem pairs_eq {v u v' u' : Value} {p q : Bool} (h1 : EqAt A.in1 s v v' p) (h2 : EqAt A.in1 s u u' q) :
    ∀ j (h1 : j < ([v, u].toArray).size) (h2 : j < ([v', u'].toArray).size), EqAt A.in1 s [v, u].toArray[j] [v', u'].toArray[j] (if j = 0 then p else q)
  | 0, _, _ => h1
  | 1, _, _ => h2
  | n + 2, a, _ => absurd a (by simp)
theorem pairs_all {v u v' u' : Value} {p q : Bool} : ((List.range (min [v, u].toArray.size [v', u'].toArray.size)).all (fun j => if j = 0 then p else q) && [v, u].toArray.size == [v', u'].toArray.size) = (p && q) := by
  cases p <;> cases q <;> rfl
theorem at_get {σ : Sto} {n : Nat} {mo : MO} (hn : n < σ.length) (e : σ.at n = mo) : σ[n]? = some mo := by
  rw [List.getElem?_eq_getElem hn, ← e]
  unfold Sto.at
  rw [List.getD_eq_getElem?_getD, List.getElem?_eq_getElem hn, Option.getD_some]
theorem lay_sys (S : St X fr m loc lay σ s) (hs : True) {p : Addr × Addr} (e : p.2 = p.1) (hp : p ∈ lay) : (p.1 == sysModules) = false := S.g.sys.2 p hp e
theorem St.list (S : St X fr m loc lay σ s) {n : Nat} {p : Addr × Addr} (hn : n < σ.length) (hp : lay[n]? = some p) {f} (h : moL (σ.at n) f) : ∃ l, ListRep X s.heap lay fr.ban l p ∧ f l := by
  obtain ⟨l, e, h⟩ := moL_inv h; exact ⟨l, S.g.sto n _ p (at_get hn e) hp, h⟩
theorem St.sdict (S : St X fr m loc lay σ s) {n : Nat} {p : Addr × Addr} (hn : n < σ.length) (hp : lay[n]? = some p) {f} (h : moS (σ.at n) f) : ∃ l, SdRep X s.heap lay fr.ban l p ∧ f l := by
  obtain ⟨l, e, h⟩ := moS_inv h; exact ⟨l, S.g.sto n _ p (at_get hn e) hp, h⟩
theorem St.idict (S : St X fr m loc lay σ s) {n : Nat} {p : Addr × Addr} (hn : n < σ.length) (hp : lay[n]? = some p) {f} (h : moD (σ.at n) f) : ∃ l, IdRep X s.heap lay fr.ban l p ∧ f l := by
  obtain ⟨l, e, h⟩ := moD_inv h; exact ⟨l, S.g.sto n _ p (at_get hn e) hp, h⟩
theorem St.inst (S : St X fr m loc lay σ s) {n : Nat} {p : Addr × Addr} (hn : n < σ.length) (hp : lay[n]? = some p) {f} (h : moI (σ.at n) f) : ∃ c l, InstRep X s.heap lay fr.ban c l p ∧ f c l := by
  obtain ⟨c, l, e, h⟩ := moI_inv h; exact ⟨c, l, S.g.sto n _ p (at_get hn e) hp, h⟩

theorem eq_both (S : St X fr m loc lay σ s) (hu : A.units < cLine) {d e : D} {v u : Value} {k : Bool → Prop} (R : Rep X s.heap lay fr.ban d v) (Q : Rep X s.heap lay fr.ban e u) (h : eqP σ d e k) (P : Value → Shared → Prop) :
    ∃ t, k t ∧ (P (.bool t) s → wpAny (model X.prog X.w) A (compareOp .Eq v u) P E s) ∧ (noH d True → P (.bool (!t)) s → wpAny (model X.prog X.w) A (compareOp .NotEq v u) P E s) := by
  cases d with
  | none => exact R.none (onN_el h Q fun h => ⟨_, h, PySem.EqNone.eq_none_none, fun _ => PySem.EqNone.ne_none_none⟩)
  | bool a => exact R.bool (onB_el h Q fun b h => ⟨_, h, PyProof.Rows.eq_bool, fun _ => PyProof.Rows.ne_bool⟩)
  | int a => exact R.int fun t => onI_el h Q fun b t' h => ⟨_, h, PySem.P.eq_int, fun _ => PySem.P.ne_int⟩
  | str a => exact R.str fun t => onS_el h Q fun b t' h => ⟨_, h, toS_beq a b ▸ PyProof.Rows.eq_str, fun _ => toS_beq a b ▸ PyProof.Rows.ne_str⟩
  | tup l =>
    exact R.tup fun a1 vs I1 R1 => onT_el h Q fun r a2 ws h I2 R2 => by
      obtain ⟨a, b, rfl, h1⟩ := on2_inv h
      obtain ⟨c, d, rfl, h2⟩ := on2_inv h1
      obtain ⟨p, e1, h3⟩ := onO_inv h2
      obtain ⟨q, e2, h⟩ := onO_inv h3
      revert I1 I2
      exact R1.two fun v u ra rb => R2.two fun v' u' ra' rb' => fun I1 I2 => ⟨_, h, fun hk => eq_tupleAt I1.tup I2.tup hu (pairs_eq (eqA_sound ra ra' e1) (eqA_sound rb rb' e2)) (by rw [pairs_all]; exact hk),
        fun _ hk => RcNeAt.tuples I1.tup I2.tup hu (pairs_eq (eqA_sound ra ra' e1) (eqA_sound rb rb' e2)) _ _ _ _ (by rw [pairs_all]; exact hk)⟩
  | h n =>
    exact R.ofH fun p hp => onL_el h Q fun l a2 ws h I2 R2 => by
      obtain ⟨rfl, hσ, hn, h⟩ := onE_inv h
      obtain ⟨_, vs, c, I1, R1⟩ := S.g.sto n _ p (at_get hn hσ) hp
      cases R1; cases R2
      exact ⟨_, h, fun hk => eq_listAt (e := fun _ => true) ⟨_, I1, rfl, _, rfl⟩ I2.lst rfl hu (fun j h1 => absurd h1 (Nat.not_lt_zero _)) hk, fun q => q.elim⟩
  | _ => exact h.elim
theorem eq_sound (S : St X fr m loc lay σ s) (hu : A.units < cLine) {d e : D} {v u : Value} {k : Bool → Prop} (R : Rep X s.heap lay fr.ban d v) (Q : Rep X s.heap lay fr.ban e u) (h : eqP σ d e k) {P : Value → Shared → Prop}
    (hk : ∀ t, k t → P (.bool t) s) : wpAny (model X.prog X.w) A (compareOp .Eq v u) P E s := by
  obtain ⟨t, kt, q⟩ := eq_both S hu R Q h P
  exact q.1 (hk t kt)
theorem noH_inv {d : D} {p : Prop} (h : noH d p) : noH d True ∧ p := by cases d <;> first | exact ⟨trivial, h⟩ | exact h.elim
theorem ne_sound (S : St X fr m loc lay σ s) (hu : A.units < cLine) {d e : D} {v u : Value} {k : Bool → Prop} (R : Rep X s.heap lay fr.ban d v) (Q : Rep X s.heap lay fr.ban e u) (h : noH d (eqP σ d e k)) {P : Value → Shared → Prop}
    (hk : ∀ t, k t → P (.bool (!t)) s) : wpAny (model X.prog X.w) A (compareOp .NotEq v u) P E s := by
  obtain ⟨t, kt, q⟩ := eq_both S hu R Q (noH_inv h).2 P
  exact q.2 (noH_inv h).1 (hk t kt)

theorem strMem_rep {h ban} {x : Tx} : ∀ {l : List D} {vs b}, RepL X h lay ban l vs → strMem x l = some b → (∀ y ∈ vs, ∀ t, MeetsSeq.EqGives y (.str (toS x) t) (isStrOf (toS x) y)) ∧ vs.any (isStrOf (toS x)) = b
  | [], vs, b, R, e => R.unnil ⟨(fun _ h => nomatch h), Option.some.inj e⟩
  | d :: l, vs, b, R, e => R.uncons fun v vs r R2 => by
    cases d with
    | str y =>
      obtain ⟨b', e', rfl⟩ := Option.map_eq_some_iff.mp e
      have q := strMem_rep R2 e'
      refine r.str fun t0 => ⟨fun z hz t => ?_, ?_⟩
      · rcases List.mem_cons.mp hz with rfl | hz
        · exact eqGives_str _ _ _ _
        · exact q.1 z hz t
      · rw [List.any_cons, q.2]
        show (toS y == toS x || b') = _
        rw [toS_beq, Bool.beq_comm]
    | _ => cases e
noncomputable def isIntOf (k : Int) (v : Value) : Bool := match v with
  | .int i _ => i == k
  | _ => false
theorem intMem_rep {h ban} {x : Int} : ∀ {l : List D} {vs b}, RepL X h lay ban l vs → intMem x l = some b → (∀ y ∈ vs, ∀ t, MeetsSeq.EqGives y (.int x t) (isIntOf x y)) ∧ vs.any (isIntOf x) = b
  | [], vs, b, R, e => R.unnil ⟨(fun _ h => nomatch h), Option.some.inj e⟩
  | d :: l, vs, b, R, e => R.uncons fun v vs r R2 => by
    cases d with
    | int y =>
      obtain ⟨b', e', rfl⟩ := Option.map_eq_some_iff.mp e
      have q := intMem_rep R2 e'
      refine r.int fun t0 => ⟨fun z hz t => ?_, ?_⟩
      · rcases List.mem_cons.mp hz with rfl | hz
        · exact MeetsSeq.EqGives.int _ _ _ _
        · exact q.1 z hz t
      · rw [List.any_cons, q.2]
        show (y == x || b') = _
        rw [Bool.beq_comm]
    | _ => cases e
theorem ORep.isSome {h ban o w} (r : ORep X h lay ban o w) : w.isSome = o.isSome := by
  cases o with
  | none => exact r ▸ rfl
  | some d => obtain ⟨v, e, _⟩ := r; exact e ▸ rfl

theorem mem_both (S : St X fr m loc lay σ s) {d e : D} {v u : Value} {k : Bool → Prop} (R : Rep X s.heap lay fr.ban d v) (Q : Rep X s.heap lay fr.ban e u) (h : memP σ d e k) :
    ∃ t, k t ∧ ∀ {P : Value → Shared → Prop}, ((∀ tk, P (.bool t) { s with toks := tk }) → wpAny (model X.prog X.w) A (compareOp .In v u) P E s) ∧ ((∀ tk, P (.bool (!t)) { s with toks := tk }) → wpAny (model X.prog X.w) A (compareOp .NotIn v u) P E s) := by
  cases d with
  | str x =>
    exact R.str fun t0 => by
      cases e with
      | str y =>
        exact Q.str fun t1 => by
          obtain ⟨c, rfl, h⟩ := on1_inv h
          have e : decide (c ∈ (toS y).cps.toList) = y.contains c := by rw [Bool.eq_iff_iff, decide_eq_true_iff]; simp [toS]
          exact ⟨_, h, fun {P} => ⟨fun hk => PyProof.Rows.in_str (by rw [show toS [c] = ⟨#[c]⟩ from rfl, StrLaws.found_one, e]; exact hk s.toks),
            fun hk => PyProof.Rows.notIn_str (by rw [show toS [c] = ⟨#[c]⟩ from rfl, StrLaws.found_one, e]; exact hk s.toks)⟩⟩
      | tup l =>
        exact Q.tup fun a ws I R2 => by
          obtain ⟨b, e, h⟩ := onO_inv h
          have q := strMem_rep R2 e
          have e2 : ws.toArray.any (isStrOf (toS x)) = b := by rw [← Array.any_toList, List.toList_toArray, q.2]
          exact ⟨b, h, fun {P} => ⟨fun hk => in_tupleAt (isStrOf _) I.tup (fun y hy => (q.1 y (List.mem_toArray.mp hy) _).at _ _) (e2 ▸ hk s.toks),
            fun hk => notIn_tupleAt (isStrOf _) I.tup (fun y hy => (q.1 y (List.mem_toArray.mp hy) _).at _ _) (e2 ▸ hk s.toks)⟩⟩
      | h n =>
        exact Q.ofH fun p hp => by
          obtain ⟨l, ⟨e2, kvs, M, _, _, q⟩, h⟩ := S.sdict (ckp h) hp (ckk h)
          have i : (okKind X.prog X.w).is (some (toS x)) (.str (toS x) t0) = true := by simp [okKind, isOk, Value.isStrOf]
          exact ⟨_, h, fun {P} => ⟨fun hk => wpAny_in_of (knd := okKind X.prog X.w) (k := some (toS x)) i (lay_sys S trivial e2 (lay_mem hp)) M.mapOf ((q x).isSome ▸ hk _),
            fun hk => wpAny_notIn_of (knd := okKind X.prog X.w) (k := some (toS x)) i (lay_sys S trivial e2 (lay_mem hp)) M.mapOf ((q x).isSome ▸ hk _)⟩⟩
      | _ => exact h.elim
  | int x =>
    exact R.int fun t0 => onT_el h Q fun l a ws h I R2 => by
      obtain ⟨b, e, h⟩ := onO_inv h
      have q := intMem_rep R2 e
      have e2 : ws.toArray.any (isIntOf x) = b := by rw [← Array.any_toList, List.toList_toArray, q.2]
      exact ⟨b, h, fun {P} => ⟨fun hk => in_tupleAt (isIntOf _) I.tup (fun y hy => (q.1 y (List.mem_toArray.mp hy) _).at _ _) (e2 ▸ hk s.toks),
        fun hk => notIn_tupleAt (isIntOf _) I.tup (fun y hy => (q.1 y (List.mem_toArray.mp hy) _).at _ _) (e2 ▸ hk s.toks)⟩⟩
  | _ => exact h.elim

theorem cmp_sound (S : St X fr m loc lay σ s) (hs : True) (hu : A.units < cLine) {o : CO} {d e : D} {v u : Value} {k : Bool → Sto → Prop} (R : Rep X s.heap lay fr.ban d v) (Q : Rep X s.heap lay fr.ban e u)
    (h : cmpP σ o d e fun t => k t σ) : wpAny (model X.prog X.w) A (compareOp (cpOf o) v u) (fun r s' => ∃ t, r = .bool t ∧ BQ X fr m loc s.heap lay k t s') E s := by
  have B0 : ∀ t, k t σ → (∃ t', (Value.bool t) = .bool t' ∧ BQ X fr m loc s.heap lay k t' s) := fun t ht => ⟨t, rfl, S.bq (t := s.toks) ht⟩
  cases o with
  | eq => exact eq_sound (k := fun t => k t σ) S hu R Q h B0
  | ne => exact ne_sound (k := fun t => k (!t) σ) S hu R Q h fun t ht => B0 _ ht
  | lt => exact onII_el h R Q fun a b t t' h => PySem.P.lt_int (B0 _ h)
  | le => exact onII_el h R Q fun a b t t' h => PySem.P.le_int (B0 _ h)
  | gt => exact onII_el h R Q fun a b t t' h => PySem.P.gt_int (B0 _ h)
  | ge => exact onII_el h R Q fun a b t t' h => PySem.P.ge_int (B0 _ h)
  | mem => obtain ⟨t, kt, H⟩ := mem_both (k := fun t => k t σ) S R Q h; exact H.1 fun tk => ⟨t, rfl, S.bq kt⟩
  | nmem => obtain ⟨t, kt, H⟩ := mem_both (k := fun t => k (!t) σ) S R Q h; exact H.2 fun tk => ⟨_, rfl, S.bq kt⟩
end
end
section
open PySem.SeqAt
theorem seqI {j : Int} {n k : Nat} (h0 : 0 ≤ j) (hk : j.toNat < n) (e : j.toNat = k) : seqIndex? j n = some k := by
  unfold seqIndex?
  rw [if_neg (Int.not_lt.mpr h0)]
  simp only [Bool.and_eq_true, decide_eq_true_eq]
  rw [if_pos ⟨h0, by lia⟩, e]

section
variable {X : Cx} {fr : Fm} {m : Str → Option Value} {loc : Loc} {lay : Lay} {σ : Sto} {s : Shared} {A : Around} {E : Value → Shared → Prop}

theorem atP_get {l : List D} {j : Int} {k : D → Prop} (h : atP l j k) : ∃ d, 0 ≤ j ∧ l[j.toNat]? = some d ∧ j < 16777216 ∧ k d := by
  obtain ⟨d, e, h1⟩ := onO_inv (ckk h); exact ⟨d, (jOk_inv (ckp h)).1, e, (jOk_inv (ckp h)).2, h1⟩
theorem at_list {value slice : Expr} (S : St X fr m loc lay σ s) {l : List D} {j : Int} {t : Tok} {k : KV} {a : Addr} {vs : List Value} (I : s.heap.IsList a vs.toArray) (R : RepL X s.heap lay fr.ban l vs)
    (hs : subscripted slice false (.ref a) (.int j t) = operate [.ref a, .int j t] (getItem (.ref a) (.int j t))) (h : atP l j fun r => k r σ) : wpAny (model X.prog X.w) A (subscriptTail value slice (.ref a) (.int j t)) (VQ X fr m loc s.heap lay k) E s := by
  obtain ⟨d, h0, hd, hj, hk⟩ := atP_get h
  obtain ⟨x, hx, rx⟩ := R.get _ hd
  exact tail_any I.typeIs slot_list_getitem.lookup (wpAny_getItem_list I h0 (by lia) (List.getElem?_toArray.trans hx) (S.vq (t := s.toks) rx hk)) hs

theorem sub_sound {value slice : Expr} (S : St X fr m loc lay σ s) {d e : D} {v u : Value} {k : KV} (R : Rep X s.heap lay fr.ban d v) (Q : Rep X s.heap lay fr.ban e u)
    (hs : subscripted slice false v u = operate [v, u] (getItem v u)) (h : subP σ d e fun r => k r σ) :
    wpAny (model X.prog X.w) A (subscriptTail value slice v u) (VQ X fr m loc s.heap lay k) E s := by
  revert hs
  cases d with
  | tup l =>
    exact R.tup fun a vs I1 R1 => onI_el h Q fun j t h hs => by
      obtain ⟨d, h0, hd, hj, hk⟩ := atP_get h
      obtain ⟨x, hx, rx⟩ := R1.get _ hd
      exact tail_any I1.tup.typeIs slot_tuple_getitem.lookup (PyProof.Rows.getItem_tuple I1.tup (by lia) (by lia) (seqI h0 (by rw [List.size_toArray]; exact (List.getElem?_eq_some_iff.mp hx).1) rfl) (List.getElem?_toArray.trans hx) (S.vq (t := s.toks) rx hk)) hs
  | lst l => exact R.lst fun a vs I1 R1 => onI_el h Q fun j t h hs => at_list S I1.lst R1 hs h
  | str x =>
    exact R.str fun t0 => onI_el h Q fun j t h hs => by
      obtain ⟨c, hc, h1⟩ := onO_inv (ckk h)
      have h := jOk_inv (ckp h)
      have hlt := (List.getElem?_eq_some_iff.mp hc).1
      refine tail_any (typeIs_str s _ _) F.slot_str_getitem.lookup (PySem.P.getItem_str (c := c) ?_ ?_ (S.vqS (x := [c]) h1)) hs
      · have h0 := h.1; have := h.2; simp only [Bool.or_eq_false_iff, decide_eq_false_iff_not]; clear h; constructor <;> lia
      · rw [toS_len, seqI h.1 hlt rfl]
        exact List.getElem?_toArray.trans hc
  | h n =>
    exact R.ofH fun p hp => by
      cases e with
      | int j =>
        exact Q.int fun t hs => by
          have h2 : idxP (σ.at n) j fun r => k r σ := (ckk h)
          cases el : σ.at n with
          | list l =>
            rw [el] at h2
            obtain ⟨_, vs, c, I1, R1⟩ := S.g.sto n _ p (at_get (ckp h) el) hp
            exact at_list S ⟨_, I1, rfl, _, rfl⟩ R1 hs h2
          | idict l =>
            rw [el] at h2
            obtain ⟨_, kvs, M, _, q⟩ := S.g.sto n _ p (at_get (ckp h) el) hp
            obtain ⟨d, ed, h3⟩ := onO_inv (show onO (l.lookup j) _ from h2)
            obtain ⟨v, ev, rv⟩ := (ed ▸ q j : ORep X s.heap lay fr.ban (some d) _)
            exact tail_any M.typeIs slot_dict_getitem.lookup (wpAny_getItem_of (knd := PySem.intKind X.prog X.w) (by simp [PySem.intKind, Value.isInt]) M.mapOf ev (S.vq rv h3)) hs
          | _ => rw [el] at h2; exact h2.elim
      | str x =>
        exact Q.str fun t hs => by
          obtain ⟨l, ⟨_, kvs, M, _, _, q⟩, h1⟩ := S.sdict (ckp h) hp (ckk h)
          obtain ⟨d, ed, h2⟩ := onO_inv h1
          obtain ⟨v, ev, rv⟩ := (ed ▸ q x : ORep X s.heap lay fr.ban (some d) _)
          exact tail_any M.typeIs slot_dict_getitem.lookup (wpAny_getItem_of (knd := okKind X.prog X.w) (k := some (toS x)) (by simp [okKind, isOk, Value.isStrOf]) M.mapOf ev (S.vq rv h2)) hs
      | _ => exact (ckk h).elim
  | _ => exact h.elim

/-! slices -/
noncomputable def partD : D → Option Int
  | .int i => some i
  | _ => none
theorem okI_inv {d : D} {P : Prop} (h : okI d P) : okI d True ∧ P := by
  cases d with
  | none => exact ⟨trivial, h⟩
  | int i => exact ⟨trivial, h⟩
  | _ => exact h.elim
theorem isPart {h ban d v} (R : Rep X h lay ban d v) (o : okI d True) : IsPart v (partD d) := by
  cases d with
  | none => exact R.none .none
  | int i => exact R.int fun t => .int i t
  | _ => exact o.elim
theorem kc_eq (n : Nat) (i : Int) : (if i < 0 then n - (-i).toNat else min i.toNat n) = clampI n i := by
  unfold clampI
  by_cases h : i < 0
  · rw [if_pos h, if_pos h]
    obtain ⟨k, rfl⟩ : ∃ k : Nat, i = -k := ⟨(-i).toNat, by rw [Int.toNat_of_nonneg (by lia), Int.neg_neg]⟩
    rw [Int.neg_neg, Int.toNat_natCast, Int.add_comm]
    exact (Int.toNat_sub n k).symm
  · rw [if_neg h, if_neg h]
theorem lo_eq {n : Nat} {d : D} {p : Nat} (o : okI d True) (e : loOf n d = some p) : kms_lo (partD d) n = p := by
  cases d with
  | none => exact Option.some.inj e
  | int i => exact (kc_eq n i).trans (Option.some.inj e)
  | _ => exact o.elim
theorem hi_eq {n : Nat} {d : D} {p : Nat} (o : okI d True) (e : hiOf n d = some p) : kms_hi (partD d) n = p := by
  cases d with
  | none => exact Option.some.inj e
  | int i => exact (kc_eq n i).trans (Option.some.inj e)
  | _ => exact o.elim
theorem cut_eq {α : Type} (l : List α) (p q : Nat) : (l.drop p).take (q - p) = cutL l p q := by
  unfold cutL; rw [List.drop_take]
theorem RepL.cut {h ban ds vs p q} (R : RepL X h lay ban ds vs) : RepL X h lay ban (cutL ds p q) (cutL vs p q) := (R.take q).drop p

noncomputable def kp (n z : Nat) : Option Int → Nat
  | none => z
  | some i => clampI n i
theorem kp_le (n z : Nat) (hz : z ≤ n) (v : Option Int) : kp n z v ≤ n := by
  cases v with
  | none => exact hz
  | some i =>
    show clampI n i ≤ n
    unfold clampI
    by_cases h : i < 0
    · rw [if_pos h]; lia
    · rw [if_neg h]; exact Nat.min_le_right _ _
theorem clip_eq (n : Nat) (v : Option Int) (z : Nat) : (match v with | none => (z : Int) | some i => max 0 (min (if i < 0 then i + n else i) n)) = ((kp n z v : Nat) : Int) := by
  cases v with
  | none => rfl
  | some i =>
    show max 0 (min (if i < 0 then i + (n : Int) else i) n) = ((clampI n i : Nat) : Int)
    unfold clampI
    by_cases h : i < 0
    · rw [if_pos h, if_pos h, Int.min_eq_left (by lia), Int.max_comm, Int.toNat_eq_max]
    · rw [if_neg h, if_neg h]
      obtain ⟨k, rfl⟩ := Int.eq_ofNat_of_zero_le (Int.not_lt.mp h)
      rw [Int.max_eq_right (by lia)]
      exact (Lean.Omega.Int.ofNat_min k n).symm
theorem strIdx (lo hi : Option Int) (n : Nat) :
    Builtin.Str.strSliceIndices lo hi 1 n = (List.range (kp n n hi - kp n 0 lo)).map (kp n 0 lo + ·) := by
  unfold Builtin.Str.strSliceIndices
  have h1 : (1 : Int) > 0 := by decide
  simp only [h1, if_true]
  rw [← sliceRange_one]
  congr 1
  · exact clip_eq n lo 0
  · exact clip_eq n hi n
theorem cut_all {α : Type} (l : List α) (p q : Nat) (hh : (cutL l p q).length = l.length) : cutL l p q = l := by
  unfold cutL at hh ⊢
  rw [List.length_drop, List.length_take] at hh
  by_cases hz : l.length = 0
  · have : l = [] := List.eq_nil_of_length_eq_zero hz
    subst this; simp
  · have : p = 0 := by lia
    subst this
    rw [List.drop_zero, List.take_of_length_le (by lia)]
theorem slice_txt (x : Tx) (lo hi : Option Int) : Txt.slice (toS x) lo hi = toS (cutL x (kp x.length 0 lo) (kp x.length x.length hi)) := by
  have hx : (toS x).cps.toList = x := by simp [toS]
  have key : (Builtin.Str.strSliceIndices lo hi 1 (toS x).length).filterMap ((toS x).cps[·]?) = cutL x (kp x.length 0 lo) (kp x.length x.length hi) := by
    rw [toS_len, strIdx, pick_run, ← cut_eq, hx]
  unfold Txt.slice
  rw [key]
  split
  · rename_i h
    have h2 : (Builtin.Str.strSliceIndices lo hi 1 (toS x).length).length = (toS x).length := by simpa using h
    have hl : (cutL x (kp x.length 0 lo) (kp x.length x.length hi)).length = x.length := by
      rw [strIdx, toS_len] at h2
      simp only [List.length_map, List.length_range] at h2
      unfold cutL
      rw [List.length_drop, List.length_take]
      have a1 := kp_le x.length 0 (Nat.zero_le _) lo
      have a2 := kp_le x.length x.length (Nat.le_refl _) hi
      lia
    rw [cut_all _ _ _ hl]
  · rfl
theorem optPart {h ban d v} (R : Rep X h lay ban d v) (o : okI d True) : ∃ p : Option (Int × Tok), v = partValue p ∧ p.map (·.1) = partD d := by
  cases d with
  | none => exact R.none ⟨none, rfl, rfl⟩
  | int i => exact R.int fun t => ⟨some (i, t), rfl, rfl⟩
  | _ => exact o.elim
theorem lo_eq' {n : Nat} {d : D} {p : Nat} (o : okI d True) (e : loOf n d = some p) : kp n 0 (partD d) = p := by
  cases d with
  | none => exact Option.some.inj e
  | int i => exact Option.some.inj e
  | _ => exact o.elim
theorem hi_eq' {n : Nat} {d : D} {p : Nat} (o : okI d True) (e : hiOf n d = some p) : kp n n (partD d) = p := by
  cases d with
  | none => exact Option.some.inj e
  | int i => exact Option.some.inj e
  | _ => exact o.elim

theorem adjust_upto (b n : Nat) (hb : b ≤ n) : Builtin.Slice.sliceAdjust none (some (b : Int)) 1 (n : Int) = (0, (b : Int)) := by
  unfold Builtin.Slice.sliceAdjust
  have h1 : ¬ ((1 : Int) < 0) := by lia
  have h2 : ¬ ((b : Int) < 0) := by lia
  simp only [h1, h2, if_false]
  congr 1
  lia
theorem sliceApplied_upto {prog : Program} {w : World} {sl : Addr} {b n : Nat} {u : Tok} {Q : Int × Int × Nat → Shared → Prop} (hs : s.heap.IsSliceOf sl .none (.int b u) .none) (hb : b ≤ n) (h : Q (0, 1, b) s) :
    wpAny (model prog w) A (Builtin.Slice.sliceApplied (.ref sl) (pure (n : Int))) Q E s := by
  obtain ⟨os, hos, hcs, hds⟩ := id hs
  unfold Builtin.Slice.sliceApplied Builtin.Slice.sliceFields
  refine wpAny_bind (wpAny_bind (wpAny_field hos hds (x := .none) rfl (wpAny_bind (wpAny_field hos hds (x := .int b u) rfl (wpAny_bind (wpAny_field hos hds (x := .none) rfl (wpAny_pure ?_)))))))
  refine wpAny_bind (slicePart_none ?_)
  show wpAny _ _ (if ((1 : Int) == 0) = true then _ else _) _ _ s
  rw [if_neg (by decide)]
  refine wpAny_bind (slicePart_none (wpAny_bind (slicePart_int (wpAny_bind (wpAny_pure ?_)))))
  show wpAny _ _ (match Builtin.Slice.sliceAdjust none (some (b : Int)) 1 (n : Int) with | (lo, hi) => pure (lo, (1 : Int), Builtin.Slice.slicePlaces lo hi 1)) _ _ s
  rw [adjust_upto b n hb]
  show wpAny _ _ (pure ((0 : Int), (1 : Int), Builtin.Slice.slicePlaces 0 (b : Int) 1)) _ _ s
  have := places_from 0 b (Nat.zero_le _)
  rw [show ((0 : Nat) : Int) = 0 from rfl] at this
  rw [this]
  exact wpAny_pure h
theorem pick_upto (xs : Array Value) (b : Nat) : ((List.range b).filterMap fun (k : Nat) => xs[((0 : Int) + (k : Int) * 1).toNat]?).toArray = (xs.toList.take b).toArray := by
  have e : (fun (k : Nat) => xs[((0 : Int) + (k : Int) * 1).toNat]?) = fun k => xs[0 + k]? := by
    funext k
    have : ((0 : Int) + (k : Int) * 1).toNat = 0 + k := by lia
    rw [this]
  rw [e]
  have := pick_run xs 0 b
  rw [List.filterMap_map] at this
  have e2 : ((fun x => xs[x]?) ∘ fun x => 0 + x) = fun k => xs[0 + k]? := rfl
  rw [e2] at this
  rw [this, List.drop_zero]
theorem getItem_tuple_upto {prog : Program} {w : World} {t sl : Addr} {items : Array Value} {b : Nat} {u : Tok} {Q : Value → Shared → Prop} (ht : IsTup s.heap t items) (hs : s.heap.IsSliceOf sl .none (.int b u) .none) (hb : b ≤ items.size)
    (h1 : b = items.size → Q (.ref t) s)
    (h : Q (.ref s.heap.objs.size) { s with heap := s.heap.push { cls := .type "tuple", data := .seq (items.toList.take b).toArray } })
    (hsz : items.size ≤ sizeLine) : wpAny (model prog w) A (getItem (.ref t) (.ref sl)) Q E s := by
  have hdrop : sizeOk (.seq (items.toList.take b).toArray) := by
    show (items.toList.take b).toArray.size ≤ sizeLine
    rw [List.size_toArray, List.length_take, Array.length_toList]
    lia
  obtain ⟨os, hos, hcs, hds⟩ := id hs
  obtain ⟨ot, hot, hct, hdt⟩ := id ht
  have hTs : s.TypeIs (.ref sl) "slice" := ⟨os, hos, hcs⟩
  unfold getItem
  try with_reducible refine wpAny_holding ?_
  first | refine wpAny_bind (wpAny_pure ?_) | skip
  refine wpAny_bind (wpAny_sequenceKey ht.typeIs (by decide) ?_)
  refine wpAny_bind (wpAny_callSpecial?_slot (name := Str.ofString "__getitem__") ht.typeIs slot_tuple_getitem
    (wpAny_call_entry slot_tuple_getitem ht.typeIs entry_tuple_getitem ?_ (args_tuple_getitem _ _)))
  show wpAny _ _ (Builtin.Tuple.tupleItemsOf (.ref t) >>= _) _ _ s
  refine wpAny_bind (tupleItemsOf_ ht ?_)
  refine wpAny_bind (wpAny_typeOf hTs ?_)
  rw [if_pos (by decide)]
  refine wpAny_bind (sliceApplied_upto hs hb ?_)
  show wpAny _ _ (if ((0 : Int) == 0 && (1 : Int) == 1 && b == items.size) = true then _ else _) _ _ s
  by_cases q : b = items.size
  · rw [if_pos (by simp [q])]
    refine wpAny_bind (m := Builtin.Tuple.tupleIsExact _) ?_
    unfold Builtin.Tuple.tupleIsExact
    refine wpAny_bind (wpAny_typeOf ht.typeIs ?_)
    refine wpAny_pure ?_
    dsimp only
    rw [if_pos (by decide)]
    exact wpAny_bind (wpAny_rule (wpAny_bind (wpAny_pure (wpAny_pure ⟨_, rfl, wpAny_pure (h1 q)⟩))))
  · rw [if_neg (by simp [q]), pick_upto items b]
    first
      | exact wpAny_bind (m := Builtin.Tuple.tupleExact _) (wpAny_newObj_type (wpAny_pure ⟨_, rfl, wpAny_pure h⟩) hdrop)
      | exact wpAny_bind (m := Builtin.Tuple.tupleExact _) (wpAny_newObj_type (wpAny_bind (wpAny_pure (wpAny_pure ⟨_, rfl, wpAny_pure h⟩))) hdrop)
      | exact wpAny_bind (wpAny_bind (m := Builtin.Tuple.tupleExact _) (wpAny_newObj_type (wpAny_pure (wpAny_pure ⟨_, rfl, wpAny_pure h⟩)) hdrop))
      | exact wpAny_bind (wpAny_bind (m := Builtin.Tuple.tupleExact _) (wpAny_newObj_type (wpAny_pure ⟨_, rfl, wpAny_pure h⟩) hdrop))
end
end
section
open PySem.SeqAt
section
variable {X : Cx} {fr : Fm} {m : Str → Option Value} {loc : Loc} {lay : Lay} {σ : Sto} {s : Shared} {A : Around} {E : Value → Shared → Prop}

theorem St.pushed (S : St X fr m loc lay σ s) (o : Obj) {t : Nat} :
    St X fr m loc lay σ { s with heap := s.heap.push o, toks := t } ∧ Evo fr.ban (some fr.L) lay lay s.heap (s.heap.push o) ∧ Free lay fr.ban s.heap.objs.size := by
  have q := S.stepK (s' := { s with heap := s.heap.push o, toks := t }) (by obtain ⟨o', es, ep, ho, r⟩ := S.ns; exact ⟨o', es, ep, Heap.get?_push_of_some _ ho, r⟩) (fun b o' _ e => Heap.get?_push_of_some _ e) rfl rfl
  exact ⟨q.1, q.2, S.freeNew (none_size _)⟩

theorem VQ.list (S : St X fr m loc lay σ s) {k : KV} {l : List D} {vs : List Value} {dd sl} {n} {t : Nat} (R : RepL X s.heap lay fr.ban l vs) (h : k (.lst l) σ) :
    VQ X fr m loc s.heap lay k (.ref s.heap.objs.size) { s with heap := s.heap.push { cls := .type "list", dict := dd, data := .seq vs.toArray n, slots := sl }, toks := t } :=
  have q := S.pushed { cls := .type "list", dict := dd, data := .seq vs.toArray n, slots := sl } (t := t)
  ⟨.lst l, σ, lay, q.1, q.2.1, ⟨_, vs, rfl, ⟨_, _, q.2.2, _, Heap.get?_push_size _ rfl⟩, R.evo q.2.1⟩, h⟩
theorem VQ.tuple (S : St X fr m loc lay σ s) {k : KV} {l : List D} {vs : List Value} {dd sl} {n} {t : Nat} (R : RepL X s.heap lay fr.ban l vs) (h : k (.tup l) σ) :
    VQ X fr m loc s.heap lay k (.ref s.heap.objs.size) { s with heap := s.heap.push { cls := .type "tuple", dict := dd, data := .seq vs.toArray n, slots := sl }, toks := t } :=
  have q := S.pushed { cls := .type "tuple", dict := dd, data := .seq vs.toArray n, slots := sl } (t := t)
  ⟨.tup l, σ, lay, q.1, q.2.1, ⟨_, vs, rfl, ⟨_, _, q.2.2, _, Heap.get?_push_size _ rfl⟩, R.evo q.2.1⟩, h⟩

theorem slice_post {x : Str} {t : Tok} {pl pu : Option (Int × Tok)} {Q : Value → Shared → Prop} (hsz : x.length ≤ sizeLine) (h : ∀ t' k, Q (.str (Txt.slice x (pl.map (·.1)) (pu.map (·.1))) t') { s with toks := k }) :
    (sliceMade x t pl pu none).post Q s := by
  rcases pl with _ | ⟨i, ti⟩ <;> rcases pu with _ | ⟨j, tj⟩ <;> exact post_val_or_str ⟨Nat.le_trans (Txt.slice_le x _ _) hsz, fun t' k => h t' k⟩

theorem slotStr : typeLookup (Value.type "str") (Str.ofString "__getitem__") = pure (some (Value.builtin "str.__getitem__")) := F.slot_str_getitem.lookup

theorem cut_list {value : Expr} {lx ux : Option Expr} {p : Pos} (S : St X fr m loc lay σ s) {e f : D} {lo hi : Value} {k : KV} {sl a : Addr} {l : List D} {vs : List Value} (hs : s.heap.IsSliceOf sl lo hi .none) (Re : Rep X s.heap lay fr.ban e lo)
    (Rf : Rep X s.heap lay fr.ban f hi) (h1 : okI e True) (h2 : okI f True) (I : s.heap.IsList a vs.toArray) (R : RepL X s.heap lay fr.ban l vs) (h : cutP l.length e f fun p q => k (.lst (cutL l p q)) σ) :
    wpAny (model X.prog X.w) A (subscriptTail value (.Slice lx ux none p) (.ref a) (.ref sl)) (VQ X fr m loc s.heap lay k) E s := by
  obtain ⟨p, e1, h3⟩ := onO_inv (ckk h)
  obtain ⟨q, e2, h4⟩ := onO_inv h3
  refine tail_any I.typeIs slot_list_getitem.lookup (wpAny_getItem_list_slice I hs (isPart Re h1) (isPart Rf h2) .none (by simp) ?_ (by rw [List.size_toArray, ← R.length]; exact (ckp h).line)) rfl
  rw [kms_pick_eq]
  unfold kms_pick
  rw [List.toList_toArray, ← R.length, lo_eq h1 e1, hi_eq h2 e2, cut_eq]
  exact VQ.list S (t := s.toks) R.cut h4
theorem slice_at {value : Expr} {lx ux : Option Expr} {p : Pos} (S : St X fr m loc lay σ s) {d e f : D} {v lo hi : Value} {k : KV} {sl : Addr} (hs : s.heap.IsSliceOf sl lo hi .none) (R : Rep X s.heap lay fr.ban d v) (Re : Rep X s.heap lay fr.ban e lo)
    (Rf : Rep X s.heap lay fr.ban f hi) (h : sliceP σ d e f fun r => k r σ) :
    wpAny (model X.prog X.w) A (subscriptTail value (.Slice lx ux none p) v (.ref sl)) (VQ X fr m loc s.heap lay k) E s := by
  obtain ⟨h1, h⟩ := okI_inv h
  obtain ⟨h2, h⟩ := okI_inv h
  cases d with
  | str x =>
    exact R.str fun tv => by
      obtain ⟨p, e1, h3⟩ := onO_inv (ckk h)
      obtain ⟨q, e2, h4⟩ := onO_inv h3
      obtain ⟨pl, rfl, el⟩ := optPart Re h1
      obtain ⟨pu, rfl, eu⟩ := optPart Rf h2
      refine tail_any (typeIs_str _ _ _) slotStr (wpAny_getItem_str_slice (l := pl) (u := pu) (st := none) hs rfl (slice_post (by rw [toS_len]; exact (ckp h).line) fun t' k => ?_)) rfl
      rw [el, eu, slice_txt, lo_eq' h1 e1, hi_eq' h2 e2]
      exact S.vqS h4
  | tup l =>
    exact R.tup fun a vs I R1 => by
      obtain ⟨rfl, h3⟩ := onN_inv (ckk h)
      cases (show lo = .none from Re)
      refine onI_el h3 Rf (P := fun hi => s.heap.IsSliceOf sl .none hi .none → _) (fun b u h4 hs => ?_) hs
      obtain ⟨b, rfl⟩ := Int.eq_ofNat_of_zero_le h4.1
      have hle : b ≤ vs.length := by rw [← R1.length]; exact Int.ofNat_le.mp h4.2.1
      have h6 : k (.tup (l.take b)) σ := h4.2.2
      refine tail_any I.tup.typeIs slot_tuple_getitem.lookup (getItem_tuple_upto I.tup hs hle (fun hb => ?_) (VQ.tuple S (t := s.toks) (R1.take b) h6) (by rw [List.size_toArray, ← R1.length]; exact (ckp h).line)) rfl
      have hb : b = l.length := hb.trans R1.length.symm
      rw [hb, List.take_length] at h6
      exact S.vq (t := s.toks) (d := .tup l) ⟨a, vs, rfl, I, R1⟩ h6
  | lst l => exact R.lst fun a vs I R1 => cut_list S hs Re Rf h1 h2 I.lst R1 h
  | h n =>
    exact R.ofH fun p hp => by
      obtain ⟨l, ⟨_, vs, c, I1, R1⟩, h3⟩ := S.list (ckp h) hp (ckk h)
      exact cut_list S hs Re Rf h1 h2 ⟨_, I1, rfl, _, rfl⟩ R1 h3
  | _ => exact h.elim
theorem slice_sound {value : Expr} {lx ux : Option Expr} {p : Pos} (S : St X fr m loc lay σ s) {d e f : D} {v lo hi : Value} {k : KV} (R : Rep X s.heap lay fr.ban d v) (Re : Rep X s.heap lay fr.ban e lo)
    (Rf : Rep X s.heap lay fr.ban f hi) (h : sliceP σ d e f fun r => k r σ) :
    wpAny (model X.prog X.w) A (subscriptTail value (.Slice lx ux none p) v (.ref s.heap.objs.size)) (VQ X fr m loc s.heap lay k) E { s with heap := s.heap.push { cls := .type "slice", data := .fields #[lo, hi, .none] } } :=
  have q := S.pushed { cls := .type "slice", data := .fields #[lo, hi, .none] } (t := s.toks)
  wpAny_mono (slice_at q.1 ⟨_, Heap.get?_push_size _ rfl, rfl, rfl⟩ (R.evo q.2.1) (Re.evo q.2.1) (Rf.evo q.2.1) h) (fun _ _ z => VQ.back q.2.1 z) fun _ _ z => z
end
end
section
open PySem.SeqAt
section
variable {X : Cx} {fr : Fm} {m : Str → Option Value} {loc : Loc} {lay : Lay} {σ : Sto} {s : Shared} {A : Around} {E : Value → Shared → Prop}

theorem isE_len {x : Tx} : (((toS x).length : Int) != 0) = !x.isEmpty := by rw [toS_len]; cases x <;> rfl
theorem RepL.isE {h ban} {l : List D} {vs : List Value} (R : RepL X h lay ban l vs) : (!(vs.toArray).isEmpty) = !l.isEmpty := by
  cases l with
  | nil => exact R.unnil rfl
  | cons d l => exact R.uncons fun v us _ _ => rfl
theorem Sz.fits {n : Nat} (h : Sz n) : (n : Int) < 2 ^ 63 := by unfold Sz at h; lia
theorem truth_sound (S : St X fr m loc lay σ s) {d : D} {v : Value} {k : Bool → Prop} (R : Rep X s.heap lay fr.ban d v) (h : truthP d k) {P : Bool → Shared → Prop}
    (hk : ∀ t, k t → ∀ tk, P t { s with toks := tk }) : wpAny (model X.prog X.w) A (truthy v) P E s := by
  cases d with
  | none => exact R.none (truthy_none (hk _ h s.toks))
  | bool b => exact R.bool (wpAny_truthy_bool (hk _ h s.toks))
  | int i => exact R.int fun t => PyProof.Rows.truthy_int (hk _ h s.toks)
  | str x => exact R.str fun t => PySem.P.truthy_str (by rw [toS_len]; exact Int.not_le.mpr (ckp h).fits) (by rw [isE_len]; exact hk _ (ckk h) _)
  | lst l => exact R.lst fun a vs I R1 => wpAny_truthy_list I.lst (by rw [List.size_toArray, ← R1.length]; exact (ckp h).fits) (by rw [R1.isE]; exact hk _ (ckk h) _)
  | _ => exact h.elim

theorem Rep.handed {h ban d v} (R : Rep X h lay ban d v) : handedIn v = true := by
  cases d with
  | none => exact R.none rfl
  | bool b => exact R.bool rfl
  | int i => exact R.int fun _ => rfl
  | str x => exact R.str fun _ => rfl
  | tup l => exact R.tup fun _ _ _ _ => rfl
  | lst l => exact R.lst fun _ _ _ _ => rfl
  | node k a ks => obtain ⟨x, va, vs, rfl, _⟩ := R; rfl
  | h n => exact R.ofH fun _ _ => rfl

theorem lookIn_ns {o : Obj} {es : Array DictEntry} {ep : Nat} {name : Str} (hd : o.data = .dict es ep) (hk : StrKeys es) : lookIn name o = some (nsFind es name) := by
  unfold lookIn
  rw [hd]
  dsimp only
  unfold nsFind findBy
  rw [← Array.find?_toList]
  cases q : es.toList.find? (fun e => e.key.isStr name) with
  | some e => rfl
  | none =>
    have : es.toList.any (·.refKey) = false := by
      rw [List.any_eq_false]
      intro e he
      obtain ⟨n, t, q⟩ := hk e (Array.mem_toList_iff.mp he)
      simp [DictEntry.refKey, q]
    simp only [this]
    rfl

theorem instAt_of {h : Heap} {x dx : Addr} {C : Addr} {f : Str → Option Value} (I : Is h x (.ref C) (some dx) .plain) (N : h.Ns dx f) : ∃ ox od, W.InstAt h x ox C (some od) ∧ ∀ name, lookIn name od = some (f name) := by
  obtain ⟨sl, hx⟩ := I
  obtain ⟨o, es, ep, ho, hd, hk, hf⟩ := N
  exact ⟨_, o, ⟨hx, rfl, rfl, ho⟩, fun name => by rw [lookIn_ns hd hk, hf]⟩

theorem atOk_of {K : Frag} {C : Addr} {name : Str} (h : atOk K C name = true) : plainGet K C name = true ∧ hasDictIn K C = true ∧ ∃ attr, findIn K (.ref C) name = some attr ∧ noGet K attr = true := by
  unfold atOk at h
  simp only [Bool.and_eq_true] at h
  obtain ⟨⟨h1, h2⟩, h3⟩ := h
  refine ⟨h1, h2, ?_⟩
  split at h3
  · rename_i attr e; exact ⟨attr, e, h3⟩
  · cases h3

theorem get_at {K : Frag} {x dx C : Addr} {f : Str → Option Value} {name : Str} {v : Value} {expr : Bool} {Q : Value → Shared → Prop} (KX : K.In s.heap) (ok : atOk K C name = true) (I : Is s.heap x (.ref C) (some dx) .plain) (N : s.heap.Ns dx f)
    (e : f name = some v) (hv : handedIn v = true) (h : Q v { s with toks := s.toks + 1 }) : wpAny (model X.prog X.w) A (getAttr (.ref x) name expr) Q E s := by
  obtain ⟨h1, h2, attr, h3, h4⟩ := atOk_of ok
  obtain ⟨ox, od, IA, hl⟩ := instAt_of I N
  exact get_value KX IA (plainGet_of h1).1 (findObj_own h2 h3 h4 (by rw [hl, e])) hv h

theorem St.KX (S : St X fr m loc lay σ s) (O : X.Ok) : X.K.In s.heap := O.KX.keeps S.g.stays

theorem node_attr (O : X.Ok) (S : St X fr m loc lay σ s) {kd : Int} {a : D} {ks : List D} {v : Value} {k : KV} {expr : Bool} (R : Rep X s.heap lay fr.ban (.node kd a ks) v) (i : Nat) (h : attrP σ (.node kd a ks) i fun r => k r σ) :
    wpAny (model X.prog X.w) A (getAttr v (X.B.atN i) expr) (VQ X fr m loc s.heap lay k) E s := by
  obtain ⟨x, va, vs, rfl, ⟨dx, f, tk, la, tn, F1, F2, I, N, e0, e1, e2, SL, e3⟩, R1, R2⟩ := R
  match i, h with
  | 0, h => exact get_at (S.KX O) (O.node 0 (by decide)) I N e0 rfl (S.vqI h)
  | 1, h => exact get_at (S.KX O) (O.node 1 (by decide)) I N e1 R1.handed (S.vq R1 h)
  | 2, h => exact get_at (S.KX O) (O.node 2 (by decide)) I N e2 rfl (S.vq (d := .lst ks) ⟨_, vs, rfl, SL, R2⟩ h)
  | 3, h => exact get_at (S.KX O) (O.node 3 (by decide)) I N e3 rfl (S.vqI h)
  | _ + 4, h => exact h.elim
theorem attr_sound (O : X.Ok) (S : St X fr m loc lay σ s) {d : D} {v : Value} {k : KV} {i : Nat} {expr : Bool} (hi : i < X.B.nAt) (R : Rep X s.heap lay fr.ban d v) (h : attrP σ d i fun r => k r σ) :
    wpAny (model X.prog X.w) A (getAttr v (X.B.atN i) expr) (VQ X fr m loc s.heap lay k) E s := by
  cases d with
  | node kd a ks => exact node_attr O S R i h
  | h n =>
    exact R.ofH fun p hp => by
      obtain ⟨c, l, ⟨hc, I, ne, f, N, z, q⟩, h1⟩ := S.inst (ckp h) hp (ckk h)
      obtain ⟨d, ed, h2⟩ := onO_inv h1
      obtain ⟨v, ev, rv⟩ := (ed ▸ q i : ORep X s.heap lay fr.ban (some d) _)
      exact get_at (S.KX O) (O.at_ _ hc _ hi) I N ev rv.handed (S.vq rv h2)
  | _ => exact h.elim
end
end
section
open PySem.SeqAt
section
variable {X : Cx} {fr : Fm} {m : Str → Option Value} {loc : Loc} {lay : Lay} {σ : Sto} {s : Shared} {A : Around} {E : Value → Shared → Prop}

noncomputable def bfA (f : BF) (vs : List Value) : List Value := match f with
  | .isStr => vs ++ [.type "str"]
  | _ => vs

theorem intTx_eq (i : Int) : toS (intTx i) = Str.ofString (toString i) := toS_of _

theorem max_le {i a m : Int} (h : (if i > a then i else a) ≤ m) : a ≤ m ∧ i ≤ m := by
  by_cases q : i > a
  · rw [if_pos q] at h; exact ⟨Int.le_trans (Int.le_of_lt q) h, h⟩
  · rw [if_neg q] at h; exact ⟨h, Int.le_trans (Int.not_lt.mp q) h⟩
theorem maxL_ints {h ban} : ∀ {l : List D} {vs : List Value} {a m : Int}, RepL X h lay ban l vs → maxL a l = some m → ∃ ns, IntsAre vs ns ∧ m ∈ a :: ns ∧ a ≤ m ∧ ∀ x ∈ ns, x ≤ m
  | [], vs, a, m, R, e => R.unnil ⟨[], .nil, Option.some.inj e ▸ .head _, Int.le_of_eq (Option.some.inj e), fun _ h => nomatch h⟩
  | d :: l, vs, a, m, R, e => R.uncons fun v us r R2 => by
    cases d with
    | int i =>
      obtain ⟨ns, h1, h2, h3, h4⟩ := maxL_ints R2 e
      refine r.int fun t => ⟨i :: ns, .cons _ _ h1, ?_, (max_le h3).1, fun x hx => ?_⟩
      · rcases List.mem_cons.mp h2 with h2 | h2
        · rw [h2]
          by_cases q : i > a
          · rw [if_pos q]; exact .tail _ (.head _)
          · rw [if_neg q]; exact .head _
        · exact .tail _ (.tail _ h2)
      · rcases List.mem_cons.mp hx with hx | hx
        · exact hx ▸ (max_le h3).2
        · exact h4 x hx
    | _ => cases e
theorem allL_bools {h ban} : ∀ {l : List D} {vs : List Value} {b : Bool}, RepL X h lay ban l vs → allL l = some b → ∃ bs, LSm.BoolsAre vs bs ∧ bs.all id = b
  | [], vs, b, R, e => R.unnil ⟨[], .nil, Option.some.inj e⟩
  | d :: l, vs, b, R, e => R.uncons fun v us r R2 => by
    cases d with
    | bool c =>
      obtain ⟨b', e', rfl⟩ := Option.map_eq_some_iff.mp e
      obtain ⟨bs, h3, h4⟩ := allL_bools R2 e'
      exact r.bool ⟨c :: bs, .cons _ h3, h4 ▸ rfl⟩
    | _ => cases e

theorem decVal_eq : ∀ (x : Tx) (a : Nat), x.all isDig = true → x.foldl (fun (n : Int) (c : Nat) => n * 10 + ((c : Int) - 48)) (a : Int) = ((x.foldl (fun acc c => acc * 10 + (c - 48)) a : Nat) : Int)
  | [], _, _ => rfl
  | c :: x, a, h => by
    simp only [List.all_cons, Bool.and_eq_true] at h
    have hc : 48 ≤ c := by have := h.1; simp [isDig] at this; lia
    simp only [List.foldl_cons]
    have : (a : Int) * 10 + ((c : Int) - 48) = ((a * 10 + (c - 48) : Nat) : Int) := by lia
    rw [this]
    exact decVal_eq x _ h.2
theorem dec_reads {x : Tx} (hx : x.all isDig = true) (h0 : x ≠ []) (hl : x.length ≤ 600) : PySem.intText? (toS x) = some (decVal x) := by
  have e : (toS x).cps.toList = x := by simp [toS]
  rw [PySem.intText_digits (by rw [e]; intro c hc; have := List.all_eq_true.mp hx c hc; simp [isDig] at this; exact this) (by rw [e]; exact h0) (by rw [toS_len]; lia), e]
  exact congrArg some (decVal_eq x 0 hx).symm

theorem len_sound (S : St X fr m loc lay σ s) {d : D} {v : Value} {k : KV} (R : Rep X s.heap lay fr.ban d v) (h : lenP σ d fun r => k r σ) : wpAny (model X.prog X.w) A (call (.builtin "len") [v]) (VQ X fr m loc s.heap lay k) E s := by
  have key : ∀ {l : List D} {vs : List Value}, RepL X s.heap lay fr.ban l vs → vs.toArray.size = l.length := fun R1 => by rw [List.size_toArray]; exact R1.length.symm
  cases d with
  | str x => exact R.str fun t => PyProof.Rows.len_str (by rw [toS_len]; exact Int.not_le.mpr (ckp h).fits) (by rw [toS_len]; exact S.vqI (ckk h))
  | tup l => exact R.tup fun a vs I R1 => PyProof.Rows.len_tuple I.tup (by rw [key R1]; exact (ckp h).fits) (by rw [key R1]; exact S.vqI (ckk h))
  | lst l => exact R.lst fun a vs I R1 => PySem.Calls.call_len_list I.lst (by rw [key R1]; exact (ckp h).fits) (by rw [key R1]; exact S.vqI (ckk h))
  | h n =>
    exact R.ofH fun p hp => by
      obtain ⟨l, ⟨_, vs, c, I1, R1⟩, h1⟩ := S.list (ckp h) hp (ckk h)
      exact PySem.Calls.call_len_list ⟨_, I1, rfl, _, rfl⟩ (by rw [key R1]; exact (ckp h1).fits) (by rw [key R1]; exact S.vqI (ckk h1))
  | _ => exact h.elim
theorem max_eq {ns : List Int} {i M M' : Int} (h2 : M ∈ i :: ns) (h3 : i ≤ M) (h4 : ∀ x ∈ ns, x ≤ M) (hM : M' ∈ i :: ns) (hle : ∀ x ∈ i :: ns, x ≤ M') : M' = M :=
  Int.le_antisymm (by rcases List.mem_cons.mp hM with q | q; exact q ▸ h3; exact h4 _ q) (hle _ h2)
theorem bif_sound (S : St X fr m loc lay σ s) (hh : A.handled = none) {f : BF} {ds : List D} {vs : List Value} {k : KV} (R : RepL X s.heap lay fr.ban ds vs) (h : bifP σ f ds fun r => k r σ) :
    wpAny (model X.prog X.w) A (call (bfV f) (bfA f vs)) (VQ X fr m loc s.heap lay k) E s := by
  cases f with
  | len => obtain ⟨d, rfl, h1⟩ := on1_inv h; exact R.one fun v R0 => len_sound S R0 h1
  | str =>
    obtain ⟨d, rfl, h1⟩ := on1_inv h
    exact R.one fun v R0 => by
      cases d with
      | int i =>
        refine R0.int fun t => PySem.P.str_of_int (Nat.lt_trans (ckp h1).log (by decide)) ?_
        rw [← intTx_eq]
        exact S.vqS (ckk h1)
      | str x => exact R0.str fun t => PySem.P.str_of_str (S.vqS (t := s.toks) h1)
      | _ => exact h1.elim
  | abs => obtain ⟨d, rfl, h1⟩ := on1_inv h; exact R.one fun v R0 => onI_el h1 R0 fun i t h1 => PyProof.Rows.call_abs_int fun u tk => S.vqI h1
  | int =>
    obtain ⟨d, rfl, h1⟩ := on1_inv h
    exact R.one fun v R0 => onS_el h1 R0 fun x t h => KIN.call_text (dec_reads h.2.1 h.1 h.2.2.1) (by have := h.2.2.1; rw [toS_len]; lia) (S.vqI h.2.2.2)
  | max =>
    obtain ⟨d, rfl, h1⟩ := on1_inv h
    exact R.one fun v R0 => onL_el h1 R0 fun l a vs h1 I R1 => by
      obtain ⟨d, r, rfl, h2⟩ := onC_inv h1
      obtain ⟨i, rfl, h3⟩ := onI_inv h2
      obtain ⟨M, eM, h4⟩ := onO_inv (ckk h3)
      obtain ⟨v, us, rfl, r1, R2⟩ := R1
      obtain ⟨t, rfl⟩ := r1
      obtain ⟨ns, q1, q2, q3, q4⟩ := maxL_ints R2 eM
      refine kso_max S.toFr full_news I.lst (.cons _ _ q1) (by simp) hh fun h' M' t' tk F' N' hM hle => ?_
      cases max_eq q2 q3 q4 hM hle
      have q := S.step (s' := { s with heap := h', toks := tk }) F' N' rfl rfl
      exact VQ.back q.2 (q.1.vqI (t := tk) h4)
  | isStr =>
    obtain ⟨d, rfl, h1⟩ := on1_inv h
    exact R.one fun v R0 => by
      cases d with
      | str x => exact R0.str fun t => IsiPair.str_str (S.vqB (t := s.toks) h1)
      | int i => exact R0.int fun t => IsiPair.int_str (S.vqB h1)
      | none => exact R0.none (IsiPair.NoneType_str (S.vqB h1))
      | _ => exact h1.elim
  | divmod =>
    obtain ⟨a, b, rfl, h1⟩ := on2_inv h
    exact R.two fun v u R1 R2 => onII_el h1 R1 R2 fun a b t t' h =>
      divmod_N S.toFr full_news (ckp h).2 (fun h' F' N' =>
        have q := S.made (s' := { s with heap := h', toks := s.toks + 1 + 1 }) F' N' rfl rfl
        ⟨.tup [.int (a.fdiv b), .int (a.fmod b)], σ, lay, q.1, q.2.1, ⟨_, [.int (a.fdiv b) s.toks, .int (a.fmod b) (s.toks + 1)], rfl, ⟨_, _, q.2.2.2, _, q.2.2.1⟩, .cons (d := .int _) ⟨_, rfl⟩ (.cons (d := .int _) ⟨_, rfl⟩ .nil)⟩, (ckk h)⟩)
        (.inl (PyProof.noPylong_of_log2 (Nat.lt_trans (ckp h).1.log (by decide))))
  | all =>
    obtain ⟨d, rfl, h1⟩ := on1_inv h
    exact R.one fun v R0 => onL_el h1 R0 fun l a vs h1 I R1 => by
      obtain ⟨b, eb, h2⟩ := onO_inv (ckk h1)
      obtain ⟨bs, q1, q2⟩ := allL_bools R1 eb
      refine LSm.all_bools S.toFr full_news hh I.lst q1 fun h' tk F' N' => ?_
      rw [q2]
      have q := S.step (s' := { s with heap := h', toks := tk }) F' N' rfl rfl
      exact VQ.back q.2 (q.1.vqB (t := tk) h2)
end
end
section
open PySem.SeqAt
theorem toS_list (x : Tx) : (toS x).cps.toList = x := by simp [toS]
theorem lower_txt {x : Tx} (h : x.all (decide <| · < 128) = true) : Txt.lower (toS x) = toS (x.map lowC) := by
  rw [lower_ascii (by rw [toS_list]; intro c hc; exact of_decide_eq_true (List.all_eq_true.mp h c hc))]
  show Str.mk _ = Str.mk _
  congr 1
  simp only [toS, List.map_toArray]
  rfl
theorem takeWhile_len_drop {α : Type} (p : α → Bool) : ∀ l : List α, l.drop (l.takeWhile p).length = l.dropWhile p
  | [] => rfl
  | a :: r => by
    rw [List.takeWhile_cons, List.dropWhile_cons]
    split
    · simp [takeWhile_len_drop p r]
    · rfl
theorem strip_txt (x cs : Tx) : Txt.stripChars (toS x) (toS cs) = toS (stripL x cs) := by
  have hg : (toS cs).cps.contains = (cs.contains ·) := by funext c; simp [toS]
  apply PySem.Str.ext'
  apply Array.toList_inj.mp
  rw [toS_list]
  show (Txt.stripBy (toS cs).cps.contains true true (toS x)).cps.toList = _
  rw [PyProof.Rows.stripBy_eq, StrLaws.strSub_toList, hg]
  unfold stripLo stripHi
  simp only [if_true, toS_list, toS_len]
  rw [takeWhile_len_drop]
  unfold stripL
  have hl : (x.dropWhile (cs.contains ·)).length = x.length - (x.takeWhile (cs.contains ·)).length := by
    rw [← takeWhile_len_drop, List.length_drop]
  rw [← takeWhile_len_drop (cs.contains ·) (x.dropWhile (cs.contains ·)).reverse]
  rw [List.drop_reverse, List.reverse_reverse]
  congr 1
  refine (Nat.sub_right_comm _ _ _).trans ?_
  rw [hl]
theorem at_one (x : Tx) (c i : Nat) : StrLaws.At (toS x) (toS [c]) (toS x).length i ↔ x[i]? = some c := by
  unfold StrLaws.At
  rw [StrLaws.subAt_eq, toS_len, toS_len, toS_list, toS_list]
  constructor
  · rintro ⟨h1, h2⟩
    have h1 : i + 1 ≤ x.length := h1
    have hi : i < x.length := by lia
    have h3 := beq_iff_eq.mp h2
    have h4 := congrArg (fun l : List Nat => l[0]?) h3
    simpa [hi] using h4
  · intro h
    obtain ⟨hi, he⟩ := List.getElem?_eq_some_iff.mp h
    refine ⟨by show i + 1 ≤ x.length; lia, ?_⟩
    rw [List.drop_eq_getElem_cons hi, he]
    simp
theorem find_txt (x : Tx) (c : Nat) : Txt.find (toS x) (toS [c]) = findC x c := by
  unfold findC
  rcases PyProof.Rows.find_whole (toS x) (toS [c]) with ⟨h1, h2⟩ | ⟨i, h1, h2, h3⟩
  · have : x.findIdx? (· == c) = none := by
      rw [List.findIdx?_eq_none_iff]
      intro y hy
      rw [beq_eq_false_iff_ne]
      rintro rfl
      obtain ⟨i, hi, e⟩ := List.getElem_of_mem hy
      exact h2 i ((at_one x y i).mpr (by rw [List.getElem?_eq_getElem hi, e]))
    rw [h1, this]
  · have : x.findIdx? (· == c) = some i := by
      rw [List.findIdx?_eq_some_iff_getElem]
      have h2 := (at_one x c i).mp h2
      obtain ⟨hi, he⟩ := List.getElem?_eq_some_iff.mp h2
      refine ⟨hi, by simpa using he, fun j hj => ?_⟩
      intro q
      refine h3 j hj ((at_one x c j).mpr ?_)
      rw [List.getElem?_eq_getElem (by lia)]
      simpa using q
    rw [h1, this]
theorem join_txt : ∀ ts : List Tx, Txt.join (toS []) (ts.map toS) = toS ts.flatten := by
  intro ts
  show Txt.join _ _ = _
  unfold Txt.join
  rw [StrLaws.glued_eq_join]
  induction ts with
  | nil => rfl
  | cons x r ih =>
    cases r with
    | nil => simp [Str.join]
    | cons y r =>
      show toS x ++ toS [] ++ Str.join (toS []) ((y :: r).map toS) = _
      rw [ih, toS_append, toS_append]
      simp
end
section
open PySem.SeqAt
section
variable {M : Model} {A : Around} {E : Value → Shared → Prop} {s : Shared}
theorem nsSetZ {a : Addr} {m : Str → Option Value} {n : Nat} {name : Str} {v : Value} {Q : Unit → Shared → Prop} (hn : s.heap.Ns a m) (hz : s.heap.DictLe a n)
    (h : ∀ h', h'.Ns a (fun x => if x = name then some v else m x) → Heap.SameBut a s.heap h' → h'.DictLe a (if (m name).isSome then n else n + 1) → Q () { s with heap := h', toks := s.toks + 1 }) : wpAny M A (nsSet a name v) Q E s := by
  obtain ⟨o, es, ep, ho, hd, hk, hm⟩ := hn
  unfold nsSet
  refine wpAny_bind (wpAny_bind (wpAny_askSetting (wpAny_pure (wpAny_bind (wpAny_mkText (wpAny_bind (wpAny_loadPart ho ?_)))))))
  have hany : es.any (·.refKey) = false := by
    rw [Array.any_eq_false']; intro e he; obtain ⟨n, t, h⟩ := hk e he; simp [DictEntry.refKey, h]
  simp only [hd, aRefKeyMayBeTheName_eq, aRefKeyMayBeTheNameByArray, hany, Bool.and_false, Bool.false_eq_true, if_false]
  have hs := hz _ _ _ ho hd
  have hmn : m name = (match es.findIdx? (·.key.isStr name) with | some i => es[i]?.map (·.val) | none => none) := by
    rw [← hm name]; exact findBy_of_findIdx? (fun n v => v.isStr n) es name
  refine wpAny_updatePart ho (h _ ?_ (Heap.SameBut.update ..) ?_)
  · obtain ⟨c, d, dt, sl⟩ := o
    subst hd
    cases hi : es.findIdx? (·.key.isStr name) with
    | some i =>
      refine ⟨_, _, ep, Heap.get?_update_self _ ho (by simp only [Obj.putName_eq, Obj.putNameByArray, hi]; rfl), by simp only [Obj.putName_eq, Obj.putNameByArray, hi]; rfl, hk.modify _ _, fun x => ?_⟩
      show _ = if x = name then some v else m x
      rw [← hm]; exact findBy_modify (fun n v => v.isStr n) Value.isStr_inj es name x v i hi
    | none =>
      refine ⟨_, _, ep + 1, Heap.get?_update_self _ ho (by simp only [Obj.putName_eq, Obj.putNameByArray, hi]; rfl), by simp only [Obj.putName_eq, Obj.putNameByArray, hi]; rfl, hk.push _ _ _ _, fun x => ?_⟩
      show _ = if x = name then some v else m x
      rw [← hm]
      exact findBy_push (fun n v => v.isStr n) es name x _ _ v (fun y => by
        show (name == y) = decide (y = name)
        by_cases h : y = name
        · subst h; simp
        · have : ¬ name = y := fun e => h e.symm
          simp [h, this]) hi
  · obtain ⟨c, d, dt, sl⟩ := o
    subst hd
    intro o' es' ep' ho' hd'
    cases hi : es.findIdx? (·.key.isStr name) with
    | some i =>
      rw [Heap.get?_update_self _ ho (by simp only [Obj.putName_eq, Obj.putNameByArray, hi]; rfl)] at ho'
      simp only [Obj.putName_eq, Obj.putNameByArray, hi] at ho'
      cases ho'
      cases hd'
      split <;> simp <;> lia
    | none =>
      rw [hi] at hmn
      rw [Heap.get?_update_self _ ho (by simp only [Obj.putName_eq, Obj.putNameByArray, hi]; rfl)] at ho'
      simp only [Obj.putName_eq, Obj.putNameByArray, hi] at ho'
      cases ho'
      cases hd'
      rw [hmn]
      simp
      lia
end
end
section
open PySem.SeqAt
section
variable {prog : Program} {w : World} {A : Around} {E : Value → Shared → Prop} {s : Shared}
theorem stOk_of {K : Frag} {C : Addr} {name : Str} (h : stOk K C name = true) : findIn K (.ref C) "__setattr__" = some (some (.builtin "object.__setattr__")) ∧ plainOver K C = true ∧ takerIn K C name = some none ∧ (clsIn K C).any (·.hasDict) = true := by
  unfold stOk at h
  simp only [Bool.and_eq_true, beq_iff_eq] at h
  exact ⟨h.1.1.1, h.1.1.2, h.1.2, h.2⟩

theorem setAttrNs {K : Frag} {x dx C : Addr} {f : Str → Option Value} {n : Nat} {name : Str} {v : Value} {Q : Unit → Shared → Prop} (KX : K.In s.heap) (ok : stOk K C name = true) (I : Is s.heap x (.ref C) (some dx) .plain) (N : s.heap.Ns dx f)
    (hz : s.heap.DictLe dx n) (hn : n ≤ 1000) (h : ∀ h' tk, h'.Ns dx (fun y => if y = name then some v else f y) → Heap.SameBut dx s.heap h' → h'.DictLe dx (if (f name).isSome then n else n + 1) → Q () { s with heap := h', toks := tk }) :
    wpAny (model prog w) A (setAttr (.ref x) name v) Q E s := by
  obtain ⟨h1, h2, h3, h4⟩ := stOk_of ok
  obtain ⟨ox, od, IA, _⟩ := instAt_of I N
  refine set_plain KX IA h1 ?_
  refine osa_open (s := { s with toks := s.toks + 1 }) KX IA h2 h3 fun b => ?_
  obtain ⟨cd, hc, hd'⟩ := any_some h4
  obtain ⟨sl, hx⟩ := I
  refine wpAny_bind (wpAny_pure (wpAny_bind (wpAny_bind (wpAny_loadPart hx (wpAny_bind ((looks_clsIn (h := s.heap) KX hc) _ _ _ _ (fun _ _ e => e) ?_))))))
  rw [hd']
  refine wpAny_pure (a := some dx) (wpAny_bind (wpAny_pure (wpAny_bind ?_)))
  refine nsSetZ (s := { s with toks := s.toks + 1 }) N hz fun h' N' sb z' => ?_
  have N'' := N'
  obtain ⟨o', es', ep', ho', hd'', _⟩ := N''
  have := z' _ _ _ ho' hd''
  refine wpAny_bind (wpAny_lookBehind (o := o') ho' (by rw [hd'']; exact pastItsLine_dict (by rw [sizeLine_eq]; split at this <;> lia)) ?_)
  exact wpAny_pure (h _ _ N' sb z')
end
end
section
open PySem.SeqAt
set_option genCtorIdx false
set_option genSizeOf false
set_option genInjectivity false
section
variable {X : Cx} {fr : Fm} {m : Str → Option Value} {loc : Loc} {lay : Lay} {σ : Sto} {s : Shared} {A : Around} {E : Value → Shared → Prop}

theorem St.put (S : St X fr m loc lay σ s) {n : Nat} {mo : MO} {p : Addr × Addr} {q : Addr} {h' : Heap} {t : Nat} (hn : n < σ.length) (hp : lay[n]? = some p) (hq : q = p.1 ∨ q = p.2) (sb : Heap.SameBut q s.heap h')
    (hx : ∃ o, h'.get? q = some o ∧ ∀ vs, o.data ≠ .fields vs) (hmono : q = p.1 → ∀ vs n, s.heap.get? p.1 = some (listOf vs n) → ∃ vs' n', h'.get? p.1 = some (listOf vs' n') ∧ (vs.size < vs'.size ∨ (vs' = vs ∧ n' = n))) (new : Evo fr.ban (some fr.L) lay lay s.heap h' → MORep X h' lay fr.ban mo p) :
    St X fr m loc lay (σ.set n mo) { s with heap := h', toks := t } ∧ Evo fr.ban (some fr.L) lay lay s.heap h' := by
  have nq : NewAt X.base fr.ban s.heap q := by rcases hq with h | h <;> rw [h]; exact (S.g.new p (lay_mem hp)).1; exact (S.g.new p (lay_mem hp)).2
  obtain ⟨oq, eq, fq⟩ := hx
  have keepB : ∀ b o, b ≠ q → s.heap.get? b = some o → h'.get? b = some o := fun b o ne e => (sb.2 b ne).trans e
  have other : ∀ i p', lay[i]? = some p' → n ≠ i → p'.1 ≠ q ∧ p'.2 ≠ q := fun i p' hi hni => by
    have d := S.g.apart n i p p' hp hi hni
    rcases hq with h | h <;> rw [h]
    · exact ⟨fun z => d.1 z.symm, fun z => d.2.1 z.symm⟩
    · exact ⟨fun z => d.2.2.1 z.symm, fun z => d.2.2.2 z.symm⟩
  have E : Evo fr.ban (some fr.L) lay lay s.heap h' := by
    refine ⟨fun b o e => ?_, fun b o e F => keepB b o (fun hb => ?_) e, fun b hb _ o e => ⟨o.slots, keepB b o (fun h => nq.ban (h ▸ hb)) e⟩, ⟨[], by simp, fun p hp => nomatch hp⟩, fun p' hp' vs nn e => ?_⟩
    · by_cases hb : b = q
      · exact ⟨oq, hb ▸ eq⟩
      · exact ⟨o, keepB b o hb e⟩
    · have g := F.2 p (lay_mem hp)
      rcases hq with h | h
      · exact g.1 (h.symm.trans hb.symm)
      · exact g.2 (h.symm.trans hb.symm)
    · obtain ⟨i, hi, e2⟩ := List.getElem_of_mem hp'
      have e3 : lay[i]? = some p' := by rw [List.getElem?_eq_getElem hi, e2]
      by_cases hq1 : p'.1 = q
      · by_cases hni : n = i
        · have : p = p' := Option.some.inj (hp.symm.trans (hni ▸ e3))
          rw [← this] at e hq1 ⊢
          exact hmono hq1.symm vs nn e
        · exact absurd hq1 (other i p' e3 hni).1
      · exact ⟨vs, nn, keepB _ _ hq1 e, .inr ⟨rfl, rfl⟩⟩
  have ns : h'.Ns fr.L m := by
    obtain ⟨o, es, ep, ho, r⟩ := S.ns
    exact ⟨o, es, ep, keepB _ _ (fun h => nq.ban (h ▸ fr.L_ban)) ho, r⟩
  have nw : ∀ a, NewAt X.base fr.ban s.heap a → NewAt X.base fr.ban h' a := fun a x => by
    by_cases h : a = q
    · obtain ⟨b, c, _⟩ := x
      exact ⟨b, c, oq, h ▸ eq, fq⟩
    · exact x.to id fun o e _ => keepB _ _ h e
  refine ⟨⟨ns, fun i x d a b => (S.loc i x d a b).imp fun v r => ⟨r.1, r.2.evo E⟩, S.above, ?_⟩, E⟩
  refine ⟨fun b o e => keepB b o (fun hb => by rw [hb, nq.base] at e; cases e) (S.g.stays b o e), funFrames_keep eq fq (fun b o ne e _ => ⟨o.slots, keepB b o ne e⟩) S.g.frames, by rw [List.length_set]; exact S.g.len, fun i mo' p' a b => ?_,
    fun p' hp' => ⟨nw _ (S.g.new p' hp').1, nw _ (S.g.new p' hp').2⟩, S.g.apart, S.g.gens, S.g.os, S.g.sys⟩
  by_cases hi : n = i
  · subst hi
    cases hp.symm.trans b
    cases (List.getElem?_set_self hn).symm.trans a
    exact new E
  · rw [List.getElem?_set_ne hi] at a
    have k := other i p' b hi
    exact (S.g.sto i mo' p' a b).keeps E (fun o e => keepB _ o k.1 e) (fun o e => keepB _ o k.2 e)

theorem append_sound (S : St X fr m loc lay σ s) {n : Nat} {l : List D} {d : D} {p : Addr × Addr} {u : Value} {k : KV} (hn : n < σ.length) (R : ListRep X s.heap lay fr.ban l p) (hp : lay[n]? = some p) (Q : Rep X s.heap lay fr.ban d u) (hz : Sz (l.length + 1))
    (h : k .none (σ.set n (.list (l ++ [d])))) : wpAny (model X.prog X.w) A (call (.builtin "list.append") [.ref p.1, u]) (VQ X fr m loc s.heap lay k) E s := by
  obtain ⟨e2, vs, c, I1, R1⟩ := R
  refine append_at I1 (fun h' sb hg => ?_) (by rw [List.size_toArray, ← R1.length, sizeLine_eq]; unfold Sz at hz; lia)
  have hg' : h'.get? p.1 = some (listOf (vs ++ [u]).toArray (c + 1)) := by rw [hg]; simp [W.listOf]
  have q := S.put (t := s.toks) (mo := .list (l ++ [d])) hn hp (.inl rfl) sb ⟨_, hg, fun vs q => by cases q⟩ (fun _ vs' n' e => by
    rw [I1] at e; cases e; exact ⟨_, _, hg', .inl (by simp)⟩) fun E => ⟨e2, _, _, hg', RepL.append (R1.evo E) (.cons (Q.evo E) .nil)⟩
  exact ⟨.none, _, lay, q.1, q.2, rfl, h⟩

section
variable {K : Type} [DecidableEq K]
theorem valueAt_cons (a : K × Value) (r : List (K × Value)) (x : K) : valueAt (a :: r) x = if a.1 = x then some a.2 else valueAt r x := by
  unfold valueAt
  rw [List.find?_cons]
  by_cases h : a.1 = x
  · rw [if_pos h, decide_eq_true h]; rfl
  · rw [if_neg h, decide_eq_false h]
theorem valueAt_map (k : K) (v : Value) (x : K) : ∀ kvs : List (K × Value), valueAt (kvs.map fun kv => if kv.1 = k then (kv.1, v) else kv) x = if x = k then (valueAt kvs k).map (fun _ => v) else valueAt kvs x
  | [] => by by_cases h : x = k; rw [if_pos h]; rfl; rw [if_neg h]; rfl
  | a :: r => by
    rw [List.map_cons, valueAt_cons, valueAt_map k v x r, valueAt_cons, valueAt_cons]
    by_cases h : a.1 = k
    · rw [if_pos h, if_pos h]
      by_cases h2 : x = k
      · rw [if_pos (h.trans h2.symm), if_pos h2]; rfl
      · rw [if_neg fun e => h2 (e.symm.trans h), if_neg h2, if_neg h2, if_neg fun e => h2 (e.symm.trans h)]
    · rw [if_neg h, if_neg h]
      by_cases h2 : x = k
      · rw [if_neg fun e => h (e.trans h2), if_pos h2, if_pos h2]
      · rw [if_neg h2, if_neg h2]
theorem valueAt_snoc (k : K) (v : Value) (x : K) : ∀ kvs : List (K × Value), valueAt kvs k = none → valueAt (kvs ++ [(k, v)]) x = if x = k then some v else valueAt kvs x
  | [], _ => by
    rw [List.nil_append, valueAt_cons]
    by_cases h : x = k
    · rw [if_pos h, if_pos h.symm]
    · rw [if_neg h, if_neg fun e => h e.symm]
  | a :: r, e => by
    rw [valueAt_cons] at e
    by_cases h : a.1 = k
    · rw [if_pos h] at e; cases e
    · rw [if_neg h] at e
      rw [List.cons_append, valueAt_cons, valueAt_snoc k v x r e, valueAt_cons]
      by_cases h2 : x = k
      · rw [if_pos h2, if_pos h2, if_neg fun e => h (e.trans h2)]
      · rw [if_neg h2, if_neg h2]
theorem valueAt_stored (kvs : List (K × Value)) (k : K) (v : Value) (x : K) : valueAt (stored kvs k v) x = if x = k then some v else valueAt kvs x := by
  cases h : valueAt kvs k with
  | none => rw [stored_absent h, valueAt_snoc k v x kvs h]
  | some u =>
    unfold stored
    rw [if_pos (by rw [← valueAt_isSome_eq_any, h]; rfl), valueAt_map, h]; rfl
end
theorem stored_len {K : Type} [DecidableEq K] (kvs : List (K × Value)) (k : K) (v : Value) : (stored kvs k v).length = if (valueAt kvs k).isSome then kvs.length else kvs.length + 1 := by
  cases h : valueAt kvs k with
  | none => rw [stored_absent h]; exact List.length_append
  | some u =>
    unfold stored
    rw [if_pos (by rw [← valueAt_isSome_eq_any, h]; rfl)]; exact List.length_map _
theorem put_le {a b : Bool} {n m : Nat} (h : b = a) (z : n ≤ m) : (if a = true then n else n + 1) ≤ if b = true then m else m + 1 := by
  cases h; cases a; exact Nat.succ_le_succ z; exact z
theorem putA_len {α : Type} [BEq α] [LawfulBEq α] (x : α) (d : D) : ∀ l : List (α × D), (putA x d l).length = if (l.lookup x).isSome then l.length else l.length + 1
  | [] => by simp [putA]
  | (y, e) :: r => by
    unfold putA
    by_cases h : y = x
    · subst h; simp
    · have h1 : (y == x) = false := beq_eq_false_iff_ne.mpr h
      have h2 : (x == y) = false := beq_eq_false_iff_ne.mpr fun e => h e.symm
      simp only [h1, Bool.false_eq_true, if_false, List.length_cons, List.lookup_cons, h2, putA_len x d r]
      split <;> rfl
theorem putA_lookup {α : Type} [BEq α] [LawfulBEq α] [DecidableEq α] (x : α) (d : D) (z : α) : ∀ l : List (α × D), (putA x d l).lookup z = if z = x then some d else l.lookup z
  | [] => by
    by_cases h : z = x
    · subst h; simp [putA]
    · have : (z == x) = false := beq_eq_false_iff_ne.mpr h
      simp [putA, h, List.lookup_cons, this]
  | (y, e) :: r => by
    unfold putA
    by_cases h : y = x
    · subst h
      by_cases h2 : z = y
      · subst h2; simp
      · have : (z == y) = false := beq_eq_false_iff_ne.mpr h2
        simp [List.lookup_cons, this, h2]
    · have h1 : (y == x) = false := beq_eq_false_iff_ne.mpr h
      simp only [h1, Bool.false_eq_true, if_false, List.lookup_cons, putA_lookup x d z r]
      by_cases h2 : z = y
      · subst h2; simp [h]
      · have : (z == y) = false := beq_eq_false_iff_ne.mpr h2
        simp [this]

theorem ORep.put {h : Heap} {ban : List Addr} {p q : Prop} [Decidable p] [Decidable q] (e : p ↔ q) {d : D} {x : Value} {o w} (Q : Rep X h lay ban d x) (r : ORep X h lay ban o w) : ORep X h lay ban (if p then some d else o) (if q then some x else w) := by
  by_cases z : p
  · rw [if_pos z, if_pos (e.mp z)]; exact ⟨x, rfl, Q⟩
  · rw [if_neg z, if_neg fun y => z (e.mpr y)]; exact r
theorem ORep.evo {h h' : Heap} {ban : List Addr} {L : Option Addr} (E : Evo ban L lay lay h h') {o w} (r : ORep X h lay ban o w) : ORep X h' lay ban o w := r.tr E.kp.tr
inductive PutQ (X : Cx) (fr : Fm) (m : Str → Option Value) (loc : Loc) (lay : Lay) (s : Shared) (a : Addr) (u x : Value) (k : Sto → Prop) : Prop where
  | mk (K : Type) (D : DecidableEq K) (knd : KeyKind X.prog X.w K) (key : K) (kvs : List (K × Value)) (is : knd.is key u = true) (M : s.heap.DictOf knd a kvs) (z : kvs.length ≤ sizeLine)
      (H : ∀ h' t, h'.DictOf knd a (stored kvs key x) → Heap.SameBut a s.heap h' → ∃ σ', St X fr m loc lay σ' { s with heap := h', toks := t } ∧ Evo fr.ban (some fr.L) lay lay s.heap h' ∧ k σ') : PutQ X fr m loc lay s a u x k
theorem put_dict (S : St X fr m loc lay σ s) {n : Nat} {p : Addr × Addr} (hn : n < σ.length) (hp : lay[n]? = some p) {K : Type} [DecidableEq K] {knd : KeyKind X.prog X.w K} {kvs kvs' : List (K × Value)} {mo : MO} {h' : Heap} {t : Nat}
    (M : s.heap.DictOf knd p.1 kvs) (M' : h'.DictOf knd p.1 kvs') (sb : Heap.SameBut p.1 s.heap h') (new : Evo fr.ban (some fr.L) lay lay s.heap h' → MORep X h' lay fr.ban mo p) :
    St X fr m loc lay (σ.set n mo) { s with heap := h', toks := t } ∧ Evo fr.ban (some fr.L) lay lay s.heap h' := by
  obtain ⟨od, _, _, ho, _, hdd, _⟩ := M'
  obtain ⟨od', _, _, ho', _, hdd', _⟩ := M
  exact S.put hn hp (.inl rfl) sb ⟨od, ho, fun vs q => Data.noConfusion (hdd.symm.trans q)⟩ (fun _ vs' n' e => by rw [ho'] at e; cases e; cases hdd') new
theorem put_core (S : St X fr m loc lay σ s) {o j d : D} {v u x : Value} {k : Sto → Prop} (R : Rep X s.heap lay fr.ban o v) (Rj : Rep X s.heap lay fr.ban j u) (Q : Rep X s.heap lay fr.ban d x) (h : setIP σ o j d k) :
    ∃ a, v = .ref a ∧ PutQ X fr m loc lay s a u x k := by
  refine onH_el h R fun n p h hp => ⟨p.1, rfl, ?_⟩
  cases j with
  | str y =>
    exact Rj.str fun t => by
      obtain ⟨l, ⟨e2, kvs, M, z, zn, q⟩, hz⟩ := S.sdict (ckp h) hp (ckk h)
      have hk := ckk hz
      refine ⟨_, inferInstance, okKind X.prog X.w, some (toS y), kvs, by simp [okKind, isOk, Value.isStrOf], M, Nat.le_trans z (Nat.le_of_succ_le (ckp hz).line), fun h' t M' sb => ?_⟩
      have q := put_dict S (mo := .sdict (putA y d l)) (t := t) (ckp h) hp M M' sb fun E => ⟨e2, _, M', by rw [stored_len, putA_len]; exact put_le (q y).isSome.symm z, by rw [valueAt_stored, if_neg (fun e => nomatch e)]; exact zn, fun i => by
        rw [valueAt_stored, putA_lookup]
        exact .put ⟨fun e => congrArg (fun z => some (toS z)) e, fun e => toS_inj (Option.some.inj e)⟩ (Q.evo E) ((q i).evo E)⟩
      exact ⟨_, q.1, q.2, hk⟩
  | int y =>
    exact Rj.int fun t => by
      obtain ⟨l, ⟨e2, kvs, M, z, q⟩, hz⟩ := S.idict (ckp h) hp (ckk h)
      have hk := ckk hz
      refine ⟨_, inferInstance, PySem.intKind X.prog X.w, y, kvs, by simp [PySem.intKind, Value.isInt], M, Nat.le_trans z (Nat.le_of_succ_le (ckp hz).line), fun h' t M' sb => ?_⟩
      have q := put_dict S (mo := .idict (putA y d l)) (t := t) (ckp h) hp M M' sb fun E => ⟨e2, _, M', by rw [stored_len, putA_len]; exact put_le (q y).isSome.symm z, fun i => by
        rw [valueAt_stored, putA_lookup]
        exact .put Iff.rfl (Q.evo E) ((q i).evo E)⟩
      exact ⟨_, q.1, q.2, hk⟩
  | _ => exact (ckk h).elim

theorem setI_sound (S : St X fr m loc lay σ s) {o j d : D} {v u x : Value} {k : Sto → Prop} (R : Rep X s.heap lay fr.ban o v) (Rj : Rep X s.heap lay fr.ban j u) (Q : Rep X s.heap lay fr.ban d x) (h : setIP σ o j d k) {P : Unit → Shared → Prop}
    (hk : ∀ σ' s', St X fr m loc lay σ' s' → Evo fr.ban (some fr.L) lay lay s.heap s'.heap → k σ' → P () s') : wpAny (model X.prog X.w) A (setItem v u x) P E s := by
  obtain ⟨a, rfl, K, _, knd, key, kvs, h1, h2, h3, h4⟩ := put_core S R Rj Q h
  refine wpAny_setItem_pairs h1 h2 (fun h' M' sb => ?_) h3
  obtain ⟨σ', S', E', h'⟩ := h4 h' (s.toks + 1) M' sb
  exact hk _ _ S' E' h'
theorem setD_sound (S : St X fr m loc lay σ s) {o j d : D} {a : Addr} {u x : Value} {k : Sto → Prop} (R : Rep X s.heap lay fr.ban o (.ref a)) (Rj : Rep X s.heap lay fr.ban j u) (Q : Rep X s.heap lay fr.ban d x) (h : setIP σ o j d k) {P : Unit → Shared → Prop}
    (hk : ∀ σ' s', St X fr m loc lay σ' s' → Evo fr.ban (some fr.L) lay lay s.heap s'.heap → k σ' → P () s') : wpAny (model X.prog X.w) A (dictSet a u x) P E s := by
  obtain ⟨a', e, K, _, knd, key, kvs, h1, h2, h3, h4⟩ := put_core S R Rj Q h
  cases e
  refine wpAny_dictSet_pairs h1 h2 (fun h' M' sb => ?_) h3
  obtain ⟨σ', S', E', h'⟩ := h4 h' (s.toks + 1) M' sb
  exact hk _ _ S' E' h'

theorem setA_sound (O : X.Ok) (S : St X fr m loc lay σ s) {o d : D} {v x : Value} {i : Nat} {k : Sto → Prop} (hi : i < X.B.nAt) (R : Rep X s.heap lay fr.ban o v) (Q : Rep X s.heap lay fr.ban d x) (h : setAP σ o i d k) {P : Unit → Shared → Prop}
    (hk : ∀ σ' s', St X fr m loc lay σ' s' → Evo fr.ban (some fr.L) lay lay s.heap s'.heap → k σ' → P () s') : wpAny (model X.prog X.w) A (setAttr v (X.B.atN i) x) P E s :=
  onH_el h R fun n p h hp => by
    obtain ⟨c, l, ⟨hc, I, ne, f, N, z, q⟩, h1⟩ := S.inst (ckp h) hp (ckk h)
    have hz : l.length ≤ 100 := ckp h1
    have h1 := ckk h1
    refine setAttrNs (S.KX O) (O.st_ c hc i hi) I N z (by lia) fun h' tk N' sb z' => ?_
    obtain ⟨od, _, _, ho, hdd, _⟩ := id N'
    obtain ⟨sl, e⟩ := I
    have q := S.put (t := tk) (mo := .inst c (putA i d l)) (ckp h) hp (.inr rfl) sb ⟨od, ho, fun vs q => Data.noConfusion (hdd.symm.trans q)⟩ (fun hq => absurd hq.symm ne) fun E =>
      ⟨hc, ⟨sl, (sb.2 _ ne).trans e⟩, ne, _, N', fun o es ep ho hd => Nat.le_trans (z' _ _ _ ho hd) (by rw [putA_len]; exact put_le (q i).isSome.symm (Nat.le_refl _)), fun j => by
        rw [putA_lookup]
        exact .put ⟨fun e => congrArg _ e, fun e => O.atInj _ _ e⟩ (Q.evo E) ((q j).evo E)⟩
    exact hk _ _ q.1 q.2 h1
end
end
section
open PySem.SeqAt
set_option maxRecDepth 100000
section
variable {X : Cx} {fr : Fm} {m : Str → Option Value} {loc : Loc} {lay : Lay} {σ : Sto} {s : Shared} {A : Around} {E : Value → Shared → Prop}

noncomputable def bmId : BM → String
  | .lower => "str.lower" | .strip => "str.strip" | .find => "str.find" | .join => "str.join" | .append => "list.append" | .get1 => "dict.get" | .get2 => "dict.get"

theorem lookStr {x : Str} {t : Tok} {pl : Sem Bool} {id : String} {nm : Str} {M : Model} (slot : Slot "str" nm id) (ty : typeOf (.builtin id) = pure (.type "method_descriptor")) {Q : Value × List Value → Shared → Prop} (q : Q (.builtin id, [.str x t]) s) :
    wpAny M A (getMethod (.str x t) nm pl) Q E s := by
  refine getMethod_builtin (T := "str") (id := id) ?a ?b ?c ?d ?e ?f
  case a => exact (typeIs_str s _ _)
  case b => exact PySem.F.plainAttrs_str
  case c => exact slot
  case d => exact ty
  case e => exact (fun _ q => nomatch q)
  case f => exact q
theorem lookList {a : Addr} {vs : Array Value} {n : Nat} {pl : Sem Bool} {id : String} {nm : Str} {M : Model} (I1 : s.heap.get? a = some (listOf vs n)) (slot : Slot "list" nm id) (ty : typeOf (.builtin id) = pure (.type "method_descriptor")) {Q : Value × List Value → Shared → Prop} (q : Q (.builtin id, [.ref a]) s) :
    wpAny M A (getMethod (.ref a) nm pl) Q E s := by
  refine getMethod_builtin (T := "list") (id := id) ?a ?b ?c ?d ?e ?f
  case a => exact ⟨_, I1, rfl⟩
  case b => exact PySem.F.plainAttrs_list
  case c => exact slot
  case d => exact ty
  case e => exact (fun a e => by cases e; exact ⟨_, I1, rfl⟩)
  case f => exact q
theorem lookDict {K : Type} [DecidableEq K] {prog : Program} {w : World} {knd : KeyKind prog w K} {a : Addr} {kvs : List (K × Value)} {pl : Sem Bool} {id : String} {nm : Str} {M : Model} (I : s.heap.DictOf knd a kvs) (slot : Slot "dict" nm id) (ty : typeOf (.builtin id) = pure (.type "method_descriptor"))
    {Q : Value × List Value → Shared → Prop} (q : Q (.builtin id, [.ref a]) s) : wpAny M A (getMethod (.ref a) nm pl) Q E s := by
  refine getMethod_builtin (T := "dict") (id := id) ?a ?b ?c ?d ?e ?f
  case a => exact I.typeIs
  case b => exact PySem.F.plainAttrs_dict
  case c => exact slot
  case d => exact ty
  case e => exact I.mapOf.noDict
  case f => exact q

theorem look_sound (S : St X fr m loc lay σ s) {b : BM} {o : D} {v : Value} {pl : Sem Bool} (R : Rep X s.heap lay fr.ban o v) {P : Prop} (h : bmOk σ b o P) {Q : Value × List Value → Shared → Prop} (q : P → Q (.builtin (bmId b), [v]) s) :
    wpAny (model X.prog X.w) A (getMethod v (bmN b) pl) Q E s := by
  revert q
  cases b with
  | lower => exact onS_el h R fun x t p q => lookStr PySem.F.slot_str_lower PySem.F.type_str_lower (q p)
  | strip => exact onS_el h R fun x t p q => lookStr PySem.F.slot_str_strip PySem.F.type_str_strip (q p)
  | find => exact onS_el h R fun x t p q => lookStr PySem.F.slot_str_find PySem.F.type_str_find (q p)
  | join => exact onS_el h R fun x t p q => lookStr PySem.F.slot_str_join PySem.F.type_str_join (q p)
  | append =>
    exact onH_el h R fun n p h hp q => by
      obtain ⟨l, ⟨e2, vs, c, I1, R1⟩, h⟩ := S.list (ckp h) hp (ckk h)
      exact lookList I1 PySem.F.slot_list_append PySem.F.type_list_append (q h)
  | get1 =>
    exact onH_el h R fun n p h hp q => by
      have h2 := (ckk h)
      cases el : σ.at n with
      | sdict l =>
        rw [el] at h2
        obtain ⟨e2, kvs, M, z, zn, q'⟩ := S.g.sto _ _ p (at_get (ckp h) el) hp
        exact lookDict M PySem.F.slot_dict_get PySem.F.type_dict_get (q h2)
      | idict l =>
        rw [el] at h2
        obtain ⟨e2, kvs, M, z, q'⟩ := S.g.sto _ _ p (at_get (ckp h) el) hp
        exact lookDict M PySem.F.slot_dict_get PySem.F.type_dict_get (q h2)
      | _ => rw [el] at h2; exact h2.elim
  | get2 => exact h.elim

theorem strs_rep {h ban} : ∀ {l : List D} {vs : List Value} {ts : List Tx}, RepL X h lay ban l vs → strsOf l = some ts → StrsAre vs (ts.map toS)
  | [], vs, ts, R, e => R.unnil (Option.some.inj e ▸ .nil)
  | d :: l, vs, ts, R, e => R.uncons fun v us r R2 => by
    cases d with
    | str y =>
      obtain ⟨ts', e', rfl⟩ := Option.map_eq_some_iff.mp e
      exact r.str fun t => .cons _ _ (strs_rep R2 e')
    | _ => cases e

theorem join_sound {D : Addr} {items : Array Value} {l : List Mine.D} {ts : List Tx} {t : Tok} {k : KV} (S : St X fr m loc lay σ s) (hl : s.heap.IsList D items) (hr : RepL X s.heap lay fr.ban l items.toList) (e : strsOf l = some ts)
    (h : (ts.map List.length).sum ≤ 16777216 ∧ k (.str ts.flatten) σ) : wpAny (model X.prog X.w) A (call (.builtin "str.join") [.str (toS []) t, .ref D]) (VQ X fr m loc s.heap lay k) E s := by
  refine join_list hl (strs_rep hr e) ?_ fun t' tk => ?_
  · have : ((ts.map toS).map (·.length)) = ts.map List.length := by rw [List.map_map]; exact List.map_congr_left fun x _ => toS_len x
    rw [this]
    simpa [toS_len] using h.1
  · rw [join_txt]; exact S.vqS h.2

theorem ORep.getD {h ban o w} (r : ORep X h lay ban o w) : Rep X h lay ban (o.getD .none) (w.getD .none) := by
  cases o with
  | none => cases (show w = none from r); exact rfl
  | some d => obtain ⟨v, e, r⟩ := r; rw [e]; exact r
theorem bmeth_sound (S : St X fr m loc lay σ s) (hs : True) {b : BM} {o : D} {v : Value} {ds : List D} {vs : List Value} {k : KV} (R : Rep X s.heap lay fr.ban o v) (Q : RepL X s.heap lay fr.ban ds vs) (h : bmethP σ b o ds k) :
    wpAny (model X.prog X.w) A (call (.builtin (bmId b)) (v :: vs)) (VQ X fr m loc s.heap lay k) E s := by
  cases b with
  | lower =>
    exact onS_el h R fun x t h => by
      obtain ⟨rfl, h1⟩ := onE_inv h
      have h2 := (ckk h1).1
      exact Q.unnil (SC.lower (by rw [lower_txt h2, toS_len, List.length_map]; exact short24 (ckp h1)) (by rw [lower_txt h2]; exact S.vqS (ckk h1).2))
  | strip =>
    exact onS_el h R fun x t h => by
      obtain ⟨d, rfl, h1⟩ := on1_inv h
      exact Q.one fun u R0 => onS_el h1 R0 fun cs t' h => SC.stripChars (fun t' tk => by rw [strip_txt]; exact S.vqS (ckk h)) (by rw [toS_len]; exact (ckp h).line)
  | find =>
    exact onS_el h R fun x t h => by
      obtain ⟨d, rfl, h1⟩ := on1_inv h
      exact Q.one fun u R0 => onS_el h1 R0 fun cs t' h => by
        obtain ⟨c, rfl, h2⟩ := on1_inv h
        exact SC.find (by rw [find_txt]; exact S.vqI (ckk h2))
  | join =>
    exact onS_el h R fun x t h => by
      obtain ⟨rfl, h1⟩ := onE_inv h
      obtain ⟨d, rfl, h2⟩ := on1_inv h1
      exact Q.one fun u R0 => by
        cases d with
        | lst l =>
          obtain ⟨ts, e, h3⟩ := onO_inv h2
          exact R0.lst fun a ws I R1 => join_sound S I.lst R1 e h3
        | h n =>
          exact R0.ofH fun p hp => by
            obtain ⟨l, ⟨e2, vs, c, I1, R1⟩, h3⟩ := S.list (ckp h2) hp (ckk h2)
            obtain ⟨ts, e, h4⟩ := onO_inv h3
            exact join_sound S ⟨_, I1, rfl, _, rfl⟩ R1 e h4
        | _ => exact h2.elim
  | get1 =>
    exact onH_el h R fun n p h hp => by
      obtain ⟨d, rfl, h1⟩ := on1_inv h
      have hn := ckp h1
      have h1 := ckk h1
      exact Q.one fun u R0 => by
        cases d with
        | int i =>
          exact R0.int fun t => by
            obtain ⟨l, ⟨e2, kvs, M, z, q⟩, h2⟩ := S.idict hn hp h1
            exact call_meetsIn PySem.F.slot_dict_get M.typeIs PySem.F.entry_dict_get (PySem.F.args_dict_get_2 _ _) (meets_dict_get (PySem.intKind X.prog X.w) p.1 (k := i) (by simp [PySem.intKind, Value.isInt]) (lay_sys S hs e2 (lay_mem hp))) ⟨_, M.mapOf, S.vq (q i).getD h2⟩
        | none =>
          exact R0.none (by
            obtain ⟨l, ⟨e2, kvs, M, z, zn, q⟩, h2⟩ := S.sdict hn hp h1
            exact call_meetsIn PySem.F.slot_dict_get M.typeIs PySem.F.entry_dict_get (PySem.F.args_dict_get_2 _ _) (meets_dict_get (okKind X.prog X.w) p.1 (k := none) rfl (lay_sys S hs e2 (lay_mem hp))) ⟨_, M.mapOf, by rw [zn]; exact S.vqN h2⟩)
        | str x =>
          exact R0.str fun t => by
            obtain ⟨l, ⟨e2, kvs, M, z, zn, q⟩, h2⟩ := S.sdict hn hp h1
            exact call_meetsIn PySem.F.slot_dict_get M.typeIs PySem.F.entry_dict_get (PySem.F.args_dict_get_2 _ _) (meets_dict_get (okKind X.prog X.w) p.1 (k := some (toS x)) (by simp [okKind, isOk, Value.isStrOf]) (lay_sys S hs e2 (lay_mem hp))) ⟨_, M.mapOf, S.vq (q x).getD h2⟩
        | _ => exact h1.elim
  | append =>
    exact onH_el h R fun n p h hp => by
      obtain ⟨d, rfl, h1⟩ := on1_inv h
      have hn := ckp h1
      have h1 := ckk h1
      obtain ⟨l, L, h2⟩ := S.list hn hp h1
      exact Q.one fun u R0 => append_sound S hn L hp R0 (ckp h2) (ckk h2)
  | get2 => exact h.elim
end
end
section
open PySem.SeqAt
section
variable {X : Cx} {fr : Fm} {m : Str → Option Value} {loc : Loc} {lay : Lay} {σ : Sto} {s : Shared} {A : Around} {E : Value → Shared → Prop}

theorem G.freeBase {envs : List Env} (g : G X envs lay σ s) {a : Addr} {o : Obj} (e : X.base.get? a = some o) : Free lay (banOf envs) a := by
  refine ⟨fun h => ?_, fun p hp => ⟨fun h => ?_, fun h => ?_⟩⟩
  · rw [(g.frames.mem h).1] at e; cases e
  · rw [← h, (g.new p hp).1.base] at e; cases e
  · rw [← h, (g.new p hp).2.base] at e; cases e
theorem G.tr {envs : List Env} (g : G X envs lay σ s) : Trf [] lay [] (banOf envs) X.base s.heap := ⟨fun a o e _ _ => ⟨g.stays _ _ e, g.freeBase e⟩, fun _ _ e => nomatch e⟩
theorem Rep.up {envs : List Env} (g : G X envs lay σ s) {d v} (r : Rep X X.base [] [] d v) : Rep X s.heap lay (banOf envs) d v := r.tr g.tr

theorem kts_of {K : Frag} {x : Str} {c : Value} (h : ktsB K x c = true) : KtsName K x c := by
  unfold ktsB at h
  simp only [Bool.or_eq_true, Bool.and_eq_true, beq_iff_eq, Bool.not_eq_true'] at h
  rcases h with h | ⟨⟨h1, h2⟩, h3⟩
  · exact .inl h
  · exact .inr ⟨h1, h2, fun e => by rw [e] at h3; simp at h3⟩

theorem gl_of {fr : Fm} {id : Str} (h : gl fr.scope id = true) : fr.env.kindOf id = some .globalImplicit ∧ (id == ("__debug__" : Str)) = false := by
  unfold gl at h
  simp only [Bool.and_eq_true, beq_iff_eq, Bool.not_eq_true'] at h
  exact ⟨h.1, h.2⟩

theorem name_sound (O : X.Ok) (FO : fr.Ok) (S : St X fr m loc lay σ s) {id : Str} {pos : Pos} {c : Value} {M : Model} {Q : Value → Shared → Prop} (h1 : gl fr.scope id = true) (h2 : ktsB X.K id c = true) (q : Q c s) :
    wpAny M A (eval (.Name id pos) fr.env) Q E s :=
  kts_name (kts_of h2) S.toFr O.KX O.top q FO.kind (gl_of h1).1 (gl_of h1).2

theorem local_sound (FO : fr.Ok) (S : St X fr m loc lay σ s) {i : Nat} {id : Str} {pos : Pos} {d : D} {M : Model} {Q : Value → Shared → Prop} (h1 : fr.nm[i]? = some id) (h2 : loc[i]? = some (some d))
    (q : ∀ v, Rep X s.heap lay fr.ban d v → Q v s) : wpAny M A (eval (.Name id pos) fr.env) Q E s := by
  obtain ⟨v, e, r⟩ := S.loc i id d h1 h2
  have hm : id ∈ fr.nm := List.mem_of_getElem? h1
  exact wpAny_Name (wpAny_loadName_local FO.kind (FO.loc id hm) S.ns e (q v r)) (FO.dbg id hm)

theorem starEach_cons {e : Expr} {es : List Expr} {env : Env} (h : unstar e = true) : starEach (e :: es) env = (false, eval e env) :: starEach es env := by
  cases e <;> first | rfl | exact absurd (show false = true from h) Bool.false_ne_true
theorem any_plain {es : CE} {B : Tb} {sc : Scope} {nm : List Str} : ∀ {vs : List Expr} {pos : Pos} {env : Env}, agL B sc nm es vs = true → (backTo pos (starEach vs env)).any (·.1) = false := by
  induction es with
  | nil => intro vs pos env h; cases List.isEmpty_iff.mp h; rfl
  | cons a r _ ih =>
    intro vs pos env h
    refine bC_el (show bC vs _ = true from h) fun e vs h => ?_
    rw [starEach_cons (bAnd (bAnd h).1).1]
    exact (Bool.false_or _).trans (ih (bAnd h).2)
  | _ => intro vs pos env h; exact absurd h Bool.false_ne_true

variable {M : Model}
theorem evalArgs_any {f : Value} {args : List (Bool × Sem Value)} {Q : Args → Shared → Prop} (hp : args.any (·.1) = false) (h : wpAny M A (spliced args) (fun vs s' => Q ⟨vs, []⟩ s') E s) : wpAny M A (evalArgs f true args []) Q E s := by
  cases args with
  | nil =>
    unfold evalArgs
    show wpAny M A (spliced [] >>= _) Q E s
    refine wpAny_bind (wpAny_mono h (fun vs s' h' => wpAny_bind (wpAny_pure ?_)) fun _ _ x => x)
    refine wpAny_holding ?_
    exact wpAny_bind (wpAny_pure (wpAny_bind (wpAny_pure (wpAny_pure h'))))
  | cons a r =>
    obtain ⟨b, t⟩ := a
    have : b = false := by simp at hp; exact hp.1
    subst this
    exact Calls.evalArgs_plain h
theorem callB {args : List (Bool × Sem Value)} {first : List Value} {pos : Pos} {id : String} {Q : Value → Shared → Prop} (hp : args.any (·.1) = false) (h : wpAny M A (spliced args) (fun vs s₁ => wpAny M A (call (.builtin id) (first ++ vs)) Q E s₁) E s) :
    wpAny M A (callWith pos (.builtin id) first args []) Q E s := by
  exact Calls.callWith_builtin hp (evalArgs_any hp h)
theorem callT {args : List (Bool × Sem Value)} {first : List Value} {pos : Pos} {id : String} {Q : Value → Shared → Prop} (hp : args.any (·.1) = false) (h : wpAny M A (spliced args) (fun vs s₁ => wpAny M A (call (.type id) (first ++ vs)) Q E s₁) E s) :
    wpAny M A (callWith pos (.type id) first args []) Q E s := by
  exact PySem.callWith_type hp (evalArgs_any hp h)
theorem callK {K : Frag} {f : Value} {args : List (Bool × Sem Value)} {first : List Value} {pos : Pos} {Q : Value → Shared → Prop} (hk : keepIn K f = true) (hp : args.any (·.1) = false)
    (h : wpAny M A (spliced args) (fun vs s₁ => K.In s₁.heap ∧ wpAny M A (call f (first ++ vs)) Q E s₁) E s) : wpAny M A (callWith pos f first args []) Q E s := by
  exact callWith_of (by rw [hp]; rfl) (keeps_K hk) (evalArgs_any hp h)
theorem Call_Name {env : Env} {id : Str} {p pos : Pos} {args : List Expr} {Q : Value → Shared → Prop} (h : wpAny M A (eval (.Name id p) env) (fun f s₁ => wpAny M A (callWith pos f [] (backTo pos (starEach args env)) []) Q E s₁) E s) :
    wpAny M A (eval (.Call (.Name id p) args [] pos) env) Q E s := wpAny_Call_Name_kw h

theorem base_plain {o : Expr} {name : Str} {env : Env} (h : noSuper o = true) : attributeBase o name env (eval o env) = eval o env := by
  cases o with
  | Call f args kws pos =>
    cases f with
    | Name id p =>
      cases args with
      | nil =>
        cases kws with
        | nil => exact absurd h Bool.false_ne_true
        | cons _ _ => rfl
      | cons _ _ => rfl
    | _ => rfl
  | _ => rfl
theorem Call_Meth {env : Env} {o : Expr} {name : Str} {apos pos : Pos} {args : List Expr} {Q : Value → Shared → Prop} (hs : noSuper o = true) (hp : (backTo pos (starEach args env)).any (·.1) = false) (hn : args.length < 20) (hl : (apos.endLine == pos.line) = true)
    (h : wpAny M A (eval o env) (fun ov s₁ => ∀ pl, wpAny M A (getMethod ov name pl) (fun fx s₂ => wpAny M A (callWith pos fx.1 fx.2 (backTo pos (starEach args env)) []) Q E s₂) E s₁) E s) :
    wpAny M A (eval (.Call (.Attribute o name apos) args [] pos) env) Q E s := by
  rw [arm_eval_Call, base_plain hs]
  refine wpAny_bind (wpAny_mono h (fun ov s₁ h₁ => wpAny_bind (wpAny_standAt ?_)) fun _ _ e => e)
  have hform : methodCallForm (args.length + ([] : List Keyword).length) (backTo pos (starEach args env)) (backToKw pos (keywordEach [] env)) = true := by
    unfold methodCallForm
    have : (backTo pos (starEach args env)).all (fun x => !x.1) = true := by
      rw [List.all_eq_true]
      intro x hx
      have := List.any_eq_false.mp hp x hx
      simpa using this
    have e2 : backToKw pos (keywordEach [] env) = [] := rfl
    rw [this, e2]
    simp
    lia
  have hpos : methodCallPos true o env apos pos = pure pos := by unfold methodCallPos; simp [hl]
  unfold methodCall
  rw [hform]
  refine wpAny_bind (wpAny_holding ?_)
  show wpAny _ _ (getMethod ov name _) _ _ _
  refine wpAny_mono (h₁ _) (fun fx s₂ h₂ => ?_) fun _ _ e => e
  exact wpAny_bind (wpAny_of_eq hpos h₂)
end
end
section
open PySem.SeqAt
set_option genCtorIdx false
set_option genSizeOf false
set_option genInjectivity false

structure Room (A : Around) (envs : List Env) (n : Nat) : Prop where
  handled : A.handled = none
  frames : A.frames = some envs
  depth : A.depth + 4 * n + 8 ≤ recursionLimit
  units : A.units + 20 * n + 100 ≤ cLine
theorem Room.cl {A envs n} (r : Room A envs n) : A.units < cLine := by have := r.units; lia

section
variable (X : Cx)
inductive GVQ (envs : List Env) (h₀ : Heap) (lay₀ : Lay) (k : KV) (v : Value) (s' : Shared) : Prop where
  | mk (d : D) (σ' : Sto) (lay' : Lay) (g : G X envs lay' σ' s') (E : Evo (banOf envs) none lay₀ lay' h₀ s'.heap) (R : Rep X s'.heap lay' (banOf envs) d v) (K : k d σ') : GVQ envs h₀ lay₀ k v s'
inductive GXQ (envs : List Env) (h₀ : Heap) (lay₀ : Lay) (x : KX) (v : Value) (s' : Shared) : Prop where
  | mk (c : Nat) (σ' : Sto) (lay' : Lay) (g : G X envs lay' σ' s') (E : Evo (banOf envs) none lay₀ lay' h₀ s'.heap) (T : Traced X h₀ c v s'.heap) (K : x c σ') : GXQ envs h₀ lay₀ x v s'
noncomputable def CallsOk (C : Calls) (n : Nat) : Prop :=
  ∀ (A : Around) (envs : List Env) (f : Nat) (ds : List D) (vs : List Value) (σ : Sto) (lay : Lay) (s : Shared) (k : KV) (x : KX), Room A envs n → G X envs lay σ s → RepL X s.heap lay (banOf envs) ds vs → C f ds σ k x →
    codeAny (model X.prog X.w) A (.call (.ref (X.B.fnA f)) ⟨vs, []⟩) (fun r s' => match r with | .ok (.ret v) => GVQ X envs s.heap lay k v s' | .ok _ => False | .error e => GXQ X envs s.heap lay x e s') s
end

section
variable {X : Cx} {fr : Fm} {m : Str → Option Value} {loc : Loc} {lay : Lay} {σ : Sto} {s : Shared} {A : Around} {E : Value → Shared → Prop}

theorem St.after (S : St X fr m loc lay σ s) {lay' σ' s'} (g : G X fr.envs lay' σ' s') (E : Evo fr.ban none lay lay' s.heap s'.heap) : St X fr m loc lay' σ' s' := by
  refine ⟨?_, fun i x d a b => (S.loc i x d a b).imp fun v r => ⟨r.1, r.2.evo E⟩, S.above, g⟩
  obtain ⟨o, es, ep, ho, hd, r⟩ := S.ns
  obtain ⟨sl, e⟩ := E.frames fr.L fr.L_ban (by simp) o ho
  exact ⟨_, es, ep, e, hd, r⟩
theorem GVQ.st (S : St X fr m loc lay σ s) {k : KV} {v s'} (q : GVQ X fr.envs s.heap lay k v s') : VQ X fr m loc s.heap lay k v s' := by
  obtain ⟨d, σ', lay', g, E, R, K⟩ := q; exact ⟨d, σ', lay', S.after g E, E.weak, R, K⟩
theorem GXQ.st (S : St X fr m loc lay σ s) {x : KX} {v s'} (q : GXQ X fr.envs s.heap lay x v s') : XQ X fr m loc s.heap lay x v s' := by
  obtain ⟨c, σ', lay', g, E, R, K⟩ := q; exact ⟨c, σ', lay', S.after g E, E.weak, R, K⟩

theorem call_sound {C : Calls} {n : Nat} (hC : CallsOk X C n) (r : Room A fr.envs n) (S : St X fr m loc lay σ s) {f : Nat} {ds : List D} {vs : List Value} {k : KV} {x : KX} (R : RepL X s.heap lay fr.ban ds vs) (h : C f ds σ k x) :
    wpAny (model X.prog X.w) A (call (.ref (X.B.fnA f)) vs) (VQ X fr m loc s.heap lay k) (XQ X fr m loc s.heap lay x) s := by
  refine wpAny_call (codeAny_mono (hC A fr.envs f ds vs σ lay s k x r S.g R h) fun r s' q => ?_)
  rcases r with e | (v | _ | _ | _)
  · exact GXQ.st S q
  · exact q.elim
  · exact q.elim
  · exact q.elim
  · exact GVQ.st S q

theorem St.notSys (S : St X fr m loc lay σ s) : (s.heap.objs.size == sysModules) = false := by
  obtain ⟨o, es, ep, ho, _⟩ := S.ns
  have h1 := Heap.lt_size ho
  have h2 := S.above
  have h3 := S.g.sys.1
  rw [beq_eq_false_iff_ne]
  intro q
  rw [q] at h1
  exact absurd (Nat.lt_trans h3 (Nat.lt_of_le_of_lt h2 h1)) (Nat.lt_irrefl _)
theorem snoc_at {α β : Type} {l : List α} {r : List β} {a b : α} {x y : β} {i : Nat} (e : r.length = l.length) (h : (l ++ [a])[i]? = some b) (h' : (r ++ [x])[i]? = some y) {P : Prop} (H1 : l[i]? = some b → r[i]? = some y → P) (H2 : i = l.length → a = b → x = y → P) : P := by
  by_cases hi : i < l.length
  · rw [List.getElem?_append_left hi] at h
    rw [List.getElem?_append_left (by rw [e]; exact hi)] at h'
    exact H1 h h'
  · have hl := (List.getElem?_eq_some_iff.mp h).1
    rw [List.length_append] at hl
    have e2 : i = l.length := Nat.le_antisymm (Nat.le_of_lt_succ hl) (Nat.le_of_not_lt hi)
    subst e2
    rw [List.getElem?_concat_length] at h
    rw [← e, List.getElem?_concat_length] at h'
    exact H2 rfl (Option.some.inj h) (Option.some.inj h')
theorem St.fresh (S : St X fr m loc lay σ s) {a : Addr} {s' : Shared} (e : s.heap.get? a = none) (x : ∃ o, s'.heap.get? a = some o ∧ ∀ vs, o.data ≠ .fields vs) : NewAt X.base fr.ban s'.heap a := by
  obtain ⟨o, h1, h2⟩ := x
  refine ⟨?_, fun h => ?_, o, h1, h2⟩
  · cases q : X.base.get? a with
    | none => rfl
    | some o => rw [S.g.stays a o q] at e; cases e
  · obtain ⟨_, o, ho, _⟩ := S.g.frames.mem h
    rw [e] at ho; cases ho
theorem St.grow (S : St X fr m loc lay σ s) {p : Addr × Addr} {mo : MO} {s' : Shared} (F : Fr X.base fr.L s'.heap m) (N : News X.base fr.L s'.heap (full X fr.L s.heap)) (hg : s'.gens = s.gens) (ho : s'.os = s.os)
    (n1 : s.heap.get? p.1 = none) (n2 : s.heap.get? p.2 = none) (ns : p.2 = p.1 → (p.1 == sysModules) = false) (x1 : ∃ o, s'.heap.get? p.1 = some o ∧ ∀ vs, o.data ≠ .fields vs) (x2 : ∃ o, s'.heap.get? p.2 = some o ∧ ∀ vs, o.data ≠ .fields vs)
    (new : Evo fr.ban (some fr.L) lay (lay ++ [p]) s.heap s'.heap → MORep X s'.heap (lay ++ [p]) fr.ban mo p) :
    St X fr m loc (lay ++ [p]) (σ ++ [mo]) s' ∧ Evo fr.ban (some fr.L) lay (lay ++ [p]) s.heap s'.heap := by
  obtain ⟨S₁, E₁⟩ := S.step F N hg ho
  have nl : ∀ a, s.heap.get? a = none → ∀ q ∈ lay, q.1 ≠ a ∧ q.2 ≠ a := fun a e q hq => ⟨fun h => (S.g.new q hq).1.here (h ▸ e), fun h => (S.g.new q hq).2.here (h ▸ e)⟩
  have E : Evo fr.ban (some fr.L) lay (lay ++ [p]) s.heap s'.heap := ⟨E₁.alive, E₁.keep, E₁.frames, ⟨[p], rfl, fun q hq => by
    rw [List.mem_singleton.mp hq]; exact ⟨n1, n2⟩⟩, E₁.mono⟩
  have kk := full_keep F N S.g.stays
  have ap : ∀ q ∈ lay, (q.1 ≠ p.1 ∧ q.1 ≠ p.2) ∧ (q.2 ≠ p.1 ∧ q.2 ≠ p.2) := fun q hq => ⟨⟨(nl _ n1 q hq).1, (nl _ n2 q hq).1⟩, ⟨(nl _ n1 q hq).2, (nl _ n2 q hq).2⟩⟩
  refine ⟨⟨S₁.ns, fun i x d a b => (S.loc i x d a b).imp fun v r => ⟨r.1, r.2.evo E⟩, S₁.above, S₁.g.stays, S₁.g.frames, by rw [List.length_append, List.length_append, S.g.len]; rfl, fun i mo' p' a b => ?_, fun p' hp' => ?_, fun i j p' q' a b hij => ?_, S₁.g.gens, S₁.g.os, S.g.sys.1,
    fun p' hp' e => (List.mem_append.mp hp').elim (fun h => S.g.sys.2 p' h e) fun h => by cases List.mem_singleton.mp h; exact ns e⟩, E⟩
  · refine snoc_at S.g.len a b (fun a b => ?_) fun _ a b => a ▸ b ▸ new E
    have l := S.g.L_lay fr.L_ban (lay_mem b)
    exact (S.g.sto i mo' p' a b).keeps E (fun o e => kk _ o l.1 e) (fun o e => kk _ o l.2 e)
  · rcases List.mem_append.mp hp' with h | h
    · exact S₁.g.new p' h
    · rw [List.mem_singleton.mp h]
      exact ⟨S.fresh n1 x1, S.fresh n2 x2⟩
  · refine snoc_at rfl a a (fun a _ => ?_) fun hi ei _ => ?_
    · refine snoc_at rfl b b (fun b _ => S.g.apart i j p' q' a b hij) fun _ ej _ => ?_
      have z := ap _ (lay_mem a)
      exact ej ▸ ⟨z.1.1, z.1.2, z.2.1, z.2.2⟩
    · refine snoc_at rfl b b (fun b _ => ?_) fun hj _ _ => absurd (hi.trans hj.symm) hij
      have z := ap _ (lay_mem b)
      exact ei ▸ ⟨z.1.1.symm, z.2.1.symm, z.1.2.symm, z.2.2.symm⟩
theorem St.growL (S : St X fr m loc lay σ s) {k : KV} {l : List D} {vs : List Value} {n : Nat} {h' : Heap} (F' : Fr X.base fr.L h' m) (N' : News X.base fr.L h' ((s.heap.objs.size, listOf vs.toArray n) :: full X fr.L s.heap)) (R : RepL X s.heap lay fr.ban l vs)
    (h : k (.h σ.length) (σ ++ [.list l])) : VQ X fr m loc s.heap lay k (.ref s.heap.objs.size) { s with heap := h' } := by
  have hn := (N' _ (.head _)).1
  have q := S.grow (p := (s.heap.objs.size, s.heap.objs.size)) (mo := .list l) (s' := { s with heap := h' }) F' (fun p hp => N' p (.tail _ hp)) rfl rfl (none_size _) (none_size _) (fun _ => S.notSys)
    ⟨_, hn, fun vs q => by cases q⟩ ⟨_, hn, fun vs q => by cases q⟩ fun E => ⟨rfl, vs, n, hn, R.evo E⟩
  exact ⟨.h σ.length, _, _, q.1, q.2, ⟨(s.heap.objs.size, s.heap.objs.size), by rw [← S.g.len]; exact List.getElem?_concat_length, rfl⟩, h⟩

theorem mlist_sound (S : St X fr m loc lay σ s) {k : KV} {l : List D} {vs : List Value} (R : RepL X s.heap lay fr.ban l vs) (h : ckz l.length (k (.h σ.length) (σ ++ [.list l]))) :
    wpAny (model X.prog X.w) A (newList vs) (VQ X fr m loc s.heap lay k) E s :=
  newList_N S.toFr full_news (fun h' F' N' => S.growL F' N' R (ckk h)) (R.length ▸ (ckp h).line)

theorem mcat_sound (S : St X fr m loc lay σ s) {k : KV} {p q : List D} {v u : Value} (R : Rep X s.heap lay fr.ban (.lst p) v) (Q : Rep X s.heap lay fr.ban (.lst q) u) (h : ckz (p.length + q.length) (k (.h σ.length) (σ ++ [.list (p ++ q)]))) :
    wpAny (model X.prog X.w) A (binaryOp .Add v u) (VQ X fr m loc s.heap lay k) E s :=
  R.lst fun a1 vs I1 R1 => Q.lst fun a2 ws I2 R2 => add_lists S.toFr full_news I1.lst I2.lst (fun h' F' N' => S.growL F' N' (R1.append R2) (ckk h)) (R1.length ▸ R2.length ▸ (ckp h).line)
end
end
section
open PySem.SeqAt
set_option genCtorIdx false
set_option genSizeOf false
set_option genInjectivity false

structure RoomB (A : Around) (envs : List Env) (n : Nat) : Prop where
  handled : A.handled = none
  frames : A.frames = some envs
  depth : A.depth + 4 * n + 10 ≤ recursionLimit
  units : A.units + 20 * n + 110 ≤ cLine
theorem RoomB.room {A envs n} (r : RoomB A envs n) : Room A envs n := ⟨r.handled, r.frames, by have := r.depth; lia, by have := r.units; lia⟩
theorem RoomB.under {A : Around} {envs n} (r : RoomB A envs n) (C : Addr) (rest : List Value) : Room (A.under (.builtin "type.__call__" ⟨.ref C :: rest, []⟩)) envs n := by
  have h1 : (A.under (.builtin "type.__call__" ⟨.ref C :: rest, []⟩)).depth = A.depth + 1 := rfl
  have h2 : (A.under (.builtin "type.__call__" ⟨.ref C :: rest, []⟩)).units = A.units + 1 := rfl
  refine ⟨r.handled, r.frames, ?_, ?_⟩
  · rw [h1]; have := r.depth; lia
  · rw [h2]; have := r.units; lia

section
variable {X : Cx} {fr : Fm} {m : Str → Option Value} {loc : Loc} {lay : Lay} {σ : Sto} {s : Shared} {A : Around} {E : Value → Shared → Prop}

theorem lit_sound (S : St X fr m loc lay σ s) {d : D} {e : Expr} {k : KV} {M : Model} {nm : List Str} (ha : agE X.B fr.scope nm (.lit d) e = true) (h : k d σ) : wpAny M A (eval e fr.env) (VQ X fr m loc s.heap lay k) E s :=
  xConst_el (show xConst e _ = true from ha) fun c kk p ha => by
    cases d with
    | none => cases (beq_iff_eq.mp ha : c = .none); exact Constant_none (S.vqN (t := s.toks) h)
    | bool b => cases (beq_iff_eq.mp ha : c = .bool b); exact Constant_bool (S.vqB (t := s.toks) h)
    | int i => cases (beq_iff_eq.mp ha : c = .int i); exact wpAny_Constant_int (S.vqI h)
    | str x => cases (beq_iff_eq.mp ha : c = .str (toS x)); exact Calls.Constant_str (S.vqS h)
    | _ => exact absurd ha Bool.false_ne_true
theorem glob_sound (O : X.Ok) (FO : fr.Ok) (S : St X fr m loc lay σ s) {g : Nat} {e : Expr} {k : KV} {M : Model} {nm : List Str} (ha : agE X.B fr.scope nm (.glob g) e = true) (h : k (X.B.tab.glob g) σ) : wpAny M A (eval e fr.env) (VQ X fr m loc s.heap lay k) E s :=
  xName_el (show xName e _ = true from ha) fun id p ha => by
    obtain ⟨h1, h2⟩ := bAnd ha
    obtain ⟨h1, h3⟩ := bAnd h1
    cases (beq_iff_eq.mp h1 : id = _)
    obtain ⟨v, h4, h5⟩ := O.glob g (of_decide_eq_true h2)
    exact name_sound O FO S h3 h4 (S.vq (t := s.toks) (h5.up S.g) h)

theorem stores_sound {n : Nat} {a : Addr} : ∀ {js ds : List D} {us xs : List Value} {lay : Lay} {σ : Sto} {s : Shared} {k : Sto → Prop} {P : PUnit → Shared → Prop}, St X fr m loc lay σ s → Rep X s.heap lay fr.ban (.h n) (.ref a) → RepL X s.heap lay fr.ban js us → RepL X s.heap lay fr.ban ds xs →
    storeP n js ds σ k → (∀ σ' s', St X fr m loc lay σ' s' → Evo fr.ban (some fr.L) lay lay s.heap s'.heap → k σ' → P ⟨⟩ s') → wpAny (model X.prog X.w) A (storeAll a (us.zip xs)) P E s
  | [], ds, us, xs, lay, σ, s, k, P, S, _, R1, R2, h, hk => R1.unnil (wpAny_pure (hk _ _ S Evo.refl (onE_inv h).2))
  | j :: js, ds, us, xs, lay, σ, s, k, P, S, R0, R1, R2, h, hk => by
    obtain ⟨d, ds, rfl, h1⟩ := onC_inv h
    refine R1.uncons fun u us r1 R1 => R2.uncons fun x xs r2 R2 => ?_
    unfold storeAll
    rw [List.zip_cons_cons, List.forIn_cons]
    refine wpAny_bind (wpAny_bind (setD_sound S R0 r1 r2 h1 fun σ' s' S' E' h' => wpAny_pure ?_))
    exact stores_sound S' (R0.evo E') (R1.evo E') (R2.evo E') h' fun σ'' s'' S'' E'' h'' => hk _ _ S'' (E'.trans E'') h''

theorem newDict_grow (S : St X fr m loc lay σ s) (b : Bool) :
    St X fr m loc (lay ++ [(s.heap.objs.size, s.heap.objs.size)]) (σ ++ [if b then .idict [] else .sdict []]) { s with heap := s.heap.push { cls := .type "dict", data := .dict #[] } } ∧
      Evo fr.ban (some fr.L) lay (lay ++ [(s.heap.objs.size, s.heap.objs.size)]) s.heap (s.heap.push { cls := .type "dict", data := .dict #[] }) := by
  have hn : (s.heap.push { cls := .type "dict", data := .dict #[] }).get? s.heap.objs.size = some { cls := .type "dict", data := .dict #[] } := Heap.get?_push_size _ rfl
  refine S.grow (p := (s.heap.objs.size, s.heap.objs.size)) (mo := if b then .idict [] else .sdict []) (s' := { s with heap := s.heap.push { cls := .type "dict", data := .dict #[] } }) (S.toFr.push _) (fun p hp => (News.push S.toFr full_news _) p (.tail _ hp)) rfl rfl (none_size _) (none_size _) (fun _ => S.notSys)
    ⟨_, hn, fun vs q => by cases q⟩ ⟨_, hn, fun vs q => by cases q⟩ fun E => ?_
  cases b with
  | true => exact ⟨rfl, [], Heap.DictOf.new _, Nat.le_refl _, fun x => rfl⟩
  | false => exact ⟨rfl, [], Heap.DictOf.new _, Nat.le_refl _, rfl, fun x => rfl⟩
end
end
section
open PySem.SeqAt
section
variable {X : Cx} {fr : Fm} {m : Str → Option Value} {loc : Loc} {lay : Lay} {σ : Sto} {s : Shared} {A : Around} {E : Value → Shared → Prop}

noncomputable def initP (K : Frag) (C : Addr) : Option Addr → Prop
  | some a => findIn K (.ref C) "__init__" = some (some (.ref a)) ∧ typeIn K (.ref a) = some (.type "function")
  | none => findIn K (.ref C) "__init__" = some (some (.builtin "object.__init__"))
theorem initB_of {K : Frag} {C : Addr} {f : Option Addr} (h : initB K C f = true) : makesIn K C = true ∧ keepIn K (.ref C) = true ∧ initP K C f := by
  obtain ⟨h1, h2⟩ := bAnd h
  refine ⟨(bAnd h1).1, (bAnd h1).2, ?_⟩
  cases f with
  | none => exact beq_iff_eq.mp h2
  | some a => exact ⟨beq_iff_eq.mp (bAnd h2).1, beq_iff_eq.mp (bAnd h2).2⟩

theorem fresh_of (S : St X fr m loc lay σ s) {x dx : Addr} {h' : Heap} {o1 o2 : Obj} (N' : News X.base fr.L h' ((x, o1) :: (dx, o2) :: full X fr.L s.heap)) (hl : ∀ p ∈ full X fr.L s.heap, p.1 < dx) (lt : dx < x) :
    s.heap.get? x = none ∧ s.heap.get? dx = none := by
  obtain ⟨a1, a2, a3⟩ := N' _ (.head _)
  obtain ⟨b1, b2, b3⟩ := N' _ (.tail _ (.head _))
  constructor
  · cases q : s.heap.get? x with
    | none => rfl
    | some o => have this : x < dx := hl (x, o) (mem_full.mpr ⟨q, a2, a3⟩); exact absurd (Nat.lt_trans this lt) (Nat.lt_irrefl _)
  · cases q : s.heap.get? dx with
    | none => rfl
    | some o => have this : dx < dx := hl (dx, o) (mem_full.mpr ⟨q, b2, b3⟩); exact absurd this (Nat.lt_irrefl _)

theorem inst_grow (S : St X fr m loc lay σ s) {c : Nat} (hc : c < X.B.nCl) {x dx : Addr} {h' : Heap} {t : Nat} (F' : Fr X.base fr.L h' m) (N' : News X.base fr.L h' ((x, instObj (X.B.clsA c) dx) :: (dx, emptyDict) :: full X fr.L s.heap)) (hl : ∀ p ∈ full X fr.L s.heap, p.1 < dx) (lt : dx < x) :
    St X fr m loc (lay ++ [(x, dx)]) (σ ++ [.inst c []]) { s with heap := h', toks := t } ∧ Evo fr.ban (some fr.L) lay (lay ++ [(x, dx)]) s.heap h' := by
  obtain ⟨f1, f2⟩ := fresh_of S N' hl lt
  have a1 := (N' _ (.head _)).1
  have b1 := (N' _ (.tail _ (.head _))).1
  refine S.grow (p := (x, dx)) (mo := .inst c []) (s' := { s with heap := h', toks := t }) F' (fun p hp => N' p (.tail _ (.tail _ hp))) rfl rfl f1 f2 (fun e => absurd e (Nat.ne_of_lt lt)) ⟨_, a1, fun vs q => by cases q⟩ ⟨_, b1, fun vs q => by cases q⟩ fun E => ?_
  exact ⟨hc, ⟨_, a1⟩, Nat.ne_of_gt lt, fun _ => none, ⟨_, #[], _, b1, rfl, (fun e he => by simp at he), fun _ => rfl⟩, fun o es ep ho hd => by rw [b1] at ho; cases ho; cases hd; exact Nat.le_refl _, fun i => rfl⟩

theorem mk_sound (O : X.Ok) {C : Calls} {n : Nat} (hC : CallsOk X C n) (r : RoomB A fr.envs n) (S : St X fr m loc lay σ s) {c : Nat} (hc : c < X.B.nCl) {ds : List D} {vs : List Value} {k : KV} {x : KX} (R : RepL X s.heap lay fr.ban ds vs)
    (h : mkP C (X.B.tab.init c) c ds σ k x) :
    wpAny (model X.prog X.w) A (call (.ref (X.B.clsA c)) vs) (VQ X fr m loc s.heap lay k) (XQ X fr m loc s.heap lay x) s := by
  obtain ⟨h1, h2, h3⟩ := initB_of (O.cl_ c hc).2
  have self : ∀ p : Addr × Addr, (lay ++ [p])[σ.length]? = some p := fun p => by rw [← S.g.len]; exact List.getElem?_concat_length
  refine wpAny_call ?_
  cases e : X.B.tab.init c with
  | none =>
    rw [e] at h h3
    obtain ⟨rfl, h⟩ := onE_inv h
    cases R
    exact make_K0 S.toFr full_news (S.KX O) h1 h3 fun x dx h' F' N' hl lt =>
      have q := inst_grow (t := s.toks) S hc F' N' hl lt
      ⟨.h σ.length, _, _, q.1, q.2, ⟨(x, dx), self _, rfl⟩, h⟩
  | some f =>
    rw [e] at h h3
    refine make_K S.toFr full_news (S.KX O) h1 h3.1 h3.2 fun y dx h' F' N' hl lt => ?_
    obtain ⟨S', E'⟩ := inst_grow (t := s.toks) S hc F' N' hl lt
    have R0 : Rep X h' (lay ++ [(y, dx)]) fr.ban (.h σ.length) (.ref y) := ⟨(y, dx), self _, rfl⟩
    refine codeAny_mono (hC _ fr.envs f _ _ _ _ { s with heap := h', toks := s.toks } _ _ (r.under _ _) S'.g (.cons R0 (R.evo E')) h) fun r s' q => ?_
    rcases r with ev | (v | _ | _ | _)
    · exact XQ.back E' (GXQ.st S' q)
    · exact q.elim
    · exact q.elim
    · exact q.elim
    · obtain ⟨d, σ', lay', S'', E'', Rv, hk⟩ := GVQ.st S' q
      obtain ⟨rfl, hk⟩ := onN_inv hk
      exact ⟨Rv, .h σ.length, σ', lay', S'', E'.trans E'', R0.evo E'', hk⟩
end
end
section
open PySem.SeqAt
set_option genCtorIdx false
set_option genSizeOf false
set_option genInjectivity false

noncomputable def fdO (o : Obj) : Option FuncData := match o.data with | .func fd => some fd | _ => none
theorem fdO_inv {o : Obj} {fd : FuncData} (h : fdO o = some fd) : o.data = .func fd := by
  obtain ⟨c, d, dt, sl⟩ := o
  cases dt <;> first | exact congrArg Data.func (Option.some.inj h) | cases h
noncomputable def fdOf (K : Frag) (a : Addr) : Option FuncData := (K.lookup a).bind fdO
noncomputable def bodyOf (fd : FuncData) : Option (List Stmt) := match fd.body with
  | .stmts b => some b
  | _ => none
theorem bodyOf_inv {fd : FuncData} {body : List Stmt} (hb : bodyOf fd = some body) : fd.body = .stmts body := by
  revert hb
  unfold bodyOf
  cases fd.body <;> intro hb <;> first | exact congrArg _ (Option.some.inj hb) | cases hb
noncomputable def entB (K : Frag) (fd : FuncData) (ps : List Str) : Bool :=
  codeIn K fd.code fd.qualname && fd.scope.kind == .function && !fd.scope.isCoroutine && !fd.scope.isGenerator && fd.scope.names.all (fun x => x.2 != .cell) &&
    fd.params.posonlyargs.isEmpty && fd.params.kwonlyargs.isEmpty && fd.params.vararg.isNone && fd.params.kwarg.isNone && fd.params.args.map (·.arg) == ps && fd.defaults == .none && fd.kwdefaults == .none &&
    fd.globals == mainGlobals && fd.closure.isEmpty && fd.builtins == builtinsNs && ps.all (fun x => fd.scope.names.lookup x == some .local) && decide ps.Nodup

structure Ent (K : Frag) (fd : FuncData) (ps : List Str) : Prop where
  code : codeIn K fd.code fd.qualname = true
  kind : fd.scope.kind = .function
  co : fd.scope.isCoroutine = false
  gen : fd.scope.isGenerator = false
  cell : ∀ x ∈ fd.scope.names, x.2 ≠ .cell
  po : fd.params.posonlyargs = []
  ko : fd.params.kwonlyargs = []
  va : fd.params.vararg = none
  ka : fd.params.kwarg = none
  args : fd.params.args.map (·.arg) = ps
  dflt : fd.defaults = .none
  kd : fd.kwdefaults = .none
  gl : fd.globals = mainGlobals
  cl : fd.closure = []
  bu : fd.builtins = builtinsNs
  loc : ∀ x ∈ ps, fd.scope.names.lookup x = some .local
  nodup : ps.Nodup
theorem notT {b : Bool} (h : (!b) = true) : b = false := by cases b; rfl; cases h
theorem ent_of {K : Frag} {fd : FuncData} {ps : List Str} (h : entB K fd ps = true) : Ent K fd ps :=
  have a := bAnd h; have b := bAnd a.1; have c := bAnd b.1; have d := bAnd c.1; have e := bAnd d.1; have f := bAnd e.1; have g := bAnd f.1; have i := bAnd g.1; have j := bAnd i.1; have k := bAnd j.1; have l := bAnd k.1
  have m := bAnd l.1; have n := bAnd m.1; have o := bAnd n.1; have p := bAnd o.1; have q := bAnd p.1
  ⟨q.1, beq_iff_eq.mp q.2, notT p.2, notT o.2, fun x hx => bne_iff_ne.mp (List.all_eq_true.mp n.2 x hx), List.isEmpty_iff.mp m.2, List.isEmpty_iff.mp l.2, Option.isNone_iff_eq_none.mp k.2, Option.isNone_iff_eq_none.mp j.2, beq_iff_eq.mp i.2, beq_iff_eq.mp g.2, beq_iff_eq.mp f.2,
    beq_iff_eq.mp e.2, List.isEmpty_iff.mp d.2, beq_iff_eq.mp c.2, fun x hx => beq_iff_eq.mp (List.all_eq_true.mp b.2 x hx), of_decide_eq_true a.2⟩

theorem zip_lookup {α β : Type} [BEq α] [LawfulBEq α] : ∀ {xs : List α} {ys : List β} (i : Nat), xs.Nodup → ∀ {x y}, xs[i]? = some x → ys[i]? = some y → (xs.zip ys).lookup x = some y
  | x :: xs, y :: ys, 0, _, _, _, e1, e2 => by cases e1; cases e2; simp
  | a :: xs, b :: ys, i + 1, h, x, y, e1, e2 => by
    have hx : x ∈ xs := List.mem_of_getElem? (i := i) (by simpa using e1)
    have : (x == a) = false := beq_eq_false_iff_ne.mpr fun e => (List.nodup_cons.mp h).1 (e ▸ hx)
    rw [List.zip_cons_cons, List.lookup_cons, this]
    exact zip_lookup i (List.nodup_cons.mp h).2 (by simpa using e1) (by simpa using e2)
  | [], _, _, _, _, _, e, _ => by simp at e
  | _ :: _, [], _, _, _, _, _, e => by simp at e
theorem filter_zip {α β : Type} [BEq α] [LawfulBEq α] : ∀ {xs : List α} {ys : List β} (L : List (α × β)), xs.length = ys.length → (∀ (i : Nat) (x : α) (y : β), xs[i]? = some x → ys[i]? = some y → L.lookup x = some y) → xs.filterMap (fun n => (L.lookup n).map (n, ·)) = xs.zip ys
  | [], [], _, _, _ => rfl
  | x :: xs, y :: ys, L, hl, h => by
    have h0 := h 0 x y rfl rfl
    rw [List.filterMap_cons, h0]
    show (x, y) :: _ = _
    rw [filter_zip L (by simpa using hl) fun i a b e1 e2 => h (i + 1) a b (by simpa using e1) (by simpa using e2)]
    rfl
  | [], _ :: _, _, hl, _ => by cases hl
  | _ :: _, [], _, hl, _ => by cases hl

theorem binds_plain {K : Frag} {fd : FuncData} {ps : List Str} {vs : List Value} (e : Ent K fd ps) (hl : vs.length = ps.length) : bindArgs fd ⟨vs, []⟩ = pure (ps.zip vs) := by
  have key := filter_zip (xs := ps) (ys := vs) (ps.zip vs) hl.symm fun i x y e1 e2 => zip_lookup i e.nodup e1 e2
  have hmiss : (ps.filter fun n => ((ps.zip vs).lookup n).isNone) = [] := by
    rw [List.filter_eq_nil_iff]
    intro x hx
    obtain ⟨i, hi, rfl⟩ := List.getElem_of_mem hx
    rw [zip_lookup i e.nodup (List.getElem?_eq_getElem hi) (List.getElem?_eq_getElem (hl ▸ hi))]
    exact Bool.false_ne_true
  have h1 := e.po; have h2 := e.ko; have h3 := e.va; have h4 := e.ka; have h5 := e.dflt; have h6 := e.kd; have h7 := e.args
  clear e
  obtain ⟨n, qn, ⟨po, args, va, ko, kd, ka, df⟩, bd, sc, g, cl, dd, kdd, doc, pm, an, co, ct, bi⟩ := fd
  cases h1; cases h2; cases h3; cases h4; cases h5; cases h6
  have h7 : args.map (·.arg) = ps := h7
  subst h7
  have hd : List.drop (0 - (args.map (·.arg)).length) ([] : List Value) = [] := List.drop_nil
  dsimp only [bindArgs, List.map_nil, List.nil_append]
  refine (if_neg (fun z => Nat.lt_irrefl _ (Nat.lt_of_lt_of_eq (show (args.map (·.arg)).length < vs.length from of_decide_eq_true (Bool.and_eq_true_iff.mp z).1) hl))).trans ?_
  refine (if_neg ?_).trans ?_
  · show ¬ (!(List.filter (fun n => (((args.map (·.arg)).zip vs).lookup n).isNone) (List.take ((args.map (·.arg)).length - (List.drop (0 - (args.map (·.arg)).length) ([] : List Value)).length) (args.map (·.arg)))).isEmpty) = true
    rw [hd, show (args.map (·.arg)).length - ([] : List Value).length = (args.map (·.arg)).length from Nat.sub_zero _, List.take_length, hmiss]
    exact Bool.false_ne_true
  · have hz : ∀ (l : List Str) k, List.zip l (List.drop k ((none : Option (Array Value)).getD #[]).toList) = [] := fun l k => by show l.zip (List.drop k []) = []; rw [List.drop_nil, List.zip_nil_right]
    rw [hz]
    refine Eq.trans (b := pure (List.filterMap (fun n => (((args.map (·.arg)).zip vs).lookup n).map (n, ·)) (args.map (·.arg) ++ []))) rfl ?_
    rw [List.append_nil, key]

theorem callEnv_eq {K : Frag} {fd : FuncData} {ps : List Str} (e : Ent K fd ps) (L a : Addr) : callEnv fd L a = envOf fd.qualname fd.scope L a fd.code := by
  unfold callEnv newEnv envOf
  rw [e.gl, e.cl, e.bu]

section
variable {prog : Program} {w : World} {A : Around} {s : Shared}
theorem enter {K : Frag} {a : Addr} {fd : FuncData} {body : List Stmt} {ps : List Str} {vs : List Value} {R : Result → Shared → Prop} (KX : K.In s.heap) (hlim : s.heap.NoLimit) (hroom : A.depth < recursionLimit) (hf : fdOf K a = some fd) (hb : bodyOf fd = some body)
    (he : entB K fd ps = true) (hl : vs.length = ps.length)
    (h : ∀ h₀, h₀.Ns s.heap.objs.size (fun x => (ps.zip vs).reverse.lookup x) → (∀ b o, s.heap.get? b = some o → h₀.get? b = some o) →
      wpAny (model prog w) (A.deeper (envOf fd.qualname fd.scope s.heap.objs.size a fd.code)) (execs body (envOf fd.qualname fd.scope s.heap.objs.size a fd.code)) (fun f s' => R (.ok (.ret (match f with | .ret v => v | _ => .none))) s')
        (fun e s' => wpAny (model prog w) (A.deeper (envOf fd.qualname fd.scope s.heap.objs.size a fd.code)) (leaving (envOf fd.qualname fd.scope s.heap.objs.size a fd.code) e) (fun _ s'' => R (.error e) s'') (fun e' s'' => R (.error e') s'') s')
        { s with heap := h₀, toks := s.toks + vs.length }) :
    codeAny (model prog w) A (.call (.ref a) ⟨vs, []⟩) R s := by
  have e := ent_of he
  obtain ⟨⟨oc, od, dt, sl⟩, hk, hf⟩ := Option.bind_eq_some_iff.mp hf
  cases fdO_inv hf
  refine codeAny_call_def hroom (KX _ _ hk) rfl hlim (codeRec_of KX e.code) (bodyOf_inv hb) (BindsTo.of_eq (binds_plain e hl)) e.cell (fun x hx => e.loc _ (List.of_mem_zip hx).1) (fun h₀ h1 h2 => ?_) e.co e.gen e.kind
  rw [callEnv_eq e, show (ps.zip vs).length = vs.length by rw [List.length_zip, hl, Nat.min_self]]
  exact h h₀ h1 h2
end
end
section
open PySem.SeqAt
set_option genCtorIdx false
set_option genSizeOf false
set_option genInjectivity false

/-! rows of a class's __init__: self.a = v, self.a = 0 -/
noncomputable def selfA (t : Expr) (a : Str) : Bool := xAttr t fun o x _ => (xName o fun s _ => s == ("self" : Str)) && x == a
noncomputable def rowV (st : Stmt) (a v : Str) : Bool := yAsg st fun ts e _ => (b1 ts fun t => selfA t a) && xName e fun y _ => y == v
noncomputable def rowZ (st : Stmt) (a : Str) : Bool := yAsg st fun ts e _ => (b1 ts fun t => selfA t a) && xConst e fun c _ _ => c == .int 0
@[elab_as_elim] theorem selfA_el {t : Expr} {a : Str} {P : Expr → Prop} (h : selfA t a = true) (H : ∀ sp ap, P (.Attribute (.Name ("self" : Str) sp) a ap)) : P t :=
  xAttr_el h fun o x ap h => xName_el (P := fun o => P (.Attribute o x ap)) (bAnd h).1 fun s sp h1 => by cases (beq_iff_eq.mp h1 : s = _); cases (beq_iff_eq.mp (bAnd h).2 : x = a); exact H sp ap
@[elab_as_elim] theorem rowV_el {st : Stmt} {a v : Str} {P : Stmt → Prop} (h : rowV st a v = true) (H : ∀ sp ap vp p, P (.Assign [.Attribute (.Name ("self" : Str) sp) a ap] (.Name v vp) p)) : P st :=
  yAsg_el h fun ts e p h => b1_el (P := fun ts => P (.Assign ts e p)) (bAnd h).1 fun t h1 => selfA_el (P := fun t => P (.Assign [t] e p)) h1 fun sp ap => xName_el (P := fun e => P (.Assign _ e p)) (bAnd h).2 fun y vp h2 => by cases (beq_iff_eq.mp h2 : y = v); exact H sp ap vp p
@[elab_as_elim] theorem rowZ_el {st : Stmt} {a : Str} {P : Stmt → Prop} (h : rowZ st a = true) (H : ∀ sp ap k vp p, P (.Assign [.Attribute (.Name ("self" : Str) sp) a ap] (.Constant (.int 0) k vp) p)) : P st :=
  yAsg_el h fun ts e p h => b1_el (P := fun ts => P (.Assign ts e p)) (bAnd h).1 fun t h1 => selfA_el (P := fun t => P (.Assign [t] e p)) h1 fun sp ap => xConst_el (P := fun e => P (.Assign _ e p)) (bAnd h).2 fun c k vp h2 => by cases (beq_iff_eq.mp h2 : c = .int 0); exact H sp ap k vp p

noncomputable def upd (f : Str → Option Value) (a : Str) (v : Value) : Str → Option Value := fun y => if y = a then some v else f y
theorem upd_eq {f a v} : upd f a v a = some v := if_pos rfl
theorem upd_ne {f a v b} (h : b ≠ a) : upd f a v b = f b := if_neg h

structure Rows0 where
  K : Frag
  C : Addr
  x : Addr
  dx : Addr
  L : Addr
  mL : Str → Option Value
  h1 : Heap
inductive RowS (r : Rows0) (f : Str → Option Value) (n : Nat) (h : Heap) : Prop where
  | mk (KX : r.K.In h) (NL : h.Ns r.L r.mL) (I : Is h r.x (.ref r.C) (some r.dx) .plain) (N : h.Ns r.dx f) (z : h.DictLe r.dx n) (keep : ∀ b, b ≠ r.dx → h.get? b = r.h1.get? b) : RowS r f n h

section
variable {prog : Program} {w : World} {A : Around} {E : Value → Shared → Prop}
structure RowE (r : Rows0) (scope : Scope) : Prop where
  hk : scope.kind = .function
  self : scope.names.lookup ("self" : Str) = some .local
  selfV : r.mL ("self" : Str) = some (.ref r.x)
  hdL : r.dx ≠ r.L
  hd : r.K.lookup r.dx = none
  hx : r.dx ≠ r.x
theorem row_set {r : Rows0} {name : Str} {scope : Scope} {a : Addr} {cd : Value} (RE : RowE r scope) {f : Str → Option Value} {n : Nat} {s : Shared} {at0 : Str} {v : Value} {pos : Pos} (RS : RowS r f n s.heap) (hst : stOk r.K r.C at0 = true) (hn : n < 1000) {P : Unit → Shared → Prop}
    (H : ∀ h' tk, RowS r (upd f at0 v) (n + 1) h' → P () { s with heap := h', toks := tk }) :
    wpAny (model prog w) A (eval (.Name ("self" : Str) pos) (envOf name scope r.L a cd)) (fun o s' => wpAny (model prog w) A (setAttr o at0 v) P E s') E s := by
  obtain ⟨KX, NL, I, N, z, keep⟩ := RS
  refine wpAny_Name (wpAny_loadName_local RE.hk RE.self NL RE.selfV ?_) (by decide)
  refine setAttrNs KX hst I N z (Nat.le_of_lt hn) fun h' tk N' sb z' => H h' tk ?_
  have kx : ∀ b, b ≠ r.dx → h'.get? b = s.heap.get? b := fun b hb => sb.2 b hb
  obtain ⟨o, es, ep, ho, q⟩ := NL
  obtain ⟨sl, e⟩ := I
  exact ⟨fun b o e => by rw [kx b (fun q => by rw [q, RE.hd] at e; cases e)]; exact KX b o e, ⟨o, es, ep, (kx r.L RE.hdL.symm).trans ho, q⟩, ⟨sl, (kx r.x RE.hx.symm).trans e⟩, N',
    z'.mono (by cases (f at0).isSome; exact Nat.le_refl _; exact Nat.le_succ _), fun b hb => (kx b hb).trans (keep b hb)⟩
theorem row_val {r : Rows0} {name : Str} {scope : Scope} {a : Addr} {cd : Value} (RE : RowE r scope) {f : Str → Option Value} {n : Nat} {s : Shared} {st : Stmt} {body : List Stmt} {at0 vn : Str} {v : Value} {Q : Flow → Shared → Prop} (RS : RowS r f n s.heap) (hst : stOk r.K r.C at0 = true) (hn : n < 1000) (hr : rowV st at0 vn = true)
    (h1 : scope.names.lookup vn = some .local) (h2 : r.mL vn = some v) (h3 : (vn == ("__debug__" : Str)) = false) (H : ∀ h' tk, RowS r (upd f at0 v) (n + 1) h' → wpAny (model prog w) A (execs body (envOf name scope r.L a cd)) Q E { s with heap := h', toks := tk }) :
    wpAny (model prog w) A (execs (st :: body) (envOf name scope r.L a cd)) Q E s :=
  wpAny_execs_cons (rowV_el hr fun sp ap vp p => plainObj_wpAny_Assign_Attribute (wpAny_Name (wpAny_loadName_local RE.hk h1 (by obtain ⟨_, NL, _⟩ := RS; exact NL) h2 (row_set RE RS hst hn H)) h3) rfl)
theorem row_zero {r : Rows0} {name : Str} {scope : Scope} {a : Addr} {cd : Value} (RE : RowE r scope) {f : Str → Option Value} {n : Nat} {s : Shared} {st : Stmt} {body : List Stmt} {at0 : Str} {Q : Flow → Shared → Prop} (RS : RowS r f n s.heap) (hst : stOk r.K r.C at0 = true) (hn : n < 1000) (hr : rowZ st at0 = true)
    (H : ∀ h' tk t, RowS r (upd f at0 (.int 0 t)) (n + 1) h' → wpAny (model prog w) A (execs body (envOf name scope r.L a cd)) Q E { s with heap := h', toks := tk }) :
    wpAny (model prog w) A (execs (st :: body) (envOf name scope r.L a cd)) Q E s :=
  wpAny_execs_cons (rowZ_el hr fun sp ap k vp p => plainObj_wpAny_Assign_Attribute (wpAny_Constant_int (row_set (s := { s with toks := s.toks + 1 }) RE RS hst hn fun h' tk R => H h' tk _ R)) rfl)
end
end
section
open PySem.SeqAt
set_option genCtorIdx false
set_option genSizeOf false
set_option genInjectivity false

noncomputable def nodePs : List Str := ["self", "kind", "a", "kids", "flags", "at"]
noncomputable def nodeB (K : Frag) (B : Tb) : Bool := bO (fdOf K B.nodeI) fun fd => bO (bodyOf fd) fun body => entB K fd nodePs &&
  bC body fun s0 b => rowV s0 (B.atN 0) "kind" && bC b fun s1 b => rowV s1 (B.atN 1) "a" && bC b fun s2 b => rowV s2 (B.atN 2) "kids" && bC b fun s3 b => rowV s3 (B.atN 4) "flags" && bC b fun s4 b => rowV s4 (B.atN 5) "at" && b1 b fun s5 => rowZ s5 (B.atN 3)
inductive NodeIni (K : Frag) (B : Tb) (fd : FuncData) (body : List Stmt) : Prop where
  | mk (s0 s1 s2 s3 s4 s5 : Stmt) (e : body = [s0, s1, s2, s3, s4, s5]) (r0 : rowV s0 (B.atN 0) "kind" = true) (r1 : rowV s1 (B.atN 1) "a" = true) (r2 : rowV s2 (B.atN 2) "kids" = true) (r3 : rowV s3 (B.atN 4) "flags" = true) (r4 : rowV s4 (B.atN 5) "at" = true) (r5 : rowZ s5 (B.atN 3) = true) : NodeIni K B fd body
theorem nodeB_inv {K : Frag} {B : Tb} (h : nodeB K B = true) : ∃ fd body, fdOf K B.nodeI = some fd ∧ bodyOf fd = some body ∧ entB K fd nodePs = true ∧ NodeIni K B fd body := by
  obtain ⟨fd, h1, h⟩ := bO_inv h
  obtain ⟨body, h2, h⟩ := bO_inv h
  refine ⟨fd, body, h1, h2, (bAnd h).1, ?_⟩
  exact bC_el (bAnd h).2 fun s0 b h0 => bC_el (P := fun b => NodeIni K B fd (s0 :: b)) (bAnd h0).2 fun s1 b h1 => bC_el (P := fun b => NodeIni K B fd (s0 :: s1 :: b)) (bAnd h1).2 fun s2 b h2 => bC_el (P := fun b => NodeIni K B fd (s0 :: s1 :: s2 :: b)) (bAnd h2).2 fun s3 b h3 =>
    bC_el (P := fun b => NodeIni K B fd (s0 :: s1 :: s2 :: s3 :: b)) (bAnd h3).2 fun s4 b h4 => b1_el (P := fun b => NodeIni K B fd (s0 :: s1 :: s2 :: s3 :: s4 :: b)) (bAnd h4).2 fun s5 h5 => ⟨s0, s1, s2, s3, s4, s5, rfl, (bAnd h0).1, (bAnd h1).1, (bAnd h2).1, (bAnd h3).1, (bAnd h4).1, h5⟩

section
variable {X : Cx} {fr : Fm} {m : Str → Option Value} {loc : Loc} {lay : Lay} {σ : Sto} {s : Shared} {A : Around} {E : Value → Shared → Prop}

theorem node_rows {K : Frag} {B : Tb} {fd : FuncData} {body : List Stmt} {r : Rows0} {a : Addr} {s : Shared} (hK : r.K = K) (O : ∀ i, i < 6 → stOk K r.C (B.atN i) = true) (NI : NodeIni K B fd body) (RE : RowE r fd.scope) (hloc : ∀ y ∈ nodePs, fd.scope.names.lookup y = some .local) {v0 v1 v2 v3 v4 : Value}
    (m0 : r.mL ("kind" : Str) = some v0) (m1 : r.mL ("a" : Str) = some v1) (m2 : r.mL ("kids" : Str) = some v2) (m3 : r.mL ("flags" : Str) = some v3) (m4 : r.mL ("at" : Str) = some v4) (RS : RowS r (fun _ => none) 0 s.heap) {Q : Flow → Shared → Prop}
    (H : ∀ h' tk t, RowS r (upd (upd (upd (upd (upd (upd (fun _ => none) (B.atN 0) v0) (B.atN 1) v1) (B.atN 2) v2) (B.atN 4) v3) (B.atN 5) v4) (B.atN 3) (.int 0 t)) 6 h' → Q .next { s with heap := h', toks := tk }) :
    wpAny (model X.prog X.w) A (execs body (envOf fd.qualname fd.scope r.L a fd.code)) Q E s := by
  subst hK
  obtain ⟨s0, s1, s2, s3, s4, s5, rfl, r0, r1, r2, r3, r4, r5⟩ := NI
  exact row_val RE RS (O 0 (by decide)) (by decide) r0 (hloc _ (by decide)) m0 (by decide) fun h tk R0 => row_val RE R0 (O 1 (by decide)) (by decide) r1 (hloc _ (by decide)) m1 (by decide) fun h tk R1 => row_val RE R1 (O 2 (by decide)) (by decide) r2 (hloc _ (by decide)) m2 (by decide) fun h tk R2 =>
    row_val RE R2 (O 4 (by decide)) (by decide) r3 (hloc _ (by decide)) m3 (by decide) fun h tk R3 => row_val RE R3 (O 5 (by decide)) (by decide) r4 (hloc _ (by decide)) m4 (by decide) fun h tk R4 => row_zero RE R4 (O 3 (by decide)) (by decide) r5 fun h tk t R5 => wpAny_execs_nil (H h tk t R5)

theorem node_sound (O : X.Ok) (NO : nodeB X.K X.B = true) {n : Nat} (r : RoomB A fr.envs n) (S : St X fr m loc lay σ s) {i : Int} {a : D} {ks : List D} {vs : List Value} {k : KV} (R : RepL X s.heap lay fr.ban [.int i, a, .lst ks, .int 0, .int 0] vs)
    (h : k (.node i a ks) σ) : wpAny (model X.prog X.w) A (call (.ref X.B.nodeC) vs) (VQ X fr m loc s.heap lay k) E s := by
  refine R.uncons fun v0 vs q0 R => R.uncons fun va vs ra R => R.uncons fun v2 vs q2 R => R.two fun v3 v4 q3 q4 => q0.int fun t1 => q2.lst fun la lvs SL R3 => q3.int fun t4 => q4.int fun t5 => ?_
  obtain ⟨h1, h2, h3⟩ := initB_of O.nodeK.2
  obtain ⟨fd, body, hfd, hbody, hent, NI⟩ := nodeB_inv NO
  refine wpAny_call (make_K S.toFr full_news (S.KX O) h1 h3.1 h3.2 fun x dx h' F' N' hl lt => ?_)
  obtain ⟨f1, f2⟩ := fresh_of S N' hl lt
  have KX' : X.K.In h' := O.KX.keeps F'.keep
  have kp : ∀ b o, b ≠ fr.L → s.heap.get? b = some o → h'.get? b = some o := full_keep F' (fun p hp => N' p (.tail _ (.tail _ hp))) S.g.stays
  have a1 := (N' _ (.head _)).1
  have b1 := (N' _ (.tail _ (.head _))).1
  have hKd : X.K.lookup dx = none := by
    cases q : X.K.lookup dx with
    | none => rfl
    | some o => have := O.KX _ _ q; rw [(N' _ (.tail _ (.head _))).2.2] at this; cases this
  refine enter KX' (O.top.nolimit.keeps F'.keep) (by show A.depth + 1 < recursionLimit; have := r.depth; lia) hfd hbody hent rfl fun h₀ N0 k0 => ?_
  have hent' := ent_of hent
  refine node_rows (r := ⟨X.K, X.B.nodeC, x, dx, h'.objs.size, _, h₀⟩) rfl O.nodeSt NI ⟨hent'.kind, hent'.loc _ (by decide), rfl, Nat.ne_of_lt (Heap.lt_size b1), hKd, Nat.ne_of_lt lt⟩ hent'.loc rfl rfl rfl rfl rfl
    ⟨KX'.keeps k0, N0, ⟨_, k0 _ _ a1⟩, ⟨_, #[], _, k0 _ _ b1, rfl, (fun e he => by simp at he), fun _ => rfl⟩, fun o es ep ho hd => by rw [k0 _ _ b1] at ho; cases ho; cases hd; exact Nat.le_refl _, fun _ _ => rfl⟩ fun h'' tk t RS => ⟨rfl, ?_⟩
  obtain ⟨_, _, I, N'', _, hk⟩ := RS
  have keep : ∀ b o, b ≠ fr.L → s.heap.get? b = some o → h''.get? b = some o := fun b o ne e => by
    rw [hk b (fun q => by rw [q, f2] at e; cases e)]
    exact k0 _ _ (kp b o ne e)
  have hLd : fr.L ≠ dx := (N' _ (.tail _ (.head _))).2.1.symm
  have nsL : h''.Ns fr.L m := by
    obtain ⟨o, es, ep, ho, r⟩ := F'.ns
    exact ⟨o, es, ep, by rw [hk _ hLd]; exact k0 _ _ ho, r⟩
  obtain ⟨S', E'⟩ := S.stepK (s' := { s with heap := h'', toks := tk }) nsL keep rfl rfl
  have ne : ∀ i j, i ≠ j → X.B.atN i ≠ X.B.atN j := fun i j h e => h (O.atInj _ _ e)
  have tr := E'.kp.tr
  exact ⟨.node i a ks, σ, lay, S', E', ⟨x, va, lvs, rfl, ⟨dx, _, t1, la, t, S.freeNew f1, S.freeNew f2, I, N'',
    (upd_ne (ne 0 3 (by decide))).trans ((upd_ne (ne 0 5 (by decide))).trans ((upd_ne (ne 0 4 (by decide))).trans ((upd_ne (ne 0 2 (by decide))).trans ((upd_ne (ne 0 1 (by decide))).trans upd_eq)))),
    (upd_ne (ne 1 3 (by decide))).trans ((upd_ne (ne 1 5 (by decide))).trans ((upd_ne (ne 1 4 (by decide))).trans ((upd_ne (ne 1 2 (by decide))).trans upd_eq))),
    (upd_ne (ne 2 3 (by decide))).trans ((upd_ne (ne 2 5 (by decide))).trans ((upd_ne (ne 2 4 (by decide))).trans upd_eq)), SL.tr tr, upd_eq⟩, ra.tr tr, R3.tr tr⟩, h⟩
end
end
section
open PySem.SeqAt
set_option genCtorIdx false
set_option genSizeOf false
set_option genInjectivity false

theorem filter_true {α : Type} (l : List α) : l.filter (fun _ => true) = l := List.filter_eq_self.mpr fun _ _ => rfl
theorem list_of_at {its : Array Value} {vs : List Value} (hl : vs.length = its.size) (h : ∀ (j : Nat) (v : Value), vs[j]? = some v → its[j]? = some v) : vs = its.toList := by
  apply List.ext_getElem?
  intro j
  by_cases hj : j < vs.length
  · rw [List.getElem?_eq_getElem hj]
    have := h j _ (List.getElem?_eq_getElem hj)
    rw [Array.getElem?_toList, this]
  · rw [List.getElem?_eq_none (Nat.le_of_not_lt hj), List.getElem?_eq_none (by simpa [← hl] using hj)]

section
variable {prog : Program} {w : World} {A : Around} {E : Value → Shared → Prop} {s : Shared} {env : Env}
inductive WkQ (prog : Program) (w : World) (A : Around) (env : Env) (elt : Expr) (x : Str) (scope : Scope) (F : Value → Value → Prop) (Y : List Value → Prop) (s : Shared) (I : Addr) (s₂ : Shared) : Prop where
  | mk (fp wr : List Addr) (n : Nat) (P : Nat → Value → Prop) (St : Nat → Heap → Prop) (W : Walks prog w A I fp wr n P St) (hz : n ≤ sizeLine) (st : St 0 s₂.heap) (hfp : ∀ b ∈ fp, b < s₂.heap.objs.size) (hq : QuietOn prog w A env scope x [] elt wr P (fun _ => true) F s₂)
      (hwr : ∀ b ∈ wr, s.heap.get? b = none) (hv : ∀ vs : List Value, vs.length = n → (∀ (j : Nat) (v : Value), vs[j]? = some v → P j v) → Y vs) (up : ∀ b o, s.heap.get? b = some o → s₂.heap.get? b = some o) (eg : s₂.gens = s.gens) (eo : s₂.os = s.os) (ed : s₂.drawn = s.drawn) : WkQ prog w A env elt x scope F Y s I s₂
theorem quiet_nil {elt : Expr} {x : Str} {scope : Scope} {wr : List Addr} {P : Nat → Value → Prop} {F : Value → Value → Prop} {s₂ : Shared}
    (H : ∀ (C : Addr) (i : Nat) (v : Value) (s₃ : Shared) (m₃ : Str → Option Value) (E' : Value → Shared → Prop), P i v → s₃.heap.Ns C m₃ → m₃ x = some v → (∀ b o, b ∉ wr → s₂.heap.get? b = some o → s₃.heap.get? b = some o) → wpAny (model prog w) A (eval elt (compEnv scope C env)) (fun y s₄ => F v y ∧ Keeps s₃ s₄) E' s₃) :
    QuietOn prog w A env scope x [] elt wr P (fun _ => true) F s₂ :=
  ⟨fun C i v s₃ m₃ E' hP hn hm hk _ => wpAny_pure ⟨rfl, s₃.heap, s₃.toks, rfl, fun _ _ e => e⟩, fun C i v s₃ m₃ E' hP hp hn hm hk _ => H C i v s₃ m₃ E' hP hn hm hk⟩
theorem up_no {b : Addr} {o : Obj} {h : Heap} (e : h.get? b = some o) : b ∉ [h.objs.size] := fun hb => by rw [List.mem_singleton.mp hb, none_size] at e; cases e
theorem pkg_list {elt : Expr} {x : Str} {scope : Scope} {a : Addr} {its : Array Value} (hl : s.heap.IsList a its) (hh : A.handled = none) (hz : its.size ≤ sizeLine) (F : Value → Value → Prop)
    (hF : ∀ v ∈ its.toList, ∀ (C : Addr) (s₃ : Shared) (m₃ : Str → Option Value) (E' : Value → Shared → Prop), s₃.heap.Ns C m₃ → m₃ x = some v → (∀ b o, s.heap.get? b = some o → s₃.heap.get? b = some o) →
      wpAny (model prog w) A (eval elt (compEnv scope C env)) (fun y s₄ => F v y ∧ Keeps s₃ s₄) E' s₃)
    {Q : Value → Shared → Prop} (hQ : ∀ (I : Addr) (s₂ : Shared), WkQ prog w A env elt x scope F (fun vs => vs = its.toList) s I s₂ → Q (.ref I) s₂) :
    wpAny (model prog w) A (pyIter (.ref a)) Q E s := by
  have hlt : a < s.heap.objs.size := by obtain ⟨_, e, _⟩ := hl; exact Heap.lt_size e
  refine wpAny_pyIter_list hl (hQ _ _ ⟨[s.heap.objs.size, a], [s.heap.objs.size], its.size, _, _, Walks.list hh _ a (Nat.ne_of_lt hlt) its, hz, ⟨⟨_, Heap.get?_push_size _ rfl, rfl, rfl⟩, hl.push _⟩, fun b hb => ?_,
    quiet_nil fun C i v s₃ m₃ E' hP hn hm hk => hF v (by rw [Array.mem_toList_iff]; exact Array.mem_of_getElem? hP) C s₃ m₃ E' hn hm fun b o e => hk b o (up_no e) (Heap.get?_push_of_some _ e),
    fun b hb => by rw [List.mem_singleton.mp hb]; exact none_size _, fun vs h1 h2 => list_of_at h1 h2, fun b o e => Heap.get?_push_of_some _ e, rfl, rfl, rfl⟩)
  show b < (s.heap.push _).objs.size
  rw [Heap.size_push]
  rcases List.mem_cons.mp hb with rfl | hb
  · exact Nat.lt_succ_self _
  · rw [List.mem_singleton.mp hb]; exact Nat.lt_succ_of_lt hlt
theorem pkg_str {elt : Expr} {x : Str} {scope : Scope} {t : Str} {tk : Tok} (hh : A.handled = none) (hz : t.cps.size ≤ sizeLine) (F : Value → Value → Prop)
    (hF : ∀ (c : Nat) (u : Tok), ∀ (C : Addr) (s₃ : Shared) (m₃ : Str → Option Value) (E' : Value → Shared → Prop), s₃.heap.Ns C m₃ → m₃ x = some (.str ⟨#[c]⟩ u) → (∀ b o, s.heap.get? b = some o → s₃.heap.get? b = some o) →
      wpAny (model prog w) A (eval elt (compEnv scope C env)) (fun y s₄ => F (.str ⟨#[c]⟩ u) y ∧ Keeps s₃ s₄) E' s₃)
    {Q : Value → Shared → Prop} (hQ : ∀ (I : Addr) (s₂ : Shared), WkQ prog w A env elt x scope F (fun vs => vs.length = t.cps.size ∧ ∀ (j : Nat) (v : Value), vs[j]? = some v → ∃ c u, t.cps[j]? = some c ∧ v = .str ⟨#[c]⟩ u) s I s₂ → Q (.ref I) s₂) :
    wpAny (model prog w) A (pyIter (.str t tk)) Q E s :=
  wpAny_pyIter_str fun o St W st0 => hQ _ _ ⟨[s.heap.objs.size], [s.heap.objs.size], t.cps.size, _, _, W A hh, hz, st0, fun b hb => by rw [List.mem_singleton.mp hb]; show _ < (s.heap.push _).objs.size; rw [Heap.size_push]; exact Nat.lt_succ_self _,
    quiet_nil fun C i v s₃ m₃ E' hP hn hm hk => by
      obtain ⟨c, u, _, rfl⟩ := hP
      exact hF c u C s₃ m₃ E' hn hm fun b o e => hk b o (up_no e) (Heap.get?_push_of_some _ e),
    fun b hb => by rw [List.mem_singleton.mp hb]; exact none_size _, fun vs h1 h2 => ⟨h1, h2⟩, fun b o e => Heap.get?_push_of_some _ e, rfl, rfl, rfl⟩

structure CompOk (sc : Scope) (x : Str) : Prop where
  kind : sc.kind = .function
  free : ∀ y ∈ sc.names, y.2 ≠ .free
  cell : ∀ y ∈ sc.names, y.2 ≠ .cell
  loc : ∀ y ∈ sc.names, y.2 = .local → sc.names.lookup y.1 = some .local
  lx : sc.names.lookup x = some .local
  dbg : (x == ("__debug__" : Str)) = false
theorem comp_of {sc : Scope} {x : Str} (h : compB sc x = true) : CompOk sc x := by
  unfold compB at h
  simp only [Bool.and_eq_true, beq_iff_eq, Bool.not_eq_true', List.all_eq_true, bne_iff_ne, Bool.or_eq_true] at h
  obtain ⟨⟨⟨⟨⟨h1, h2⟩, h3⟩, h4⟩, h5⟩, h6⟩ := h
  exact ⟨h1, h2, h3, fun y hy e => by rcases h4 y hy with h | h; exact absurd e h; exact h, h5, h6⟩
theorem comp_name {sc : Scope} {x : Str} (c : CompOk sc x) {C : Addr} {m₃ : Str → Option Value} {v : Value} {pos : Pos} {M : Model} {Q : Value → Shared → Prop} (hn : s.heap.Ns C m₃) (hm : m₃ x = some v) (q : Q v s) :
    wpAny M A (eval (.Name x pos) (compEnv sc C env)) Q E s :=
  wpAny_Name (wpAny_loadName_local c.kind c.lx hn hm q) c.dbg

theorem elt_sub {sc : Scope} {x : Str} (c : CompOk sc x) {C : Addr} {m₃ : Str → Option Value} {a : Addr} {its : Array Value} {k : Nat} {y : Value} {p1 p2 p3 : Pos} {kk : Nat} (hn : s.heap.Ns C m₃) (hm : m₃ x = some (.ref a)) (ht : IsTup s.heap a its) (hy : its[k]? = some y) (hk : k < 1000)
    {Q : Value → Shared → Prop} (q : ∀ tk, Q y { s with toks := tk }) : wpAny (model prog w) A (eval (.Subscript (.Name x p1) (.Constant (.int k) kk p2) p3) (compEnv sc C env)) Q E s := by
  refine Subscript_ (comp_name c hn hm (wpAny_Constant_int ?_))
  have hks := (Array.getElem?_eq_some_iff.mp hy).1
  exact tail_any (s := { s with toks := s.toks + 1 }) ht.typeIs slot_tuple_getitem.lookup (PyProof.Rows.getItem_tuple (s := { s with toks := s.toks + 1 }) ht (by lia) (by lia) (seqI (by lia) (by simpa using hks) rfl) (by simpa using hy) (q _)) rfl
theorem elt_mod {sc : Scope} {x : Str} (c : CompOk sc x) {C : Addr} {m₃ : Str → Option Value} {i k : Int} {t : Tok} {p1 p2 p3 : Pos} {kk : Nat} (hn : s.heap.Ns C m₃) (hm : m₃ x = some (.int i t)) (hk : k ≠ 0)
    {Q : Value → Shared → Prop} (q : ∀ u tk, Q (.int (i.fmod k) u) { s with toks := tk }) : wpAny (model prog w) A (eval (.BinOp (.Name x p1) .Mod (.Constant (.int k) kk p2) p3) (compEnv sc C env)) Q E s := by
  refine wpAny_BinOp (comp_name c hn hm (wpAny_Constant_int ?_))
  exact PyProof.Rows.mod_int' hk (q _ _)
theorem elt_in {sc : Scope} {x : Str} (c : CompOk sc x) {C : Addr} {m₃ : Str → Option Value} {ch : Nat} {t : Tok} {z : Tx} {p1 p2 p3 : Pos} {kk : Nat} (hn : s.heap.Ns C m₃) (hm : m₃ x = some (.str ⟨#[ch]⟩ t))
    {Q : Value → Shared → Prop} (q : ∀ tk, Q (.bool (z.contains ch)) { s with toks := tk }) : wpAny (model prog w) A (eval (.Compare (.Name x p1) [.In] [.Constant (.str (toS z)) kk p2] p3) (compEnv sc C env)) Q E s := by
  refine wpAny_Compare1 (comp_name c hn hm (Calls.Constant_str ?_)) rfl
  refine PyProof.Rows.in_str ?_
  rw [StrLaws.found_one]
  have : decide (ch ∈ (toS z).cps.toList) = z.contains ch := by rw [Bool.eq_iff_iff, decide_eq_true_iff]; simp [toS]
  rw [this]
  exact q _
end
end
section
open PySem.SeqAt
set_option genCtorIdx false
set_option genSizeOf false
set_option genInjectivity false

inductive CSrc (prog : Program) (w : World) (A : Around) (env : Env) (elt : Expr) (x : Str) (sc : Scope) (xv : Value) (yp : List Value → Prop) (s : Shared) : Prop where
  | mk (F : Value → Value → Prop) (Y : List Value → Prop) (hy : ∀ vs ys, Y vs → Paired F vs ys → yp ys) (H : ∀ (E : Value → Shared → Prop) (Q : Value → Shared → Prop), (∀ I s₂, WkQ prog w A env elt x sc F Y s I s₂ → Q (.ref I) s₂) → wpAny (model prog w) A (pyIter xv) Q E s) : CSrc prog w A env elt x sc xv yp s

section
variable {X : Cx} {fr : Fm} {m : Str → Option Value} {loc : Loc} {lay : Lay} {σ : Sto} {s : Shared} {A : Around} {E : Value → Shared → Prop}

theorem RepL.mem {h ban} : ∀ {l : List D} {vs : List Value} {v : Value}, RepL X h lay ban l vs → v ∈ vs → ∃ d ∈ l, Rep X h lay ban d v
  | [], vs, v, R, hv => by cases R; cases hv
  | d :: l, vs, v, R, hv => by
    obtain ⟨u, us, rfl, r, R⟩ := R
    rcases List.mem_cons.mp hv with h | h
    · exact ⟨d, .head _, h ▸ r⟩
    · obtain ⟨d', hd, r'⟩ := R.mem h; exact ⟨d', .tail _ hd, r'⟩
theorem subsL_inv {k : Nat} {d : D} {l r : List D} (e : subsL k (d :: l) = some r) : ∃ t d' ds, d = .tup t ∧ t[k]? = some d' ∧ subsL k l = some ds ∧ r = d' :: ds := by
  cases d with
  | tup t =>
    have e' : (match t[k]? with | some d => (subsL k l).map (d :: ·) | none => none) = some r := e
    cases e1 : t[k]? with
    | none => rw [e1] at e'; cases e'
    | some d' =>
      rw [e1] at e'
      obtain ⟨ds, e2, e3⟩ := Option.map_eq_some_iff.mp e'
      exact ⟨t, d', ds, rfl, e1, e2, e3.symm⟩
  | _ => cases e
theorem modsL_inv {k : Int} {d : D} {l r : List D} (e : modsL k (d :: l) = some r) : ∃ i ds, d = .int i ∧ modsL k l = some ds ∧ r = .int (i.fmod k) :: ds := by
  cases d with
  | int i => obtain ⟨ds, e2, e3⟩ := Option.map_eq_some_iff.mp e; exact ⟨i, ds, rfl, e2, e3.symm⟩
  | _ => cases e
theorem subsL_mem {k : Nat} : ∀ {l r : List D}, subsL k l = some r → ∀ d ∈ l, ∃ t d', d = .tup t ∧ t[k]? = some d'
  | [], _, _, d, hd => nomatch hd
  | a :: l, r, e, d, hd => by
    obtain ⟨t, d', ds, h1, h2, h3, _⟩ := subsL_inv e
    rcases List.mem_cons.mp hd with h | h
    · exact ⟨t, d', h.trans h1, h2⟩
    · exact subsL_mem h3 d h
theorem modsL_mem {k : Int} : ∀ {l r : List D}, modsL k l = some r → ∀ d ∈ l, ∃ i, d = .int i
  | [], _, _, d, hd => nomatch hd
  | a :: l, r, e, d, hd => by
    obtain ⟨i, ds, h1, h2, _⟩ := modsL_inv e
    rcases List.mem_cons.mp hd with h | h
    · exact ⟨i, h.trans h1⟩
    · exact modsL_mem h2 d h

theorem pair_nil {F : Value → Value → Prop} {ys : List Value} {G : List Value → Prop} (P : Paired F [] ys) (H : G []) : G ys := by cases P; exact H
theorem pair_cons {F : Value → Value → Prop} {v : Value} {vs ys : List Value} {G : List Value → Prop} (P : Paired F (v :: vs) ys) (H : ∀ y ys, F v y → Paired F vs ys → G (y :: ys)) : G ys := by cases P; exact H _ _ (by assumption) (by assumption)
theorem sub_pairs {h ban k} : ∀ {l r : List D} {vs ys : List Value}, RepL X h lay ban l vs → subsL k l = some r → Paired (fun v y => ∃ a its, v = .ref a ∧ IsTup h a its ∧ its[k]? = some y) vs ys → RepL X h lay ban r ys
  | [], r, vs, ys, R, e, P => Option.some.inj e ▸ R.unnil (P := fun vs => Paired _ vs ys → RepL X h lay ban [] ys) (fun P => pair_nil P .nil) P
  | d :: l, r, vs, ys, R, e, P => by
    obtain ⟨t, d', ds, hd, e1, e2, hr⟩ := subsL_inv e
    rw [hr]; rw [hd] at R
    refine R.uncons (P := fun vs => Paired _ vs ys → RepL X h lay ban (d' :: ds) ys) (fun v us r0 R P => pair_cons P fun y ys hF P => .cons ?_ (sub_pairs R e2 P)) P
    obtain ⟨a', its, hv, ⟨o, ho, _, n', hd⟩, hy⟩ := hF
    obtain ⟨a, tvs, ea, ⟨n, dd, F1, sl, e3⟩, R1⟩ := r0
    cases ea.symm.trans hv
    rw [e3] at ho; cases ho; cases hd
    obtain ⟨u, hu, ru⟩ := R1.get k e1
    exact Option.some.inj ((List.getElem?_toArray.trans hu).symm.trans hy) ▸ ru
theorem mod_pairs {h ban} {k : Int} : ∀ {l r : List D} {vs ys : List Value}, RepL X h lay ban l vs → modsL k l = some r → Paired (fun v y => ∃ i t t', v = .int i t ∧ y = .int (i.fmod k) t') vs ys → RepL X h lay ban r ys
  | [], r, vs, ys, R, e, P => Option.some.inj e ▸ R.unnil (P := fun vs => Paired _ vs ys → RepL X h lay ban [] ys) (fun P => pair_nil P .nil) P
  | d :: l, r, vs, ys, R, e, P => by
    obtain ⟨i, ds, hd, e2, hr⟩ := modsL_inv e
    rw [hr]; rw [hd] at R
    refine R.uncons (P := fun vs => Paired _ vs ys → RepL X h lay ban (_ :: ds) ys) (fun v us r0 R P => pair_cons P fun y ys hF P => .cons ?_ (mod_pairs R e2 P)) P
    obtain ⟨i', t, t', hv, hy⟩ := hF
    obtain ⟨t0, ei⟩ := r0
    cases ei.symm.trans hv
    exact ⟨t', hy⟩
theorem in_pairs {h ban} {z : Tx} : ∀ {t : Tx} {vs ys : List Value}, vs.length = t.length → (∀ (j : Nat) (v : Value), vs[j]? = some v → ∃ c u, t[j]? = some c ∧ v = .str ⟨#[c]⟩ u) → Paired (fun v y => ∃ c u, v = .str ⟨#[c]⟩ u ∧ y = .bool (z.contains c)) vs ys →
    RepL X h lay ban (t.map fun c => D.bool (z.contains c)) ys
  | [], vs, ys, hl, _, P => by cases List.eq_nil_of_length_eq_zero hl; exact pair_nil P .nil
  | c :: t, vs, ys, hl, hv, P => by
    cases vs with
    | nil => cases hl
    | cons v vs =>
      refine pair_cons P fun y ys hF P => ?_
      obtain ⟨c', u', e1, e2⟩ := hv 0 v rfl
      obtain ⟨c'', u'', e3, hy⟩ := hF
      cases e2.symm.trans e3
      cases (Option.some.inj e1 : c = c')
      exact .cons (d := .bool _) hy (in_pairs (Nat.succ.inj hl) (fun j v e => hv (j + 1) v e) P)

theorem sub_src {x : Str} {sc : Scope} {p1 p2 p3 : Pos} {kk k : Nat} {l r : List D} {xv : Value} {env : Env} (c : CompOk sc x) (hh : A.handled = none) (R : Rep X s.heap lay fr.ban (.lst l) xv) (hz : Sz l.length) (hk : k < 1000) (e : subsL k l = some r) :
    CSrc X.prog X.w A env (.Subscript (.Name x p1) (.Constant (.int k) kk p2) p3) x sc xv (fun ys => RepL X s.heap lay fr.ban r ys) s :=
  R.lst fun a vs I R1 => ⟨fun v y => ∃ a its, v = .ref a ∧ IsTup s.heap a its ∧ its[k]? = some y, fun vs' => vs' = vs.toArray.toList, fun vs' ys h1 h3 => sub_pairs R1 e ((h1.trans List.toList_toArray) ▸ h3),
    fun E Q hQ => pkg_list I.lst hh (by rw [List.size_toArray, ← R1.length]; exact hz.line) _ (fun v hv C s₃ m₃ E' hn hm hkp => by
      obtain ⟨d, hd, rv⟩ := R1.mem (show v ∈ vs from hv)
      obtain ⟨t, d, rfl, ed⟩ := subsL_mem e d hd
      obtain ⟨ta, tvs, rfl, tI, tR⟩ := rv
      obtain ⟨y, hy, _⟩ := tR.get k ed
      have hy' : tvs.toArray[k]? = some y := List.getElem?_toArray.trans hy
      obtain ⟨o, ho, hc⟩ := tI.tup
      exact elt_sub c hn hm ⟨o, hkp _ _ ho, hc⟩ hy' hk fun tk => ⟨⟨ta, _, rfl, ⟨o, ho, hc⟩, hy'⟩, s₃.heap, tk, rfl, fun _ _ e => e⟩) hQ⟩
theorem mod_src {x : Str} {sc : Scope} {p1 p2 p3 : Pos} {kk : Nat} {k : Int} {l r : List D} {xv : Value} {env : Env} (c : CompOk sc x) (hh : A.handled = none) (R : Rep X s.heap lay fr.ban (.lst l) xv) (hz : Sz l.length) (hk : 0 < k) (e : modsL k l = some r) :
    CSrc X.prog X.w A env (.BinOp (.Name x p1) .Mod (.Constant (.int k) kk p2) p3) x sc xv (fun ys => RepL X s.heap lay fr.ban r ys) s :=
  R.lst fun a vs I R1 => ⟨fun v y => ∃ i t t', v = .int i t ∧ y = .int (i.fmod k) t', fun vs' => vs' = vs.toArray.toList, fun vs' ys h1 h3 => mod_pairs R1 e ((h1.trans List.toList_toArray) ▸ h3),
    fun E Q hQ => pkg_list I.lst hh (by rw [List.size_toArray, ← R1.length]; exact hz.line) _ (fun v hv C s₃ m₃ E' hn hm hkp => by
      obtain ⟨d, hd, rv⟩ := R1.mem (show v ∈ vs from hv)
      obtain ⟨i, rfl⟩ := modsL_mem e d hd
      obtain ⟨t, rfl⟩ := rv
      exact elt_mod c hn hm (Int.ne_of_gt hk) fun u tk => ⟨⟨i, t, u, rfl, rfl⟩, s₃.heap, tk, rfl, fun _ _ e => e⟩) hQ⟩
theorem in_src {x : Str} {sc : Scope} {p1 p2 p3 : Pos} {kk : Nat} {z t : Tx} {xv : Value} {env : Env} (c : CompOk sc x) (hh : A.handled = none) (R : Rep X s.heap lay fr.ban (.str t) xv) (hz : Sz t.length) :
    CSrc X.prog X.w A env (.Compare (.Name x p1) [.In] [.Constant (.str (toS z)) kk p2] p3) x sc xv (fun ys => RepL X s.heap lay fr.ban (t.map fun c => D.bool (z.contains c)) ys) s :=
  have hl : (toS t).cps.size = t.length := toS_len t
  R.str fun u => ⟨fun v y => ∃ c u, v = .str ⟨#[c]⟩ u ∧ y = .bool (z.contains c), _, fun vs' ys h1 h3 => in_pairs (h1.1.trans hl) (fun j v e => (h1.2 j v e).imp fun c q => q.imp fun u q => ⟨List.getElem?_toArray.symm.trans q.1, q.2⟩) h3,
    fun E Q hQ => pkg_str hh (by rw [hl]; exact hz.line) _ (fun ch u C s₃ m₃ E' hn hm hkp => elt_in c hn hm fun tk => ⟨⟨ch, u, rfl, rfl⟩, s₃.heap, tk, rfl, fun _ _ e => e⟩) hQ⟩

theorem St.assign (FO : fr.Ok) (S : St X fr m loc lay σ s) {i : Nat} {id : Str} {d : D} {v : Value} {s' : Shared} (h1 : fr.nm[i]? = some id) (hn : s'.heap.Ns fr.L (fun z => if z = id then some v else m z)) (k : ∀ b o, b ≠ fr.L → s.heap.get? b = some o → s'.heap.get? b = some o)
    (hg : s'.gens = s.gens) (ho : s'.os = s.os) (R : Rep X s'.heap lay fr.ban d v) :
    St X fr (fun z => if z = id then some v else m z) (loc.set i (some d)) lay σ s' ∧ Evo fr.ban (some fr.L) lay lay s.heap s'.heap := by
  have E := S.evoBut hn k
  refine ⟨⟨hn, fun j x d' a b => ?_, S.above, S.gBut hn k hg ho⟩, E⟩
  by_cases hj : i = j
  · subst hj
    rw [h1] at a; cases a
    have hi : i < loc.length := by have := (List.getElem?_eq_some_iff.mp b).1; simpa using this
    rw [List.getElem?_set_self hi] at b
    cases b
    exact ⟨v, by simp, R⟩
  · rw [List.getElem?_set_ne hj] at b
    obtain ⟨v', e, r⟩ := S.loc j x d' a b
    refine ⟨v', ?_, r.evo E⟩
    have : x ≠ id := fun q => by
      subst q
      exact hj ((List.getElem?_inj (List.getElem?_eq_some_iff.mp h1).1 FO.nodup).mp (h1.trans a.symm))
    simp [this, e]

inductive SrcQ (X : Cx) (fr : Fm) (m : Str → Option Value) (loc : Loc) (A : Around) (elt : Expr) (x : Str) (sc : Scope) (h₀ : Heap) (lay₀ : Lay) (k : Lay → Shared → List D → Sto → Prop) (xv : Value) (s₁ : Shared) : Prop where
  | mk (lay₁ : Lay) (σ₁ : Sto) (r : List D) (S : St X fr m loc lay₁ σ₁ s₁) (E : Evo fr.ban (some fr.L) lay₀ lay₁ h₀ s₁.heap) (C : CSrc X.prog X.w A fr.env elt x sc xv (fun ys => RepL X s₁.heap lay₁ fr.ban r ys) s₁) (K : k lay₁ s₁ r σ₁) : SrcQ X fr m loc A elt x sc h₀ lay₀ k xv s₁
theorem noFold {it : Expr} (hs : plainE it = true) {env : Env} : ∀ x, foldedSetIterable it env x = pure x := by
  cases it <;> first | (intro _; rfl) | exact absurd (show false = true from hs) Bool.false_ne_true
theorem comp_eval {elt it : Expr} {x : Str} {px : Pos} {sc : Scope} {pos : Pos} {k : KV} {h₀ : Heap} {lay₀ : Lay} (c : CompOk sc x) (hs : plainE it = true)
    (h : wpAny (model X.prog X.w) A (eval it fr.env) (SrcQ X fr m loc A elt x sc h₀ lay₀ fun _ _ r σ => k (.lst r) σ) E s) :
    wpAny (model X.prog X.w) A (eval (.ListComp elt [⟨.Name x px, it, [], 0⟩] sc pos) fr.env) (VQ X fr m loc h₀ lay₀ k) E s := by
  refine wpAny_ListComp c.free c.kind c.loc (wpAny_mono h (fun xv s₁ h₁ => ?_) fun _ _ e => e) (noFold hs)
  obtain ⟨lay₁, σ₁, r, S, E₁, ⟨F, Y, hy, hF⟩, hk⟩ := h₁
  refine hF _ _ fun I s₂ ⟨fp, wr, n, P, St_, W, hsz, hst, hfp, hq, hwr, hyp, up, eg, eo, ed⟩ => ?_
  refine comp_block_walk (RR := fun acc cenv r s' => ∃ m, s'.heap.Ns cenv.locals m ∧ ∀ h', Heap.SameBut cenv.locals s'.heap h' →
    match r with | .ok _ => VQ X fr _ loc h₀ lay₀ k acc { s' with heap := h' } | .error x => wpAny (model X.prog X.w) A (passOn "comprehension.variables-let-go" x cenv) (VQ X fr _ loc h₀ lay₀ k) E { s' with heap := h' }) W hsz (fun _ => true) F c.cell c.kind c.lx hst hfp hq ?_
  intro D C h' tk m' ys vs hD hC hDC hn hl hpl hlen hP hPF hkeep
  refine ⟨m', hn, fun h'' hs'' => ?_⟩
  have old : ∀ b o, s₁.heap.get? b = some o → h''.get? b = some o := fun b o e =>
    hs''.extBut b o (by rintro rfl; rw [up _ _ e] at hC; cases hC) (hkeep b o (fun hb => by rw [hwr b hb] at e; cases e) (up b o e))
  have hD1 : s₁.heap.get? D = none := by
    cases q : s₁.heap.get? D with
    | none => rfl
    | some o => rw [up _ _ q] at hD; cases hD
  obtain ⟨S', E'⟩ := S.stepK (s' := { s₂ with heap := h'', toks := tk }) (by obtain ⟨o, es, ep, ho, r⟩ := S.ns; exact ⟨o, es, ep, old _ _ ho, r⟩) (fun b o _ e => old b o e) eg eo
  obtain ⟨nn, hpl⟩ := hpl.extBut hs''.extBut hDC
  rw [filter_true] at hPF
  exact ⟨.lst r, σ₁, lay₁, S', E₁.trans E', ⟨D, ys.toList, rfl, ⟨nn, none, S.freeNew hD1, #[], by simpa using hpl⟩, (hy vs ys.toList (hyp vs hlen hP) hPF).evo E'⟩, hk⟩

theorem comp_asg (FO : fr.Ok) {elt it : Expr} {x y : Str} {px py : Pos} {sc : Scope} {pos spos : Pos} {i : Nat} {Q : Flow → Shared → Prop} {h₀ : Heap} {lay₀ : Lay} (hi : fr.nm[i]? = some y) (c : CompOk sc x) (hs : plainE it = true)
    (hsw : swapsWith (.ListComp elt [⟨.Name x px, it, [], 0⟩] sc pos) (some (.Name y py)) spos.line fr.env = pure true)
    (h : wpAny (model X.prog X.w) A (eval it fr.env) (SrcQ X fr m loc A elt x sc h₀ lay₀ fun lay₁ s₁ r σ₁ => ∀ m' s', St X fr m' (loc.set i (some (.lst r))) lay₁ σ₁ s' → Evo fr.ban (some fr.L) lay₁ lay₁ s₁.heap s'.heap → Q .next s') E s) :
    wpAny (model X.prog X.w) A (exec (.Assign [.Name y py] (.ListComp elt [⟨.Name x px, it, [], 0⟩] sc pos) spos) fr.env) Q E s := by
  have hy0 := FO.loc y (List.mem_of_getElem? hi)
  have hp : (fr.env.scope.kind == .class || (fr.env.scope.kind == .module && fr.env.locals != fr.env.globals)) = false := by
    show (fr.scope.kind == .class || (fr.scope.kind == .module && _)) = false
    rw [FO.kind]; rfl
  rw [exec_Assign_Name_used _ _ _ _ hsw]
  refine wpAny_bind (wpAny_standAt (wpAny_bind ?_))
  show wpAny _ A (do let _ ← comprehension (.ListComp elt [⟨.Name x px, it, [], 0⟩] sc pos) sc fr.env _ (newList []) false (eval it fr.env) (some (assign (.Name y py) fr.env))) _ _ s
  refine wpAny_bind (wpAny_mono (wpAny_comprehension_use (Q := fun _ s' => Q .next s') rfl (noFold hs) c.free c.kind c.loc (wpAny_mono h (fun xv s₁ h₁ => ?_) fun _ _ e => e))
    (fun _ s' hq => wpAny_pure (wpAny_pure hq)) fun _ _ e => e)
  obtain ⟨lay₁, σ₁, r, S, _, ⟨F, Y, hy, hF⟩, hk⟩ := h₁
  refine hF _ _ fun I s₂ ⟨fp, wr, n, P, St_, W, hsz, hst, hfp, hq, hwr, hyp, up, eg, eo, ed⟩ => ?_
  refine comp_block_walk (RR := fun acc cenv r s' => match r with
      | .ok _ => wpAny (model X.prog X.w) A (assign (.Name y py) fr.env acc) (fun _ s'' => ∃ m, s''.heap.Ns cenv.locals m ∧ ∀ h', Heap.SameBut cenv.locals s''.heap h' → Q .next { s'' with heap := h' }) E s'
      | .error x => ∃ m, s'.heap.Ns cenv.locals m ∧ ∀ h', Heap.SameBut cenv.locals s'.heap h' → wpAny (model X.prog X.w) A (passOn "comprehension.variables-let-go" x cenv) (fun _ s' => Q .next s') E { s' with heap := h' }) W hsz (fun _ => true) F c.cell c.kind c.lx hst hfp hq ?_
  intro D C h' tk m' ys vs hD hC hDC hnC hlD hplD hlen hP hPF hkeep
  have old : ∀ b o, s₁.heap.get? b = some o → h'.get? b = some o := fun b o e => hkeep b o (fun hb => by rw [hwr b hb] at e; cases e) (up b o e)
  have new1 : ∀ a, s₂.heap.get? a = none → s₁.heap.get? a = none := fun a e => by
    cases q : s₁.heap.get? a with
    | none => rfl
    | some o => rw [up _ _ q] at e; cases e
  have hn' : h'.Ns fr.L m := by obtain ⟨o, es, ep, ho, r⟩ := S.ns; exact ⟨o, es, ep, old _ _ ho, r⟩
  have hne : ∀ a, s₂.heap.get? a = none → fr.L ≠ a := fun a e q => by obtain ⟨o, _, _, ho, _⟩ := S.ns; rw [q, new1 _ e] at ho; cases ho
  refine wpAny_assign_Name (wpAny_storeName_local hy0 hn' (fun h₂ hn₂ hs₂ => ?_) hp)
  refine ⟨m', hnC.sameBut hs₂ (Ne.symm (hne _ hC)), fun h₃ hs₃ => ?_⟩
  have old3 : ∀ b o, b ≠ fr.L → s₁.heap.get? b = some o → h₃.get? b = some o := fun b o ne e =>
    hs₃.extBut b o (by rintro rfl; rw [new1 _ hC] at e; cases e) (hs₂.extBut b o ne (old b o e))
  obtain ⟨nn, hpl⟩ := (hplD.extBut hs₂.extBut (Ne.symm (hne _ hD))).extBut hs₃.extBut hDC
  rw [filter_true] at hPF
  have Ns3 := hn₂.sameBut hs₃ (hne _ hC)
  have E3 : Evo fr.ban (some fr.L) lay₁ lay₁ s₁.heap h₃ := S.evoBut Ns3 old3
  have q := S.assign (d := .lst r) (s' := { s₂ with heap := h₃, toks := tk + 1 }) FO hi Ns3 old3 eg eo ⟨D, ys.toList, rfl, ⟨nn, none, S.freeNew (new1 _ hD), #[], by simpa using hpl⟩, (hy vs ys.toList (hyp vs hlen hP) hPF).evo E3⟩
  exact hk _ _ q.1 q.2
end
end
section
open PySem.SeqAt
set_option genCtorIdx false
set_option genSizeOf false
set_option genInjectivity false

structure PrefOk (X : Cx) : Prop where
  here : ∃ pb f, ktsB X.K ("PREFIX_BASES" : Str) (.ref pb) = true ∧ X.base.MapOf (PySem.strKind X.prog X.w) pb f ∧ (pb == sysModules) = false ∧ ∀ x : Tx, (match f (toS x) with | some v => ∃ t, v = .int (prefB x) t | none => prefB x = 10)

section
variable {X : Cx} {fr : Fm} {m : Str → Option Value} {loc : Loc} {lay : Lay} {σ : Sto} {s : Shared} {A : Around} {E : Value → Shared → Prop}

theorem vback {h₀ h₁ : Heap} {lay₀ lay₁ : Lay} {k : KV} {M : Model} {t : Sem Value} (h : wpAny M A t (VQ X fr m loc h₁ lay₁ k) E s) (e : Evo fr.ban (some fr.L) lay₀ lay₁ h₀ h₁) : wpAny M A t (VQ X fr m loc h₀ lay₀ k) E s :=
  wpAny_mono h (fun _ _ q => VQ.back e q) fun _ _ q => q
theorem xback {h₀ h₁ : Heap} {lay₀ lay₁ : Lay} {k : KV} {x : KX} {M : Model} {t : Sem Value} (h : wpAny M A t (VQ X fr m loc h₁ lay₁ k) (XQ X fr m loc h₁ lay₁ x) s) (e : Evo fr.ban (some fr.L) lay₀ lay₁ h₀ h₁) : wpAny M A t (VQ X fr m loc h₀ lay₀ k) (XQ X fr m loc h₀ lay₀ x) s :=
  wpAny_mono h (fun _ _ q => VQ.back e q) fun _ _ q => XQ.back e q
theorem bback {h₀ h₁ : Heap} {lay₀ lay₁ : Lay} {k : Bool → Sto → Prop} {x : KX} {M : Model} {t : Sem Bool} (h : wpAny M A t (BQ X fr m loc h₁ lay₁ k) (XQ X fr m loc h₁ lay₁ x) s) (e : Evo fr.ban (some fr.L) lay₀ lay₁ h₀ h₁) : wpAny M A t (BQ X fr m loc h₀ lay₀ k) (XQ X fr m loc h₀ lay₀ x) s :=
  wpAny_mono h (fun _ _ q => BQ.back e q) fun _ _ q => XQ.back e q

theorem pref_call (PO : PrefOk X) (S : St X fr m loc lay σ s) {x : Tx} {t t' : Tok} {pb : Addr} {f : Str → Option Value} {k : KV} (M : X.base.MapOf (PySem.strKind X.prog X.w) pb f) (hne : (pb == sysModules) = false) (hf : ∀ x : Tx, (match f (toS x) with | some v => ∃ t, v = .int (prefB x) t | none => prefB x = 10))
    (h : k (.int (prefB x)) σ) : wpAny (model X.prog X.w) A (call (.builtin "dict.get") [.ref pb, .str (toS x) t, .int 10 t']) (VQ X fr m loc s.heap lay k) E s := by
  have M' : s.heap.MapOf (PySem.strKind X.prog X.w) pb f := MapOf.keeps' M fun o e => S.g.stays _ o e
  refine call_meetsIn PySem.F.slot_dict_get M'.typeIs PySem.F.entry_dict_get (PySem.F.args_dict_get_3 _ _ _) (meets_dict_get_default (PySem.strKind X.prog X.w) pb (k := toS x) (by simp [PySem.strKind, Value.isStrOf]) hne (.int 10 t')) ⟨_, M', ?_⟩
  have q := hf x
  cases e : f (toS x) with
  | none => rw [e] at q; rw [(q : prefB x = 10)] at h; exact S.vqI h
  | some v => rw [e] at q; obtain ⟨u, rfl⟩ := q; exact S.vqI h
theorem lookMap {K : Type} [DecidableEq K] {prog : Program} {w : World} {knd : KeyKind prog w K} {a : Addr} {f : K → Option Value} {pl : Sem Bool} {id : String} {nm : Str} {M : Model} (I : s.heap.MapOf knd a f) (slot : Slot "dict" nm id) (ty : typeOf (.builtin id) = pure (.type "method_descriptor"))
    {Q : Value × List Value → Shared → Prop} (q : Q (.builtin id, [.ref a]) s) : wpAny M A (getMethod (.ref a) nm pl) Q E s := by
  refine getMethod_builtin (T := "dict") (id := id) ?a ?b ?c ?d ?e ?f
  case a => exact I.typeIs
  case b => exact PySem.F.plainAttrs_dict
  case c => exact slot
  case d => exact ty
  case e => exact I.noDict
  case f => exact q

variable (X fr m loc A)
inductive LQ (h₀ : Heap) (lay₀ : Lay) (k : KV) (vs : List Value) (s' : Shared) : Prop where
  | mk (l : List D) (σ' : Sto) (lay' : Lay) (S : St X fr m loc lay' σ' s') (E : Evo fr.ban (some fr.L) lay₀ lay' h₀ s'.heap) (R : RepL X s'.heap lay' fr.ban l vs) (K : k (.lst l) σ') : LQ h₀ lay₀ k vs s'
noncomputable def EvS (C : Calls) (ce : CE) (e : Expr) : Prop := ∀ (lay : Lay) (σ : Sto) (s : Shared) (k : KV) (x : KX), St X fr m loc lay σ s → ev X.B.tab C loc ce .v σ k x →
  wpAny (model X.prog X.w) A (eval e fr.env) (VQ X fr m loc s.heap lay k) (XQ X fr m loc s.heap lay x) s
noncomputable def EbS (C : Calls) (ce : CE) (e : Expr) : Prop := ∀ (lay : Lay) (σ : Sto) (s : Shared) (k : KV) (x : KX), St X fr m loc lay σ s → ev X.B.tab C loc ce .b σ k x →
  wpAny (model X.prog X.w) A (PySem.isTrue e fr.env (eval e fr.env)) (BQ X fr m loc s.heap lay (fun b σ => k (.bool b) σ)) (XQ X fr m loc s.heap lay x) s
noncomputable def ElS (C : Calls) (ce : CE) (es : List Expr) : Prop := ∀ (lay : Lay) (σ : Sto) (s : Shared) (k : KV) (x : KX) (pos : Pos), St X fr m loc lay σ s → ev X.B.tab C loc ce .l σ k x →
  wpAny (model X.prog X.w) A (spliced (backTo pos (starEach es fr.env))) (LQ X fr m loc s.heap lay k) (XQ X fr m loc s.heap lay x) s
noncomputable def EvoS (md : Md) (op : BoolOp) (C : Calls) (ce : CE) (es : List Expr) : Prop := ∀ (lay : Lay) (σ : Sto) (s : Shared) (k : KV) (x : KX) (pos : Pos), St X fr m loc lay σ s → ev X.B.tab C loc ce md σ k x →
  wpAny (model X.prog X.w) A (eval (.BoolOp op es pos) fr.env) (VQ X fr m loc s.heap lay k) (XQ X fr m loc s.heap lay x) s
noncomputable def EbaS (md : Md) (op : BoolOp) (C : Calls) (ce : CE) (es : List Expr) : Prop := ∀ (lay : Lay) (σ : Sto) (s : Shared) (k : KV) (x : KX) (pos : Pos) (whole : Sem Value), St X fr m loc lay σ s → ev X.B.tab C loc ce md σ k x →
  wpAny (model X.prog X.w) A (PySem.isTrue (.BoolOp op es pos) fr.env whole) (BQ X fr m loc s.heap lay (fun b σ => k (.bool b) σ)) (XQ X fr m loc s.heap lay x) s
variable {X fr m loc A}

theorem EvS.use {C : Calls} {ce : CE} {e : Expr} (H : EvS X fr m loc A C ce e) {h₀ : Heap} {lay₀ : Lay} (S : St X fr m loc lay σ s) (E₀ : Evo fr.ban (some fr.L) lay₀ lay h₀ s.heap) {K : KV} {x : KX} (h : ev X.B.tab C loc ce .v σ K x) {P : Value → Shared → Prop}
    (step : ∀ v d lay' σ' s', St X fr m loc lay' σ' s' → Evo fr.ban (some fr.L) lay₀ lay' h₀ s'.heap → Evo fr.ban (some fr.L) lay lay' s.heap s'.heap → Rep X s'.heap lay' fr.ban d v → K d σ' → P v s') :
    wpAny (model X.prog X.w) A (eval e fr.env) P (XQ X fr m loc h₀ lay₀ x) s :=
  wpAny_mono (H lay σ s K x S h) (fun v s' q => q.casesOn fun d σ' lay' S' E' R hk => step v d lay' σ' s' S' (E₀.trans E') E' R hk) fun _ _ q => XQ.back E₀ q
theorem EbS.use {C : Calls} {ce : CE} {e : Expr} (H : EbS X fr m loc A C ce e) {h₀ : Heap} {lay₀ : Lay} (S : St X fr m loc lay σ s) (E₀ : Evo fr.ban (some fr.L) lay₀ lay h₀ s.heap) {K : KV} {x : KX} (h : ev X.B.tab C loc ce .b σ K x) {P : Bool → Shared → Prop}
    (step : ∀ b lay' σ' s', St X fr m loc lay' σ' s' → Evo fr.ban (some fr.L) lay₀ lay' h₀ s'.heap → K (.bool b) σ' → P b s') :
    wpAny (model X.prog X.w) A (PySem.isTrue e fr.env (eval e fr.env)) P (XQ X fr m loc h₀ lay₀ x) s :=
  wpAny_mono (H lay σ s K x S h) (fun b s' q => q.casesOn fun σ' lay' S' E' hk => step b lay' σ' s' S' (E₀.trans E') hk) fun _ _ q => XQ.back E₀ q
theorem ElS.use {C : Calls} {ce : CE} {es : List Expr} (H : ElS X fr m loc A C ce es) {h₀ : Heap} {lay₀ : Lay} {pos : Pos} (S : St X fr m loc lay σ s) (E₀ : Evo fr.ban (some fr.L) lay₀ lay h₀ s.heap) {K : KV} {x : KX} (h : ev X.B.tab C loc ce .l σ K x) {P : List Value → Shared → Prop}
    (step : ∀ vs l lay' σ' s', St X fr m loc lay' σ' s' → Evo fr.ban (some fr.L) lay₀ lay' h₀ s'.heap → Evo fr.ban (some fr.L) lay lay' s.heap s'.heap → RepL X s'.heap lay' fr.ban l vs → K (.lst l) σ' → P vs s') :
    wpAny (model X.prog X.w) A (spliced (backTo pos (starEach es fr.env))) P (XQ X fr m loc h₀ lay₀ x) s :=
  wpAny_mono (H lay σ s K x pos S h) (fun v s' q => q.casesOn fun d σ' lay' S' E' R hk => step v d lay' σ' s' S' (E₀.trans E') E' R hk) fun _ _ q => XQ.back E₀ q

theorem truth_after (S : St X fr m loc lay σ s) {d : D} {v : Value} {h₀ : Heap} {lay₀ : Lay} {k : KV} {x : KX} (E₀ : Evo fr.ban (some fr.L) lay₀ lay h₀ s.heap) (R : Rep X s.heap lay fr.ban d v) (h : truthP d fun t => k (.bool t) σ) :
    wpAny (model X.prog X.w) A (truthy v) (BQ X fr m loc h₀ lay₀ (fun b σ => k (.bool b) σ)) (XQ X fr m loc h₀ lay₀ x) s :=
  truth_sound S R h fun t ht tk => BQ.back E₀ (S.bq ht)
theorem EvS.eb {C : Calls} {ce : CE} {e : Expr} (H : EvS X fr m loc A C ce e) (hev : ∀ σ k x, ev X.B.tab C loc ce .b σ k x → ev X.B.tab C loc ce .v σ (fun d σ' => truthP d fun t => k (.bool t) σ') x)
    (he : ∀ whole, PySem.isTrue e fr.env whole = (do let v ← whole; standAt e.pos; holding [v] (truthy v))) : EbS X fr m loc A C ce e := fun lay σ s k x S h =>
  isTrue_plain (wpAny_mono (H lay σ s _ x S (hev σ k x h)) (fun v s₁ q => q.casesOn fun d σ₁ lay₁ S₁ E₁ R₁ h => truth_after S₁ E₁ R₁ h) fun _ _ q => q) (he _)
end
end
section
open PySem.SeqAt
set_option genCtorIdx false
set_option genSizeOf false
set_option genInjectivity false
section
variable {X : Cx} {fr : Fm} {m : Str → Option Value} {loc : Loc} {A : Around} {C : Calls} {n : Nat}

abbrev EB (X : Cx) (fr : Fm) (m : Str → Option Value) (loc : Loc) (A : Around) (C : Calls) (ce : CE) : Prop := ∀ e, agE X.B fr.scope fr.nm ce e = true → EvS X fr m loc A C ce e ∧ EbS X fr m loc A C ce e
inductive PQ (X : Cx) (fr : Fm) (m : Str → Option Value) (loc : Loc) (h₀ : Heap) (lay₀ : Lay) (p : List D) (k : KV) (vs : List (Value × Value)) (s' : Shared) : Prop where
  | mk (us xs : List Value) (q : List D) (σ' : Sto) (lay' : Lay) (e : vs = us.zip xs) (S : St X fr m loc lay' σ' s') (E : Evo fr.ban (some fr.L) lay₀ lay' h₀ s'.heap) (R : RepL X s'.heap lay' fr.ban p us) (R' : RepL X s'.heap lay' fr.ban q xs) (K : k (.lst q) σ') : PQ X fr m loc h₀ lay₀ p k vs s'
structure LBs (X : Cx) (fr : Fm) (m : Str → Option Value) (loc : Loc) (A : Around) (C : Calls) (ce : CE) (es : List Expr) : Prop where
  l : ElS X fr m loc A C ce es
  av : EvoS X fr m loc A .av .And C ce es
  ov : EvoS X fr m loc A .ov .Or C ce es
  ab : EbaS X fr m loc A .ab .And C ce es
  ob : EbaS X fr m loc A .ob .Or C ce es
  pairs : ∀ (ks : CE) (p : List D) (kl : List Expr), keysD X.B.tab ks = some p → agL X.B fr.scope fr.nm ks kl = true → kl.length = es.length → ∀ (lay : Lay) (σ : Sto) (s : Shared) (k : KV) (x : KX) (pos : Pos), St X fr m loc lay σ s → ev X.B.tab C loc ce .l σ k x →
    wpAny (model X.prog X.w) A (evalPairs (pairTrees (kl.map some) es fr.env pos)) (PQ X fr m loc s.heap lay p k) (XQ X fr m loc s.heap lay x) s
abbrev LB (X : Cx) (fr : Fm) (m : Str → Option Value) (loc : Loc) (A : Around) (C : Calls) (ce : CE) : Prop := ∀ es, agL X.B fr.scope fr.nm ce es = true → LBs X fr m loc A C ce es

theorem behind_plain {op : CmpOp} {r : Expr} (h : plainE r = true) : behindInMarks op r = false := by cases r <;> first | rfl | exact absurd (show false = true from h) Bool.false_ne_true

theorem noB {ce : CE} {e : Expr} (h : ∀ σ k x, ¬ ev X.B.tab C loc ce .b σ k x) : EbS X fr m loc A C ce e := fun lay σ s k x S q => absurd q (h σ k x)
theorem loc_at {i : Nat} {d : D} (h : loc.getD i none = some d) : loc[i]? = some (some d) := by
  rw [List.getD_eq_getElem?_getD] at h
  cases q : loc[i]? with
  | none => rw [q] at h; cases h
  | some o => rw [q] at h; rw [show o = some d from h]
theorem ev_loc (FO : fr.Ok) (i : Nat) : EB X fr m loc A C (.loc i) := fun e hag => xName_el (show xName e _ = true from hag) fun id pos hag =>
  have H : EvS X fr m loc A C (.loc i) (.Name id pos) := fun lay σ s k x S h => by
    obtain ⟨d, hd, h⟩ := onO_inv (show onO (loc.getD i none) _ from h)
    exact local_sound FO S (beq_iff_eq.mp hag) (loc_at hd) fun v R => S.vq (t := s.toks) R h
  ⟨H, H.eb (fun _ _ _ h => h) fun _ => rfl⟩
theorem ev_glob (O : X.Ok) (FO : fr.Ok) (g : Nat) : EB X fr m loc A C (.glob g) := fun e hag => ⟨fun lay σ s k x S h => glob_sound O FO S hag h, noB fun _ _ _ h => h⟩
theorem ev_lit (d : D) : EB X fr m loc A C (.lit d) := fun e hag => ⟨fun lay σ s k x S h => lit_sound S hag h, noB fun _ _ _ h => h⟩

theorem ev_bin {o a b} (Ha : EB X fr m loc A C a) (Hb : EB X fr m loc A C b) : EB X fr m loc A C (.bin o a b) := fun e hag => xBin_el (show xBin e _ = true from hag) fun l op r pos hag => by
  obtain ⟨h, h2⟩ := bAnd hag
  obtain ⟨h, h1⟩ := bAnd h
  cases (beq_iff_eq.mp (bAnd (bAnd h).1).1 : op = _)
  have H : EvS X fr m loc A C (.bin o a b) (.BinOp l (opOf o) r pos) := fun lay σ s k x S h =>
    wpAny_BinOp ((Ha _ h1).1.use S Evo.refl h fun v d lay₁ σ₁ s₁ S₁ E₁ _ R₁ h => (Hb _ h2).1.use S₁ E₁ h fun u e lay₂ σ₂ s₂ S₂ E₂ E₂' R₂ h => vback (bin_sound S₂ (R₁.evo E₂') R₂ h) E₂)
  exact ⟨H, H.eb (fun _ _ _ h => h) fun _ => rfl⟩

theorem ev_neg {a} (Ha : EB X fr m loc A C a) : EB X fr m loc A C (.neg a) := fun e hag => xUn_el (show xUn e _ = true from hag) fun op x pos hag => by
  cases (beq_iff_eq.mp (bAnd hag).1 : op = _)
  exact ⟨fun lay σ s k x S h => UnaryOp_ ((Ha _ (bAnd hag).2).1.use S Evo.refl h fun v d lay₁ σ₁ s₁ S₁ E₁ _ R₁ h => onI_el h R₁ fun i t h => PySem.P.neg_int (VQ.back E₁ (S₁.vqI h))), noB fun _ _ _ h => h⟩

theorem ev_not {a} (Ha : EB X fr m loc A C a) : EB X fr m loc A C (.not a) := fun e hag => xUn_el (show xUn e _ = true from hag) fun op x pos hag => by
  cases (beq_iff_eq.mp (bAnd hag).1 : op = _)
  exact ⟨fun lay σ s k x S h => UnaryOp_ ((Ha _ (bAnd hag).2).1.use S Evo.refl h fun v d lay₁ σ₁ s₁ S₁ E₁ _ R₁ h => not_of (truth_sound S₁ R₁ h fun t ht tk => VQ.back E₁ (S₁.vqB ht))),
    fun lay σ s k x S h => isTrue_not ((Ha _ (bAnd hag).2).2.use S Evo.refl h fun b lay₁ σ₁ s₁ S₁ E₁ h => BQ.back E₁ (S₁.bq (t := s₁.toks) h))⟩

theorem ev_cmp (O : X.Ok) (r : RoomB A fr.envs n) {o a b} (Ha : EB X fr m loc A C a) (Hb : EB X fr m loc A C b) : EB X fr m loc A C (.cmp o a b) := fun e hag => xCmp_el (show xCmp e _ = true from hag) fun l ops rs pos hag => by
  cases (beq_iff_eq.mp (bAnd hag).1 : ops = _)
  refine b1_el (P := fun rs => EvS X fr m loc A C (.cmp o a b) (.Compare l [cpOf o] rs pos) ∧ EbS X fr m loc A C (.cmp o a b) (.Compare l [cpOf o] rs pos)) (bAnd hag).2 fun rr hag => ?_
  obtain ⟨h, h2⟩ := bAnd hag
  obtain ⟨hp, h1⟩ := bAnd h
  exact ⟨fun lay σ s k x S h3 => wpAny_Compare1 ((Ha _ h1).1.use S Evo.refl h3 fun v d lay₁ σ₁ s₁ S₁ E₁ _ R₁ h => (Hb _ h2).1.use S₁ E₁ h fun u e lay₂ σ₂ s₂ S₂ E₂ E₂' R₂ h =>
      wpAny_mono (cmp_sound (k := fun b σ => k (.bool b) σ) S₂ O.sys r.room.cl (R₁.evo E₂') R₂ h) (fun v s₃ q => by
        obtain ⟨t, rfl, σ₃, lay₃, S₃, E₃, h⟩ := q
        exact VQ.back (E₂.trans E₃) (S₃.vqB (t := s₃.toks) h)) fun _ _ q => q) (behind_plain hp),
    fun lay σ s k x S h3 => wpAny_isTrue_Compare1 ((Ha _ h1).1.use S Evo.refl h3 fun v d lay₁ σ₁ s₁ S₁ E₁ _ R₁ h => (Hb _ h2).1.use S₁ E₁ h fun u e lay₂ σ₂ s₂ S₂ E₂ E₂' R₂ h =>
      wpAny_mono (cmp_sound (k := fun b σ => k (.bool b) σ) S₂ O.sys r.room.cl (R₁.evo E₂') R₂ h) (fun v s₃ q => by
        obtain ⟨t, rfl, q⟩ := q
        exact wpAny_truthy_bool (BQ.back E₂ q)) fun _ _ q => q) (behind_plain hp)⟩
end
end
section
open PySem.SeqAt
section
variable {X : Cx} {fr : Fm} {m : Str → Option Value} {loc : Loc} {A : Around} {C : Calls} {n : Nat}

theorem ev_btw {a b c} (Ha : EB X fr m loc A C a) (Hb : EB X fr m loc A C b) (Hc : EB X fr m loc A C c) : EB X fr m loc A C (.btw a b c) := fun e hag => xCmp_el (show xCmp e _ = true from hag) fun l ops rs pos hag => by
  cases (beq_iff_eq.mp (bAnd hag).1 : ops = _)
  refine b2_el (P := fun rs => EvS X fr m loc A C (.btw a b c) (.Compare l [.Lt, .Lt] rs pos) ∧ EbS X fr m loc A C (.btw a b c) (.Compare l [.Lt, .Lt] rs pos)) (bAnd hag).2 fun mm rr hag => ?_
  obtain ⟨h, h3⟩ := bAnd hag
  obtain ⟨h, h2⟩ := bAnd h
  obtain ⟨h, h1⟩ := bAnd h
  have hp := (bAnd h).2
  refine ⟨fun lay σ s k x S h => (h : False).elim, fun lay σ s k x S h0 => ?_⟩
  refine isTrue_chain ((Ha _ h1).1.use S Evo.refl h0 fun v d lay₁ σ₁ s₁ S₁ E₁ _ R₁ h => test_link ((Hb _ h2).1.use S₁ E₁ h fun u e lay₂ σ₂ s₂ S₂ E₂ E₂' R₂ h => ?_)) (behind_plain hp)
  refine onII_el h (R₁.evo E₂') R₂ fun p q t1 t2 h => PySem.P.lt_int (wpAny_truthy_bool ?_)
  cases hd : decide (p < q) with
  | false => rw [if_neg (by decide)]; exact BQ.back E₂ (S₂.bq (t := s₂.toks) (Br.f h hd))
  | true => rw [if_pos rfl]; exact test_last ((Hc _ h3).1.use S₂ E₂ (Br.t h hd) fun v3 f lay₃ σ₃ s₃ S₃ E₃ _ R₃ h => onI_el h R₃ fun rr t3 h => PySem.P.lt_int (wpAny_truthy_bool (BQ.back E₃ (S₃.bq (t := s₃.toks) h))))

theorem Rep.some {h ban} {lay : Lay} {d : D} {v : Value} (R : Rep X h lay ban d v) : isNV true d = false → v ≠ .none := by
  cases d with
  | none => intro h; cases h
  | bool b => exact R.bool fun _ h => nomatch h
  | int i => exact R.int fun t _ h => nomatch h
  | str x => exact R.str fun t _ h => nomatch h
  | tup l => exact R.tup fun a vs _ _ _ h => nomatch h
  | lst l => exact R.lst fun a vs _ _ _ h => nomatch h
  | node k a ks => obtain ⟨x, va, vs, rfl, _⟩ := R; exact fun _ h => nomatch h
  | h n => exact R.ofH fun p _ _ h => nomatch h
theorem isN_sound {s : Shared} {lay : Lay} {σ : Sto} {E : Value → Shared → Prop} (S : St X fr m loc lay σ s) {d : D} {v : Value} {p : Bool} {M : Model} {Q : Value → Shared → Prop} (R : Rep X s.heap lay fr.ban d v) (q : Q (.bool (isNV p d)) s) :
    wpAny M A (compareOp (if p then .Is else .IsNot) v .none) Q E s := by
  cases hd : isNV true d with
  | true =>
    have e : d = .none := by cases d <;> first | rfl | cases hd
    cases e
    cases (show v = .none from R)
    cases p
    · exact isnot_none_none q
    · exact is_none_none q
  | false =>
    have e : isNV p d = !p := by cases p <;> cases d <;> first | rfl | cases hd
    rw [e] at q
    cases p
    · exact isnot_none_ne (R.some hd) q
    · exact is_none_ne (R.some hd) q

theorem ev_isN {p a} (Ha : EB X fr m loc A C a) : EB X fr m loc A C (.isN p a) := fun e hag => xCmp_el (show xCmp e _ = true from hag) fun l ops rs pos hag => by
  cases (beq_iff_eq.mp (bAnd hag).1 : ops = _)
  have h1 := (bAnd (bAnd hag).2).1
  refine b1_el (P := fun rs => EvS X fr m loc A C (.isN p a) (.Compare l _ rs pos) ∧ EbS X fr m loc A C (.isN p a) (.Compare l _ rs pos)) (bAnd (bAnd hag).2).2 fun rr h => xConst_el h fun c kk cp h => ?_
  cases (beq_iff_eq.mp h : c = .none)
  exact ⟨fun lay σ s k x S h => wpAny_Compare1 ((Ha _ h1).1.use S Evo.refl h fun v d lay₁ σ₁ s₁ S₁ E₁ _ R₁ h => Constant_none (isN_sound S₁ R₁ (VQ.back E₁ (S₁.vqB (t := s₁.toks) h)))) rfl,
    fun lay σ s k x S h => wpAny_isTrue_Compare1 ((Ha _ h1).1.use S Evo.refl h fun v d lay₁ σ₁ s₁ S₁ E₁ _ R₁ h => Constant_none (isN_sound S₁ R₁ (wpAny_truthy_bool (BQ.back E₁ (S₁.bq (t := s₁.toks) h))))) rfl⟩

theorem ev_and {es} (H : LB X fr m loc A C es) : EB X fr m loc A C (.and es) := fun e hag => xBool_el (show xBool e _ = true from hag) fun op vs pos hag => by
  cases (beq_iff_eq.mp (bAnd hag).1 : op = _)
  exact ⟨fun lay σ s k x S h => (H _ (bAnd hag).2).av lay σ s k x _ S h, fun lay σ s k x S h => (H _ (bAnd hag).2).ab lay σ s k x _ _ S h⟩
theorem ev_or {es} (H : LB X fr m loc A C es) : EB X fr m loc A C (.or es) := fun e hag => xBool_el (show xBool e _ = true from hag) fun op vs pos hag => by
  cases (beq_iff_eq.mp (bAnd hag).1 : op = _)
  exact ⟨fun lay σ s k x S h => (H _ (bAnd hag).2).ov lay σ s k x _ S h, fun lay σ s k x S h => (H _ (bAnd hag).2).ob lay σ s k x _ _ S h⟩

theorem ev_ite {t a b} (Ht : EB X fr m loc A C t) (Ha : EB X fr m loc A C a) (Hb : EB X fr m loc A C b) : EB X fr m loc A C (.ite t a b) := fun e hag => xIf_el (show xIf e _ = true from hag) fun x y z pos hag => by
  obtain ⟨h, h3⟩ := bAnd hag
  obtain ⟨h1, h2⟩ := bAnd h
  refine ⟨fun lay σ s k x S h => IfExp_ ((Ht _ h1).2.use S Evo.refl h fun c lay₁ σ₁ s₁ S₁ E₁ h => ?_), noB fun _ _ _ h => h⟩
  cases c with
  | true => rw [if_pos rfl]; exact xback ((Ha _ h2).1 _ _ _ _ _ S₁ h) E₁
  | false => rw [if_neg (by decide)]; exact xback ((Hb _ h3).1 _ _ _ _ _ S₁ h) E₁

theorem ev_tup {es} (H : LB X fr m loc A C es) : EB X fr m loc A C (.tup es) := fun e hag => xTup_el (show xTup e _ = true from hag) fun vs k pos hag =>
  ⟨fun lay σ s k x S h => Tuple_ ((H _ hag).l.use S Evo.refl h fun vs l lay₁ σ₁ s₁ S₁ E₁ _ R₁ h => vback (newTuple_sound S₁ R₁ h) E₁), noB fun _ _ _ h => h⟩
theorem ev_lst {es} (H : LB X fr m loc A C es) : EB X fr m loc A C (.lst es) := fun e hag => xList_el (show xList e _ = true from hag) fun vs pos hag =>
  ⟨fun lay σ s k x S h => List_ ((H _ hag).l.use S Evo.refl h fun vs l lay₁ σ₁ s₁ S₁ E₁ _ R₁ h => vback (newList_sound S₁ R₁ h) E₁), noB fun _ _ _ h => h⟩
theorem ev_mcat {a b} (Ha : EB X fr m loc A C a) (Hb : EB X fr m loc A C b) : EB X fr m loc A C (.mcat a b) := fun e hag => xBin_el (show xBin e _ = true from hag) fun l op r pos hag => by
  obtain ⟨h, h2⟩ := bAnd hag
  obtain ⟨h, h1⟩ := bAnd h
  cases (beq_iff_eq.mp (bAnd (bAnd h).1).1 : op = _)
  exact ⟨fun lay σ s k x S h => wpAny_BinOp ((Ha _ h1).1.use S Evo.refl h fun v d lay₁ σ₁ s₁ S₁ E₁ _ R₁ h => (Hb _ h2).1.use S₁ E₁ h fun u e lay₂ σ₂ s₂ S₂ E₂ E₂' R₂ h => by
    obtain ⟨p, rfl, h4⟩ := onL_inv h
    obtain ⟨q, rfl, h5⟩ := onL_inv h4
    exact vback (mcat_sound S₂ (R₁.evo E₂') R₂ h5) E₂), noB fun _ _ _ h => h⟩
theorem ev_mlist {es} (H : LB X fr m loc A C es) : EB X fr m loc A C (.mlist es) := fun e hag => xList_el (show xList e _ = true from hag) fun vs pos hag =>
  ⟨fun lay σ s k x S h => List_ ((H _ hag).l.use S Evo.refl h fun vs l lay₁ σ₁ s₁ S₁ E₁ _ R₁ h => vback (mlist_sound S₁ R₁ h) E₁), noB fun _ _ _ h => h⟩

theorem subscripted_plain {slice : Expr} {v u : Value} (h : (slice.ctorIdx != 26) = true) : subscripted slice false v u = operate [v, u] (getItem v u) := by
  cases slice <;> first | rfl | exact absurd (show false = true from h) Bool.false_ne_true
theorem ev_sub {a i} (Ha : EB X fr m loc A C a) (Hi : EB X fr m loc A C i) : EB X fr m loc A C (.sub a i) := fun e hag => xSub_el (show xSub e _ = true from hag) fun v sl pos hag => by
  obtain ⟨h, h2⟩ := bAnd hag
  obtain ⟨h0, h1⟩ := bAnd h
  have H : EvS X fr m loc A C (.sub a i) (.Subscript v sl pos) := fun lay σ s k x S h =>
    Subscript_ ((Ha _ h1).1.use S Evo.refl h fun v d lay₁ σ₁ s₁ S₁ E₁ _ R₁ h => (Hi _ h2).1.use S₁ E₁ h fun u e lay₂ σ₂ s₂ S₂ E₂ E₂' R₂ h => vback (sub_sound S₂ (R₁.evo E₂') R₂ (subscripted_plain h0) h) E₂)
  exact ⟨H, H.eb (fun _ _ _ h => h) fun _ => rfl⟩

theorem isNoLit_of {c : CE} (h : isNoLit c = true) : c = .lit .none := by
  cases c with
  | lit d => cases d <;> first | rfl | exact absurd (show false = true from h) Bool.false_ne_true
  | _ => exact absurd (show false = true from h) Bool.false_ne_true
theorem part_sound {lo : CE} {l : Option Expr} (hag : (match l with | none => isNoLit lo | some l => agE X.B fr.scope fr.nm lo l) = true) (H : EB X fr m loc A C lo)
    {s : Shared} {lay : Lay} {σ : Sto} {h₀ : Heap} {lay₀ : Lay} (S : St X fr m loc lay σ s) (E₀ : Evo fr.ban (some fr.L) lay₀ lay h₀ s.heap) {K : KV} {x : KX} (h : ev X.B.tab C loc lo .v σ K x) {P : Value → Shared → Prop}
    (step : ∀ v d lay' σ' s', St X fr m loc lay' σ' s' → Evo fr.ban (some fr.L) lay₀ lay' h₀ s'.heap → Evo fr.ban (some fr.L) lay lay' s.heap s'.heap → Rep X s'.heap lay' fr.ban d v → K d σ' → P v s') :
    wpAny (model X.prog X.w) A (evalPart l fr.env) P (XQ X fr m loc h₀ lay₀ x) s := by
  cases l with
  | none => cases isNoLit_of hag; exact wpAny_pure (step .none .none _ _ _ S E₀ Evo.refl rfl h)
  | some e => exact (H _ hag).1.use S E₀ h step
theorem ev_slice {a lo hi} (Ha : EB X fr m loc A C a) (Hl : EB X fr m loc A C lo) (Hh : EB X fr m loc A C hi) : EB X fr m loc A C (.slice a lo hi) := fun e hag => xSub_el (show xSub e _ = true from hag) fun v sl pos hag =>
  xSlice_el (P := fun sl => EvS X fr m loc A C (.slice a lo hi) (.Subscript v sl pos) ∧ EbS X fr m loc A C (.slice a lo hi) (.Subscript v sl pos)) (bAnd hag).2 fun l hh st sp h4 => by
  obtain ⟨h, h3⟩ := bAnd h4
  obtain ⟨h, h2⟩ := bAnd h
  cases Option.isNone_iff_eq_none.mp h
  exact ⟨fun lay σ s k x S h => Subscript_ ((Ha _ (bAnd hag).1).1.use S Evo.refl h fun v d lay₁ σ₁ s₁ S₁ E₁ _ R₁ h => wpAny_Slice (part_sound h2 Hl S₁ E₁ h fun u e lay₂ σ₂ s₂ S₂ E₂ E₂' R₂ h => part_sound h3 Hh S₂ E₂ h fun u3 e3 lay₃ σ₃ s₃ S₃ E₃ E₃' R₃ h =>
    wpAny_pure (vback (slice_sound S₃ ((R₁.evo E₂').evo E₃') (R₂.evo E₃') R₃ h) E₃))), noB fun _ _ _ h => h⟩
end
end
section
open PySem.SeqAt
section
variable {X : Cx} {fr : Fm} {m : Str → Option Value} {loc : Loc} {A : Around} {C : Calls} {n : Nat}

theorem ev_attr (O : X.Ok) {a i} (Ha : EB X fr m loc A C a) : EB X fr m loc A C (.attr a i) := fun e hag => xAttr_el (show xAttr e _ = true from hag) fun v x pos hag => by
  obtain ⟨h, h1⟩ := bAnd hag
  obtain ⟨h, hi⟩ := bAnd h
  obtain ⟨hx, hs⟩ := bAnd h
  cases (beq_iff_eq.mp hx : x = _)
  have hev : eval (v.Attribute (X.B.atN i) pos) fr.env = (do
      let o ← eval v fr.env
      standAt pos.atName
      let r ← holding [o] (getAttr o (X.B.atN i) true)
      letTemporaryGo v o r
      pure r) := by rw [arm_eval_Attribute, base_plain hs]
  have H : EvS X fr m loc A C (.attr a i) (.Attribute v (X.B.atN i) pos) := fun lay σ s k x S h =>
    Attribute_any_ ((Ha _ h1).1.use S Evo.refl h fun v d lay₁ σ₁ s₁ S₁ E₁ _ R₁ h => vback (attr_sound O S₁ (of_decide_eq_true hi) R₁ h) E₁) hev
  exact ⟨H, H.eb (fun _ _ _ h => h) fun _ => rfl⟩

theorem call_use {es} (O : X.Ok) (FO : fr.Ok) (H : LB X fr m loc A C es) {id : Str} {vs : List Expr} {ip pos : Pos} {f : Value} (hl : agL X.B fr.scope fr.nm es vs = true) (hg : gl fr.scope id = true) (hk : ktsB X.K id f = true) (hkeep : keepIn X.K f = true) {lay : Lay} {σ : Sto} {s : Shared} {K : KV} {x : KX} {P : Value → Shared → Prop}
    (S : St X fr m loc lay σ s) (h : ev X.B.tab C loc es .l σ K x)
    (step : ∀ vs d lay' σ' s', St X fr m loc lay' σ' s' → Evo fr.ban (some fr.L) lay lay' s.heap s'.heap → RepL X s'.heap lay' fr.ban d vs → K (.lst d) σ' → wpAny (model X.prog X.w) A (call f vs) P (XQ X fr m loc s.heap lay x) s') :
    wpAny (model X.prog X.w) A (eval (.Call (.Name id ip) vs [] pos) fr.env) P (XQ X fr m loc s.heap lay x) s :=
  Call_Name (name_sound O FO S hg hk (callK hkeep (any_plain hl) ((H _ hl).l.use S Evo.refl h fun vs l lay₁ σ₁ s₁ S₁ E₁ _ R₁ h => ⟨S₁.KX O, step vs l lay₁ σ₁ s₁ S₁ E₁ R₁ h⟩)))
theorem ev_call (O : X.Ok) (FO : fr.Ok) (hC : CallsOk X C n) (r : RoomB A fr.envs n) {f es} (H : LB X fr m loc A C es) : EB X fr m loc A C (.call f es) := fun e hag => xCallN_el (show xCallN e _ = true from hag) fun id vs ip pos hag => by
  obtain ⟨h, hl⟩ := bAnd hag
  obtain ⟨h, hf⟩ := bAnd h
  cases (beq_iff_eq.mp (bAnd h).1 : id = _)
  have o := O.fn_ f (of_decide_eq_true hf)
  have H : EvS X fr m loc A C (.call f es) (.Call (.Name (X.B.fnN f) ip) vs [] pos) := fun lay σ s k x S q =>
    call_use O FO H hl (bAnd h).2 o.1 o.2 S q fun vs l lay₁ σ₁ s₁ S₁ E₁ R₁ h => xback (call_sound hC r.room S₁ R₁ h) E₁
  exact ⟨H, H.eb (fun _ _ _ h => h) fun _ => rfl⟩

theorem nodeP_inv {l : List D} {k} (h : nodeP l k) : ∃ n a ks, l = [.int n, a, .lst ks, .int 0, .int 0] ∧ k n a ks := by
  obtain ⟨d1, l1, rfl, h1⟩ := onC_inv h
  obtain ⟨n, rfl, h2⟩ := onI_inv h1
  obtain ⟨a, l2, rfl, h3⟩ := onC_inv h2
  obtain ⟨d3, l3, rfl, h4⟩ := onC_inv h3
  obtain ⟨ks, rfl, h5⟩ := onL_inv h4
  obtain ⟨d4, d5, rfl, h6⟩ := on2_inv h5
  obtain ⟨rfl, h7⟩ := onZ_inv h6
  obtain ⟨rfl, h8⟩ := onZ_inv h7
  exact ⟨n, a, ks, rfl, h8⟩
theorem ev_node (O : X.Ok) (NO : nodeB X.K X.B = true) (FO : fr.Ok) (r : RoomB A fr.envs n) {es} (H : LB X fr m loc A C es) : EB X fr m loc A C (.node es) := fun e hag => xCallN_el (show xCallN e _ = true from hag) fun id vs ip pos hag => by
  obtain ⟨h, hl⟩ := bAnd hag
  cases (beq_iff_eq.mp (bAnd h).1 : id = _)
  exact ⟨fun lay σ s k x S q => call_use O FO H hl (bAnd h).2 O.nodeK.1 (initB_of O.nodeK.2).2.1 S q fun vs l lay₁ σ₁ s₁ S₁ E₁ R₁ h => by
    obtain ⟨i, a, ks, rfl, h1⟩ := nodeP_inv h
    exact vback (node_sound O NO r S₁ R₁ h1) E₁, noB fun _ _ _ h => h⟩

theorem ev_mk (O : X.Ok) (FO : fr.Ok) (hC : CallsOk X C n) (r : RoomB A fr.envs n) {c es} (H : LB X fr m loc A C es) : EB X fr m loc A C (.mk c es) := fun e hag => xCallN_el (show xCallN e _ = true from hag) fun id vs ip pos hag => by
  obtain ⟨h, hl⟩ := bAnd hag
  obtain ⟨h, hc⟩ := bAnd h
  cases (beq_iff_eq.mp (bAnd h).1 : id = _)
  have o := O.cl_ c (of_decide_eq_true hc)
  exact ⟨fun lay σ s k x S q => call_use O FO H hl (bAnd h).2 o.1 (initB_of o.2).2.1 S q fun vs l lay₁ σ₁ s₁ S₁ E₁ R₁ h => xback (mk_sound O hC r S₁ (of_decide_eq_true hc) R₁ h) E₁, noB fun _ _ _ h => h⟩

theorem ev_bmeth (O : X.Ok) {a b es} (Ha : EB X fr m loc A C a) (H : LB X fr m loc A C es) : EB X fr m loc A C (.bmeth a b es) := fun e hag => xCallA_el (show xCallA e _ = true from hag) fun o x ap vs pos hag => by
  obtain ⟨h, hl⟩ := bAnd hag
  obtain ⟨h, h1⟩ := bAnd h
  obtain ⟨h, hn⟩ := bAnd h
  obtain ⟨h, hs⟩ := bAnd h
  obtain ⟨hx, hp⟩ := bAnd h
  cases (beq_iff_eq.mp hx : x = _)
  exact ⟨fun lay σ s k x S h => Call_Meth hs (any_plain hl) (of_decide_eq_true hn) hp ((Ha _ h1).1.use S Evo.refl h fun ov d lay₁ σ₁ s₁ S₁ E₁ _ R₁ h => fun pl => look_sound S₁ R₁ h fun h => (callB (any_plain hl) ((H _ hl).l.use S₁ E₁ h fun vs l lay₂ σ₂ s₂ S₂ E₂ E₂' R₂ h =>
    vback (bmeth_sound S₂ O.sys (R₁.evo E₂') R₂ h) E₂))), noB fun _ _ _ h => h⟩

theorem methB_of {K : Frag} {C : Addr} {name : Str} {f : Addr} (h : methB K C name f = true) : plainGet K C name = true ∧ findIn K (.ref C) name = some (some (.ref f)) ∧ isFn K (.ref f) = true ∧ keepIn K (.ref f) = true :=
  have a := bAnd h; have b := bAnd a.1; have c := bAnd b.1; ⟨c.1, beq_iff_eq.mp c.2, b.2, a.2⟩

theorem ev_meth (O : X.Ok) (hC : CallsOk X C n) (r : RoomB A fr.envs n) {a i es} (Ha : EB X fr m loc A C a) (H : LB X fr m loc A C es) : EB X fr m loc A C (.meth a i es) := fun e hag => xCallA_el (show xCallA e _ = true from hag) fun o x ap vs pos hag => by
  obtain ⟨h, hl⟩ := bAnd hag
  obtain ⟨h, h1⟩ := bAnd h
  obtain ⟨h, hi⟩ := bAnd h
  obtain ⟨h, hn⟩ := bAnd h
  obtain ⟨h, hs⟩ := bAnd h
  obtain ⟨hx, hp⟩ := bAnd h
  cases (beq_iff_eq.mp hx : x = _)
  refine ⟨fun lay σ s k x S h => Call_Meth hs (any_plain hl) (of_decide_eq_true hn) hp ((Ha _ h1).1.use S Evo.refl h fun ov d lay₁ σ₁ s₁ S₁ E₁ _ R₁ h => fun pl => ?_), noB fun _ _ _ h => h⟩
  obtain ⟨nn, rfl, h⟩ := onH_inv h
  obtain ⟨p, hp', rfl⟩ := id R₁
  obtain ⟨c, l, ⟨hc, I, ne, f, N, z, q⟩, hno⟩ := S₁.inst (ckp h) hp' (ckk h)
  have hnone := ckp hno
  obtain ⟨fnum, ef, h⟩ := onO_inv (ckk hno)
  obtain ⟨m1, m2, m3, m4⟩ := methB_of (O.meth c hc i (of_decide_eq_true hi) fnum ef)
  obtain ⟨ox, od, IA, hlook⟩ := instAt_of I N
  have qi : f (X.B.atN i) = none := (Option.isNone_iff_eq_none.mp hnone ▸ q i : ORep X s₁.heap lay₁ fr.ban none _)
  refine method_fn (S₁.KX O) IA (plainGet_of m1).1 (plainGet_of m1).2 m2 (beq_iff_eq.mp m3) (by show (lookIn (X.B.atN i) od).map (·.isSome) = some false; rw [hlook, qi]; rfl) ?_
  exact callK m4 (any_plain hl) ((H _ hl).l.use S₁ E₁ h fun vs l2 lay₂ σ₂ s₂ S₂ E₂ E₂' R₂ h => ⟨S₂.KX O, xback (call_sound hC r.room S₂ (ds := .h nn :: l2) (vs := .ref p.1 :: vs) (.cons (R₁.evo E₂') R₂) h) E₂⟩)

theorem agL_shape {B : Tb} {sc : Scope} {nm : List Str} {r : CE} {es : List Expr} (h : agL B sc nm r es = true) : (r = .nil ∧ es = []) ∨ ∃ a r' e es', r = .cons a r' ∧ es = e :: es' := by
  cases r with
  | nil => exact .inl ⟨rfl, List.isEmpty_iff.mp h⟩
  | cons a r => exact bC_el (show bC es _ = true from h) fun e es' _ => .inr ⟨a, r, e, es', rfl, rfl⟩
  | _ => exact absurd h Bool.false_ne_true
theorem bif_isStr (O : X.Ok) (FO : fr.Ok) (r : RoomB A fr.envs n) {es} (H : LB X fr m loc A C es) {p sp pos : Pos} {v : Expr} (hl : agL X.B fr.scope fr.nm es [v] = true) (hg : gl fr.scope ("isinstance" : Str) = true) (hg2 : gl fr.scope ("str" : Str) = true)
    {s : Shared} {lay : Lay} {σ : Sto} (S : St X fr m loc lay σ s) {k : KV} {x : KX} (h : ev X.B.tab C loc es .l σ (fun d σ₁ => onL d fun l => bifP σ₁ .isStr l fun r => k r σ₁) x) :
    wpAny (model X.prog X.w) A (eval (.Call (.Name ("isinstance" : Str) p) [v, .Name ("str" : Str) sp] [] pos) fr.env) (VQ X fr m loc s.heap lay k) (XQ X fr m loc s.heap lay x) s := by
  refine Call_Name (name_sound O FO S hg (O.bf_ .isStr) ?_)
  obtain ⟨_, q⟩ | ⟨a, rr, e, es', rfl, q⟩ := agL_shape hl
  · cases q
  · cases q
    have h1 := bAnd (show (unstar v && agE X.B fr.scope fr.nm a v && agL X.B fr.scope fr.nm rr []) = true from hl)
    obtain ⟨rfl, _⟩ | ⟨_, _, _, _, _, q⟩ := agL_shape h1.2
    · show wpAny _ _ (callWith pos (.builtin "isinstance") [] (backTo pos (starEach [v, .Name ("str" : Str) sp] fr.env)) []) _ _ _
      rw [starEach_cons (bAnd h1.1).1]
      refine callB rfl (Calls.spliced_cons ?_)
      have hE : wpAny (model X.prog X.w) A (eval v fr.env) _ _ s := (H _ hl).av lay σ s (fun d σ₁ => bifP σ₁ .isStr [d] fun r => k r σ₁) x pos S h
      exact wpAny_mono hE (fun u s₁ q => q.casesOn fun d σ₁ lay₁ S₁ E₁ R₁ hk => Calls.spliced_cons (name_sound O FO S₁ hg2 (O.bf_ .str) (Calls.spliced_nil (vback (bif_sound S₁ r.handled (f := .isStr) (ds := [d]) (vs := [u]) (.cons R₁ .nil) hk) E₁)))) fun _ _ q => q
    · cases q
theorem bif_other (O : X.Ok) (FO : fr.Ok) (r : RoomB A fr.envs n) {f es} (H : LB X fr m loc A C es) {p pos : Pos} {vs : List Expr} (hf : ∀ vs, bfA f vs = vs) (hl : agL X.B fr.scope fr.nm es vs = true) (hg : gl fr.scope (bfN f) = true)
    {s : Shared} {lay : Lay} {σ : Sto} (S : St X fr m loc lay σ s) {k : KV} {x : KX} (h : ev X.B.tab C loc es .l σ (fun d σ₁ => onL d fun l => bifP σ₁ f l fun r => k r σ₁) x)
    (hc : ∀ {args : List (Bool × Sem Value)} {Q : Value → Shared → Prop} {E s}, args.any (·.1) = false → wpAny (model X.prog X.w) A (spliced args) (fun vs s₁ => wpAny (model X.prog X.w) A (call (bfV f) ([] ++ vs)) Q E s₁) E s → wpAny (model X.prog X.w) A (callWith pos (bfV f) [] args []) Q E s) :
    wpAny (model X.prog X.w) A (eval (.Call (.Name (bfN f) p) vs [] pos) fr.env) (VQ X fr m loc s.heap lay k) (XQ X fr m loc s.heap lay x) s :=
  Call_Name (name_sound O FO S hg (O.bf_ f) (hc (any_plain hl) ((H _ hl).l.use S Evo.refl h fun vs l lay₁ σ₁ s₁ S₁ E₁ _ R₁ h => hf vs ▸ vback (bif_sound S₁ r.handled R₁ h) E₁)))
theorem ev_bif (O : X.Ok) (FO : fr.Ok) (r : RoomB A fr.envs n) {f es} (H : LB X fr m loc A C es) : EB X fr m loc A C (.bif f es) := fun e hag => xCallN_el (show xCallN e _ = true from hag) fun id vs ip pos hag => by
  obtain ⟨h, hl⟩ := bAnd hag
  cases (beq_iff_eq.mp (bAnd h).1 : id = _)
  have hg := (bAnd h).2
  have H : EvS X fr m loc A C (.bif f es) (.Call (.Name (bfN f) ip) vs [] pos) := fun lay σ s k x S q => by
    cases f with
    | isStr =>
      refine b2_el (l := vs) (show b2 vs _ = true from hl) fun v st h1 => xName_el (bAnd h1).2 fun sn sp h2 => ?_
      cases (beq_iff_eq.mp (bAnd h2).1 : sn = _)
      exact bif_isStr O FO r H (bAnd h1).1 hg (bAnd h2).2 S q
    | str => exact bif_other O FO r H (fun _ => rfl) hl hg S q fun hp h => callT hp h
    | int => exact bif_other O FO r H (fun _ => rfl) hl hg S q fun hp h => callT hp h
    | _ => exact bif_other O FO r H (fun _ => rfl) hl hg S q fun hp h => callB hp h
  exact ⟨H, H.eb (fun _ _ _ h => h) fun _ => rfl⟩
end
end
section
open PySem.SeqAt
section
variable {X : Cx} {fr : Fm} {m : Str → Option Value} {loc : Loc} {A : Around} {C : Calls} {n : Nat}

theorem nameB_inv {sc : Scope} {v : Expr} {y : Str} {cs : Scope} {P : Expr → Prop} (h : (xName v fun x _ => x == y && compB cs x) = true) (H : ∀ p, CompOk cs y → P (.Name y p)) : P v :=
  xName_el h fun x p h => by cases (beq_iff_eq.mp (bAnd h).1 : x = y); exact H p (comp_of (bAnd h).2)
theorem constB_inv {e : Expr} {c : Const} {P : Expr → Prop} (h : (xConst e fun d _ _ => d == c) = true) (H : ∀ k p, P (.Constant c k p)) : P e :=
  xConst_el h fun d k p h => by cases (beq_iff_eq.mp h : d = c); exact H k p
theorem ev_csub (r : RoomB A fr.envs n) {a k} (Ha : EB X fr m loc A C a) : EB X fr m loc A C (.csub a k) := fun e hag => xLC_el (show xLC e _ = true from hag) fun t y yp it cs p hag => by
  obtain ⟨h, h2⟩ := bAnd hag
  refine ⟨fun lay σ s kk x S q => ?_, noB fun _ _ _ h => h⟩
  refine xSub_el (P := fun t => wpAny _ _ (eval (.ListComp t _ cs p) fr.env) _ _ s) h2 fun v sl sp h3 => nameB_inv (sc := cs) (P := fun v => wpAny _ _ (eval (.ListComp (.Subscript v sl sp) _ cs p) fr.env) _ _ s) (bAnd h3).1 fun np c =>
    constB_inv (P := fun sl => wpAny _ _ (eval (.ListComp (.Subscript _ sl sp) _ cs p) fr.env) _ _ s) (bAnd h3).2 fun kk cp => ?_
  exact comp_eval c (bAnd h).1 ((Ha _ (bAnd h).2).1.use S Evo.refl q fun v d lay₁ σ₁ s₁ S₁ E₁ _ R₁ h => by
    obtain ⟨l, rfl, h4⟩ := onL_inv h
    obtain ⟨rr, e, h5⟩ := onO_inv (ckk (ckk h4))
    exact ⟨lay₁, σ₁, rr, S₁, E₁, sub_src c r.handled R₁ (ckp h4) (ckp (ckk h4)) e, h5⟩)
theorem ev_cmod (r : RoomB A fr.envs n) {a k} (Ha : EB X fr m loc A C a) : EB X fr m loc A C (.cmod a k) := fun e hag => xLC_el (show xLC e _ = true from hag) fun t y yp it cs p hag => by
  obtain ⟨h, h2⟩ := bAnd hag
  refine ⟨fun lay σ s kk x S q => ?_, noB fun _ _ _ h => h⟩
  refine xBin_el (P := fun t => wpAny _ _ (eval (.ListComp t _ cs p) fr.env) _ _ s) h2 fun v op sl sp h3 => ?_
  obtain ⟨h3, h4⟩ := bAnd h3
  cases (beq_iff_eq.mp (bAnd h3).1 : op = .Mod)
  refine nameB_inv (sc := cs) (P := fun v => wpAny _ _ (eval (.ListComp (.BinOp v .Mod sl sp) _ cs p) fr.env) _ _ s) (bAnd h3).2 fun np c => constB_inv (P := fun sl => wpAny _ _ (eval (.ListComp (.BinOp _ .Mod sl sp) _ cs p) fr.env) _ _ s) h4 fun kk cp => ?_
  exact comp_eval c (bAnd h).1 ((Ha _ (bAnd h).2).1.use S Evo.refl q fun v d lay₁ σ₁ s₁ S₁ E₁ _ R₁ h => by
    obtain ⟨l, rfl, h4⟩ := onL_inv h
    obtain ⟨rr, e, h5⟩ := onO_inv (ckk (ckk h4))
    exact ⟨lay₁, σ₁, rr, S₁, E₁, mod_src c r.handled R₁ (ckp h4) (ckp (ckk h4)) e, h5⟩)
theorem ev_cin (r : RoomB A fr.envs n) {a z} (Ha : EB X fr m loc A C a) : EB X fr m loc A C (.cin a z) := fun e hag => xLC_el (show xLC e _ = true from hag) fun t y yp it cs p hag => by
  obtain ⟨h, h2⟩ := bAnd hag
  refine ⟨fun lay σ s kk x S q => ?_, noB fun _ _ _ h => h⟩
  refine xCmp_el (P := fun t => wpAny _ _ (eval (.ListComp t _ cs p) fr.env) _ _ s) h2 fun v ops rs sp h3 => ?_
  obtain ⟨h3, h4⟩ := bAnd h3
  cases (beq_iff_eq.mp (bAnd h3).1 : ops = _)
  refine nameB_inv (sc := cs) (P := fun v => wpAny _ _ (eval (.ListComp (.Compare v [.In] rs sp) _ cs p) fr.env) _ _ s) (bAnd h3).2 fun np c => b1_el (P := fun rs => wpAny _ _ (eval (.ListComp (.Compare _ [.In] rs sp) _ cs p) fr.env) _ _ s) h4 fun r0 h5 =>
    constB_inv (P := fun r0 => wpAny _ _ (eval (.ListComp (.Compare _ [.In] [r0] sp) _ cs p) fr.env) _ _ s) h5 fun kk cp => ?_
  exact comp_eval c (bAnd h).1 ((Ha _ (bAnd h).2).1.use S Evo.refl q fun v d lay₁ σ₁ s₁ S₁ E₁ _ R₁ h => by
    obtain ⟨t, rfl, h4⟩ := onS_inv h
    exact ⟨lay₁, σ₁, _, S₁, E₁, in_src c r.handled R₁ (ckp h4), ckk h4⟩)

theorem ev_pref (FO : fr.Ok) (O : X.Ok) (PO : PrefOk X) {a} (Ha : EB X fr m loc A C a) : EB X fr m loc A C (.pref a) := fun e hag => xCallA_el (show xCallA e _ = true from hag) fun o x ap vs pos hag => by
  obtain ⟨h, h2⟩ := bAnd hag
  obtain ⟨h, h3⟩ := bAnd h
  obtain ⟨hx, hp⟩ := bAnd h
  cases (beq_iff_eq.mp hx : x = _)
  refine ⟨fun lay σ s k x S q => ?_, noB fun _ _ _ h => h⟩
  refine xName_el (P := fun o => wpAny _ _ (eval (.Call (.Attribute o _ ap) vs [] pos) fr.env) _ _ s) h3 fun id ip h4 => ?_
  cases (beq_iff_eq.mp (bAnd h4).1 : id = _)
  have hg := (bAnd h4).2
  refine b2_el (P := fun vs => wpAny _ _ (eval (.Call (.Attribute _ _ ap) vs [] pos) fr.env) _ _ s) h2 fun v d h5 => constB_inv (P := fun d => wpAny _ _ (eval (.Call (.Attribute _ _ ap) [v, d] [] pos) fr.env) _ _ s) (bAnd h5).2 fun kk cp => ?_
  have h6 := bAnd (bAnd h5).1
  obtain ⟨pb, f, hk, M, hne, hf⟩ := PO.here
  have e1 : starEach [v, .Constant (.int 10) kk cp] fr.env = (false, eval v fr.env) :: [(false, eval (.Constant (.int 10) kk cp) fr.env)] := starEach_cons h6.1
  refine Call_Meth rfl (by rw [e1]; rfl) (show 2 < 20 by decide) hp (name_sound O FO S hg hk fun pl => lookMap (MapOf.keeps' M fun o e => S.g.stays _ o e) PySem.F.slot_dict_get PySem.F.type_dict_get ?_)
  rw [e1]
  refine callB rfl (Calls.spliced_cons ((Ha _ h6.2).1.use S Evo.refl q fun v d lay₁ σ₁ s₁ S₁ E₁ _ R₁ h => Calls.spliced_cons (wpAny_Constant_int (k := kk) (pos := cp) (Calls.spliced_nil ?_))))
  exact onS_el h R₁ fun t t1 h => vback (pref_call PO (show St X fr m loc lay₁ σ₁ { s₁ with toks := s₁.toks + 1 } from S₁.same rfl rfl rfl) M hne hf h) E₁

theorem key_sound (O : X.Ok) (FO : fr.Ok) {ce : CE} {e : Expr} {d : D} (hag : agE X.B fr.scope fr.nm ce e = true) (hd : keyD X.B.tab ce = some d) {s : Shared} {lay : Lay} {σ : Sto} {E : Value → Shared → Prop} (S : St X fr m loc lay σ s) :
    wpAny (model X.prog X.w) A (eval e fr.env) (VQ X fr m loc s.heap lay (fun d' σ' => d' = d ∧ σ' = σ)) E s := by
  cases ce with
  | glob g => exact glob_sound O FO S hag ⟨Option.some.inj hd, rfl⟩
  | lit d' => exact lit_sound S hag ⟨Option.some.inj hd, rfl⟩
  | _ => cases hd

theorem keysD_cons {T : Tab} {a r : CE} {p : List D} (h : keysD T (.cons a r) = some p) : ∃ d q, p = d :: q ∧ keysD T r = some q ∧ keyD T a = some d := by
  have h' : (match keyD T a with | some d => (keysD T r).map (d :: ·) | none => none) = some p := h
  cases e : keyD T a with
  | none => rw [e] at h'; cases h'
  | some d =>
    rw [e] at h'
    obtain ⟨q, e2, e3⟩ := Option.map_eq_some_iff.mp h'
    exact ⟨d, q, e3.symm, e2, rfl⟩
theorem keysD_none {T : Tab} {ks : CE} {P : Prop} (h0 : ks = .nil → P) (h1 : ∀ a r, ks = .cons a r → P) : keysD T ks = none ∨ P := by
  cases ks with
  | nil => exact .inr (h0 rfl)
  | cons a r => exact .inr (h1 a r rfl)
  | _ => exact .inl rfl
theorem keysD_shape {T : Tab} {ks : CE} {p : List D} (h : keysD T ks = some p) : (ks = .nil ∧ p = []) ∨ ∃ a r d q, ks = .cons a r ∧ p = d :: q ∧ keysD T r = some q ∧ keyD T a = some d := by
  refine (keysD_none (T := T) (fun e => ?_) fun a r e => ?_).resolve_left fun e => nomatch e.symm.trans h
  · subst e; exact .inl ⟨rfl, (Option.some.inj h).symm⟩
  · subst e; obtain ⟨d, q, h⟩ := keysD_cons h; exact .inr ⟨a, r, d, q, rfl, h⟩

theorem ev_nil : LB X fr m loc A C .nil := fun es hag => by
  cases List.isEmpty_iff.mp (show es.isEmpty = true from hag)
  exact ⟨fun lay σ s k x pos S h => Calls.spliced_nil ⟨[], σ, lay, S, Evo.refl, .nil, h⟩, fun lay σ s k x pos S h => (h : False).elim, fun lay σ s k x pos S h => (h : False).elim,
    fun lay σ s k x pos whole S h => isTrue_and_nil (S.bq (t := s.toks) h), fun lay σ s k x pos whole S h => isTrue_or_nil (S.bq (t := s.toks) h), fun ks p kl hk hag hl lay σ s k x pos S h => by
      cases List.eq_nil_of_length_eq_zero (l := kl) hl
      obtain ⟨rfl, rfl⟩ | ⟨a, r, _, _, rfl, _⟩ := keysD_shape hk
      · exact evalPairs_nil ⟨[], [], [], σ, lay, rfl, S, Evo.refl, .nil, .nil, h⟩
      · exact absurd (show false = true from hag) Bool.false_ne_true⟩

section
variable {a r : CE} {e : Expr} {es : List Expr} (Ha : EB X fr m loc A C a) (Hr : LB X fr m loc A C r) (hp : unstar e = true) (h1 : agE X.B fr.scope fr.nm a e = true) (h2 : agL X.B fr.scope fr.nm r es = true)
include Ha Hr hp h1 h2
theorem cons_l : ElS X fr m loc A C (.cons a r) (e :: es) := fun lay σ s k x pos S h => by
  rw [starEach_cons hp]
  exact Calls.spliced_cons ((Ha _ h1).1.use S Evo.refl h fun v d lay₁ σ₁ s₁ S₁ E₁ _ R₁ h => (Hr _ h2).l.use S₁ E₁ h fun vs l lay₂ σ₂ s₂ S₂ E₂ E₂' R₂ h => ⟨d :: l, σ₂, lay₂, S₂, E₂, .cons (R₁.evo E₂') R₂, h⟩)
theorem cons_av : EvoS X fr m loc A .av .And C (.cons a r) (e :: es) := fun lay σ s k x pos S h => by
  obtain ⟨rfl, rfl⟩ | ⟨a2, r2, e2, es2, rfl, rfl⟩ := agL_shape h2
  · exact BoolOp_one ((Ha _ h1).1 _ _ _ _ _ S h)
  · refine BoolOp_and ((Ha _ h1).1.use S Evo.refl h fun v d lay₁ σ₁ s₁ S₁ E₁ _ R₁ h => truth_sound S₁ R₁ h fun t ht tk => ?_)
    cases t with
    | true => rw [if_pos rfl]; exact xback ((Hr _ h2).av _ _ _ _ _ _ (S₁.same (s' := { s₁ with toks := tk }) rfl rfl rfl) ht) E₁
    | false => rw [if_neg (by decide)]; exact VQ.back E₁ (S₁.vq R₁ ht)
theorem cons_ov : EvoS X fr m loc A .ov .Or C (.cons a r) (e :: es) := fun lay σ s k x pos S h => by
  obtain ⟨rfl, rfl⟩ | ⟨a2, r2, e2, es2, rfl, rfl⟩ := agL_shape h2
  · exact BoolOp_one ((Ha _ h1).1 _ _ _ _ _ S h)
  · refine BoolOp_or ((Ha _ h1).1.use S Evo.refl h fun v d lay₁ σ₁ s₁ S₁ E₁ _ R₁ h => truth_sound S₁ R₁ h fun t ht tk => ?_)
    cases t with
    | true => rw [if_pos rfl]; exact VQ.back E₁ (S₁.vq R₁ ht)
    | false => rw [if_neg (by decide)]; exact xback ((Hr _ h2).ov _ _ _ _ _ _ (S₁.same (s' := { s₁ with toks := tk }) rfl rfl rfl) ht) E₁
theorem cons_ab : EbaS X fr m loc A .ab .And C (.cons a r) (e :: es) := fun lay σ s k x pos whole S h => by
  refine isTrue_and ((Ha _ h1).2.use S Evo.refl h fun t lay₁ σ₁ s₁ S₁ E₁ h => ?_)
  cases t with
  | true => rw [if_pos rfl]; exact bback ((Hr _ h2).ab _ _ _ _ _ _ _ S₁ h) E₁
  | false => rw [if_neg (by decide)]; exact BQ.back E₁ (S₁.bq (t := s₁.toks) h)
theorem cons_ob : EbaS X fr m loc A .ob .Or C (.cons a r) (e :: es) := fun lay σ s k x pos whole S h => by
  refine isTrue_or ((Ha _ h1).2.use S Evo.refl h fun t lay₁ σ₁ s₁ S₁ E₁ h => ?_)
  cases t with
  | true => rw [if_pos rfl]; exact BQ.back E₁ (S₁.bq (t := s₁.toks) h)
  | false => rw [if_neg (by decide)]; exact bback ((Hr _ h2).ob _ _ _ _ _ _ _ S₁ h) E₁
theorem cons_pairs (O : X.Ok) (FO : fr.Ok) (ks : CE) (p : List D) (kl : List Expr) (hk : keysD X.B.tab ks = some p) (hag : agL X.B fr.scope fr.nm ks kl = true) (hl : kl.length = (e :: es).length) (lay : Lay) (σ : Sto) (s : Shared) (k : KV) (x : KX) (pos : Pos) (S : St X fr m loc lay σ s)
    (h : ev X.B.tab C loc (.cons a r) .l σ k x) : wpAny (model X.prog X.w) A (evalPairs (pairTrees (kl.map some) (e :: es) fr.env pos)) (PQ X fr m loc s.heap lay p k) (XQ X fr m loc s.heap lay x) s := by
  obtain ⟨rfl, rfl⟩ | ⟨kc, kr, d, q, rfl, rfl, hq, hd⟩ := keysD_shape hk
  · cases List.isEmpty_iff.mp (show kl.isEmpty = true from hag); cases hl
  · refine bC_el (P := fun kl => kl.length = (e :: es).length → wpAny _ _ (evalPairs (pairTrees (kl.map some) (e :: es) fr.env pos)) _ _ s) (show bC kl _ = true from hag) (fun ke kl hag hl => ?_) hl
    refine evalPairs_cons (wpAny_mono (key_sound O FO (bAnd (bAnd hag).1).2 hd S) (fun kv s₁ z => z.casesOn fun d' σ₁ lay₁ S₁ E₁ R₁ hd' => ?_) fun _ _ q => q)
    cases hd'.1; cases hd'.2
    refine wpAny_bind ((Ha _ h1).1.use S₁ E₁ h fun v dv lay₂ σ₂ s₂ S₂ E₂ E₂' R₂ h => wpAny_bind (wpAny_standAt (wpAny_pure ?_)))
    exact wpAny_mono ((Hr _ h2).pairs kr q kl hq (bAnd hag).2 (Nat.succ.inj hl) _ _ _ _ _ pos S₂ h) (fun vs s₃ z => z.casesOn fun us xs qq σ₃ lay₃ e S₃ E₃ R3 R4 hk3 =>
      ⟨kv :: us, v :: xs, dv :: qq, σ₃, lay₃, by rw [e]; rfl, S₃, E₂.trans E₃, .cons ((R₁.evo E₂').evo E₃) R3, .cons (R₂.evo E₃) R4, hk3⟩) fun _ _ q => XQ.back E₂ q
end
theorem ev_cons (O : X.Ok) (FO : fr.Ok) {a r} (Ha : EB X fr m loc A C a) (Hr : LB X fr m loc A C r) : LB X fr m loc A C (.cons a r) := fun es hag => bC_el (show bC es _ = true from hag) fun e es hag => by
  obtain ⟨h, h2⟩ := bAnd hag
  obtain ⟨hp, h1⟩ := bAnd h
  exact ⟨cons_l Ha Hr hp h1 h2, cons_av Ha Hr hp h1 h2, cons_ov Ha Hr hp h1 h2, cons_ab Ha Hr hp h1 h2, cons_ob Ha Hr hp h1 h2, cons_pairs Ha Hr hp h1 h2 O FO⟩

theorem keysOf_some : ∀ {ko : List (Option Expr)} {kl : List Expr}, keysOf ko = some kl → ko = kl.map some
  | [], kl, h => Option.some.inj h ▸ rfl
  | o :: r, kl, h => by
    cases o with
    | none => cases h
    | some e =>
      obtain ⟨q, e', e2⟩ := Option.map_eq_some_iff.mp h
      rw [← e2, keysOf_some e']; rfl
theorem keys_len {T : Tab} {B : Tb} {sc : Scope} {nm : List Str} : ∀ {ks : CE} {p : List D} {kl : List Expr}, keysD T ks = some p → agL B sc nm ks kl = true → p.length = kl.length := by
  intro ks
  induction ks with
  | nil => intro p kl hp hk; cases hp; cases List.isEmpty_iff.mp (show kl.isEmpty = true from hk); rfl
  | cons a r _ ih =>
    intro p kl hp hk
    obtain ⟨d, q, rfl, hq, _⟩ := keysD_cons hp
    exact bC_el (P := fun kl => (d :: q).length = kl.length) (show bC kl _ = true from hk) fun e kl hk => congrArg (· + 1) (ih hq (bAnd hk).2)
  | _ => intro p kl hp hk; cases hp

theorem ev_mdict (O : X.Ok) {b ks es} (H : LB X fr m loc A C es) : EB X fr m loc A C (.mdict b ks es) := fun e hag => xDict_el (show xDict e _ = true from hag) fun ko vs pos hag => by
  obtain ⟨kl, hko, hag⟩ := bO_inv hag
  obtain ⟨h, hlen⟩ := bAnd hag
  obtain ⟨hk, hl⟩ := bAnd h
  have hlen := of_decide_eq_true hlen
  cases keysOf_some hko
  refine ⟨fun lay σ s k x S q => ?_, noB fun _ _ _ h => h⟩
  obtain ⟨p, hp, h0⟩ := onO_inv (show onO (keysD X.B.tab ks) _ from q)
  have h15 := ckp h0
  have h0 := ckk h0
  obtain ⟨S₁, E₁⟩ := newDict_grow S b
  have hpl := keys_len hp hk
  have RH : Rep X (s.heap.push { cls := .type "dict", data := .dict #[] }) (lay ++ [(s.heap.objs.size, s.heap.objs.size)]) fr.ban (.h σ.length) (.ref s.heap.objs.size) :=
    ⟨(s.heap.objs.size, s.heap.objs.size), by rw [← S.g.len]; exact List.getElem?_concat_length, rfl⟩
  obtain ⟨rfl, rfl⟩ | ⟨a, r, e, es', rfl, rfl⟩ := agL_shape hl
  · cases List.eq_nil_of_length_eq_zero (l := kl) hlen
    cases List.eq_nil_of_length_eq_zero hpl
    exact wpAny_Dict_empty ⟨.h σ.length, _, _, S₁, E₁, RH, h0⟩
  · refine wpAny_Dict_any (by simp) (by simpa using hlen) (fun z => by rw [List.map_eq_nil_iff.mp z] at hlen; cases hlen) (by rw [List.length_map, ← hpl]; exact h15) ?_
    exact wpAny_mono ((H _ hl).pairs ks p kl hp hk hlen _ _ _ _ _ _ S₁ h0) (fun vs s₂ z => z.casesOn fun us xs q σ₂ lay₂ e S₂ E₂ R1 R2 hk2 => by
      cases e
      exact stores_sound S₂ (RH.evo E₂) R1 R2 hk2 fun σ₃ s₃ S₃ E₃ h => ⟨.h σ.length, σ₃, lay₂, S₃, (E₁.trans E₂).trans E₃, (RH.evo E₂).evo E₃, h⟩) fun _ _ q => XQ.back E₁ q
end
end
section
open PySem.SeqAt
section
variable {X : Cx} {fr : Fm} {m : Str → Option Value} {loc : Loc} {A : Around} {C : Calls} {n : Nat}

theorem noL {ce : CE} (h : ∀ es, agL X.B fr.scope fr.nm ce es = false) : LB X fr m loc A C ce := fun es q => by rw [h] at q; cases q
theorem ev_sound (O : X.Ok) (NO : nodeB X.K X.B = true) (PO : PrefOk X) (FO : fr.Ok) (hC : CallsOk X C n) (r : RoomB A fr.envs n) : ∀ ce, EB X fr m loc A C ce ∧ LB X fr m loc A C ce := by
  intro ce
  induction ce with
  | loc i => exact ⟨ev_loc FO i, noL fun _ => rfl⟩
  | glob g => exact ⟨ev_glob O FO g, noL fun _ => rfl⟩
  | lit d => exact ⟨ev_lit d, noL fun _ => rfl⟩
  | bin o a b ha hb => exact ⟨ev_bin ha.1 hb.1, noL fun _ => rfl⟩
  | neg a ha => exact ⟨ev_neg ha.1, noL fun _ => rfl⟩
  | not a ha => exact ⟨ev_not ha.1, noL fun _ => rfl⟩
  | cmp o a b ha hb => exact ⟨ev_cmp O r ha.1 hb.1, noL fun _ => rfl⟩
  | btw a b c ha hb hc => exact ⟨ev_btw ha.1 hb.1 hc.1, noL fun _ => rfl⟩
  | isN p a ha => exact ⟨ev_isN ha.1, noL fun _ => rfl⟩
  | and es h => exact ⟨ev_and h.2, noL fun _ => rfl⟩
  | or es h => exact ⟨ev_or h.2, noL fun _ => rfl⟩
  | ite t a b ht ha hb => exact ⟨ev_ite ht.1 ha.1 hb.1, noL fun _ => rfl⟩
  | tup es h => exact ⟨ev_tup h.2, noL fun _ => rfl⟩
  | lst es h => exact ⟨ev_lst h.2, noL fun _ => rfl⟩
  | sub a i ha hi => exact ⟨ev_sub ha.1 hi.1, noL fun _ => rfl⟩
  | slice a lo hi ha hl hh => exact ⟨ev_slice ha.1 hl.1 hh.1, noL fun _ => rfl⟩
  | attr a i ha => exact ⟨ev_attr O ha.1, noL fun _ => rfl⟩
  | call f es h => exact ⟨ev_call O FO hC r h.2, noL fun _ => rfl⟩
  | node es h => exact ⟨ev_node O NO FO r h.2, noL fun _ => rfl⟩
  | mk c es h => exact ⟨ev_mk O FO hC r h.2, noL fun _ => rfl⟩
  | meth a i es ha h => exact ⟨ev_meth O hC r ha.1 h.2, noL fun _ => rfl⟩
  | bmeth a b es ha h => exact ⟨ev_bmeth O ha.1 h.2, noL fun _ => rfl⟩
  | «bif» f es h => exact ⟨ev_bif O FO r h.2, noL fun _ => rfl⟩
  | csub a k ha => exact ⟨ev_csub r ha.1, noL fun _ => rfl⟩
  | cmod a k ha => exact ⟨ev_cmod r ha.1, noL fun _ => rfl⟩
  | cin a x ha => exact ⟨ev_cin r ha.1, noL fun _ => rfl⟩
  | pref a ha => exact ⟨ev_pref FO O PO ha.1, noL fun _ => rfl⟩
  | mlist es h => exact ⟨ev_mlist h.2, noL fun _ => rfl⟩
  | mcat a b ha hb => exact ⟨ev_mcat ha.1 hb.1, noL fun _ => rfl⟩
  | mdict b ks es hk h => exact ⟨ev_mdict O h.2, noL fun _ => rfl⟩
  | nil => exact ⟨fun e hag => absurd (show false = true from hag) Bool.false_ne_true, ev_nil⟩
  | cons a r ha hr => exact ⟨fun e hag => absurd (show false = true from hag) Bool.false_ne_true, ev_cons O FO ha.1 hr.2⟩
  | dead => exact ⟨fun e hag => ⟨fun lay σ s k x S h => (h : False).elim, fun lay σ s k x S h => (h : False).elim⟩, noL fun _ => rfl⟩
end
end
section
open PySem.SeqAt
set_option genCtorIdx false
set_option genSizeOf false
set_option genInjectivity false

section
variable (X : Cx)
noncomputable def FreshE (h₀ : Heap) (c : Nat) (v : Value) (h : Heap) : Prop :=
  ∃ e oe vs a0, v = .ref e ∧ h₀.get? e = none ∧ h.get? e = some oe ∧ oe.cls = .ref (X.B.clsA c) ∧ oe.data = .fields vs ∧ vs[0]? = some a0 ∧ vs[1]? = some .none
noncomputable def HeldE (h₀ : Heap) (L : Addr) (c : Nat) (v : Value) (h : Heap) : Prop := ∃ e a0, v = .ref e ∧ h₀.get? e = none ∧ h.TracedAtW h₀ e (.ref (X.B.clsA c)) a0 (rawInt L)
noncomputable def Thr (q : Bool) (h₀ : Heap) (L : Addr) (c : Nat) (v : Value) (h : Heap) : Prop := Traced X h₀ c v h ∨ (q = false ∧ (HeldE X h₀ L c v h ∨ FreshE X h₀ c v h))
inductive SXQ (fr : Fm) (q : Bool) (h₀ : Heap) (lay₀ : Lay) (x : KX) (v : Value) (s' : Shared) : Prop where
  | mk (c : Nat) (σ' : Sto) (lay' : Lay) (g : G X fr.envs lay' σ' s') (E : Evo fr.ban (some fr.L) lay₀ lay' h₀ s'.heap) (T : Thr X q h₀ fr.L c v s'.heap) (K : x c σ') : SXQ fr q h₀ lay₀ x v s'
end

section
variable {X : Cx} {lay : Lay} {σ : Sto} {s : Shared}

theorem XQ.sx {fr : Fm} {m loc h₀ lay₀ x v s'} {q : Bool} (h : XQ X fr m loc h₀ lay₀ x v s') : SXQ X fr q h₀ lay₀ x v s' := by
  obtain ⟨c, σ', lay', S, E, T, hx⟩ := h; exact ⟨c, σ', lay', S.g, E, .inl T, hx⟩
theorem HeldE.back {ban L h₀ h₁ lay₀ lay₁ L' c v h} (e : Evo ban L lay₀ lay₁ h₀ h₁) (q : HeldE X h₁ L' c v h) : HeldE X h₀ L' c v h := by
  obtain ⟨ex, a0, hv, hn, oe, vs, T, oT, ts, he, hc, hd, h1, hT, r⟩ := q; exact ⟨ex, a0, hv, e.gone hn, oe, vs, T, oT, ts, he, hc, hd, h1, e.gone hT, r⟩
theorem FreshE.back {ban L h₀ h₁ lay₀ lay₁ c v h} (e : Evo ban L lay₀ lay₁ h₀ h₁) (q : FreshE X h₁ c v h) : FreshE X h₀ c v h := by
  obtain ⟨ex, oe, vs, a0, hv, hn, r⟩ := q; exact ⟨ex, oe, vs, a0, hv, e.gone hn, r⟩
theorem SXQ.back {fr : Fm} {h₀ h₁ lay₀ lay₁ x v s'} {q : Bool} (e : Evo fr.ban (some fr.L) lay₀ lay₁ h₀ h₁) (h : SXQ X fr q h₁ lay₁ x v s') : SXQ X fr q h₀ lay₀ x v s' := by
  obtain ⟨c, σ', lay', g, E, T, hx⟩ := h
  refine ⟨c, σ', lay', g, e.trans E, ?_, hx⟩
  exact T.imp (Traced.back e) fun T => ⟨T.1, T.2.imp (HeldE.back e) (FreshE.back e)⟩
theorem SXQ.loose {fr : Fm} {h₀ lay₀ x v s'} (h : SXQ X fr true h₀ lay₀ x v s') (q : Bool) : SXQ X fr q h₀ lay₀ x v s' := by
  obtain ⟨c, σ', lay', g, E, T, hx⟩ := h
  exact ⟨c, σ', lay', g, E, T.imp id fun T => absurd T.1.symm Bool.false_ne_true, hx⟩

theorem G.exc {envs : List Env} (g : G X envs lay σ s) {bad : List Addr} (hbad : ∀ b ∈ bad, ∃ o vs, s.heap.get? b = some o ∧ o.data = .fields vs) (hbb : ∀ b ∈ bad, X.base.get? b = none) {h' : Heap}
    (keep : ∀ b o, b ∉ bad → b ∉ banOf envs → s.heap.get? b = some o → h'.get? b = some o) (up : s.heap.UpToSlots h') : G X envs lay σ { s with heap := h' } := by
  have nf : ∀ b o, s.heap.get? b = some o → (∀ vs, o.data ≠ .fields vs) → b ∉ bad := fun b o e n hb => by
    obtain ⟨o', vs, e', hd⟩ := hbad b hb
    rw [e] at e'; cases e'; exact n vs hd
  have K : Kp (banOf envs) lay lay s.heap h' := ⟨fun b o e F n => keep b o (nf b o e n) F.1 e, [], by simp, fun p hp => nomatch hp⟩
  have kl : ∀ p ∈ lay, (∀ o, s.heap.get? p.1 = some o → h'.get? p.1 = some o) ∧ ∀ o, s.heap.get? p.2 = some o → h'.get? p.2 = some o := fun p hp => by
    obtain ⟨⟨_, b1, o1, e1, n1⟩, _, b2, o2, e2, n2⟩ := g.new p hp
    exact ⟨fun o e => keep _ o (nf _ _ e1 n1) b1 e, fun o e => keep _ o (nf _ _ e2 n2) b2 e⟩
  refine ⟨fun b o e => keep b o (fun hb => by rw [hbb b hb] at e; cases e) (fun hb => by have := (g.frames.mem hb).1; rw [this] at e; cases e) (g.stays b o e), g.frames.of_keeps fun b o e n => ?_, g.len, fun n mo p a b => ?_, fun p hp => ?_, g.apart, g.gens, g.os, g.sys⟩
  · obtain ⟨sl, e'⟩ := up b o e n; exact ⟨_, e', rfl⟩
  · exact (g.sto n mo p a b).keepsK K (kl p (lay_mem b)).1 (kl p (lay_mem b)).2
  · exact ⟨(g.new p hp).1.to id fun o e _ => (kl p hp).1 o e, (g.new p hp).2.to id fun o e _ => (kl p hp).2 o e⟩
theorem Evo.exc {envs : List Env} {L : Option Addr} {lay₀ : Lay} {h₀ : Heap} (g : G X envs lay σ s) (E : Evo (banOf envs) L lay₀ lay h₀ s.heap) {bad : List Addr} (hb0 : ∀ b ∈ bad, h₀.get? b = none) {h' : Heap}
    (keep : ∀ b o, b ∉ bad → b ∉ banOf envs → s.heap.get? b = some o → h'.get? b = some o) (up : s.heap.UpToSlots h') : Evo (banOf envs) L lay₀ lay h₀ h' := by
  have nb : ∀ b o, h₀.get? b = some o → b ∉ bad := fun b o e hb => by rw [hb0 b hb] at e; cases e
  refine ⟨fun b o e => ?_, fun b o e F => keep b o (nb b o e) F.1 (E.keep b o e F), fun b hb hL o e => ?_, E.ext, fun p hp vs n e => ?_⟩
  · obtain ⟨o', e'⟩ := E.alive b o e
    by_cases hb : b ∈ banOf envs
    · obtain ⟨_, o'', e'', n⟩ := g.frames.mem hb
      rw [e'] at e''; cases e''
      obtain ⟨sl, e3⟩ := up b o' e' n
      exact ⟨_, e3⟩
    · exact ⟨o', keep b o' (nb b o e) hb e'⟩
  · obtain ⟨sl, e1⟩ := E.frames b hb hL o e
    obtain ⟨_, o'', e'', n⟩ := g.frames.mem hb
    rw [e1] at e''; cases e''
    obtain ⟨sl', e3⟩ := up b _ e1 n
    exact ⟨sl', e3⟩
  · obtain ⟨vs', n', e', hh⟩ := E.mono p hp vs n e
    obtain ⟨r, er, _⟩ := E.ext
    have b1 := (g.new p (er ▸ List.mem_append_left _ hp)).1.ban
    exact ⟨vs', n', keep _ _ (fun hm => by rw [hb0 _ hm] at e; cases e) b1 e', hh⟩

theorem hide_mem {h : Heap} {l : List Addr} {b : Addr} {o : Obj} (e : (hideAll h l).get? b = some o) : h.get? b = some o ∧ b ∉ l := by
  refine ⟨of_hideAll _ e, fun hb => ?_⟩
  rw [hideAll_none _ hb] at e; cases e
theorem banOf_cons (env : Env) (outer : List Env) {L : Addr} (h : env.frame = some L) : banOf (env :: outer) = L :: banOf outer := by
  unfold banOf; rw [List.filterMap_cons, h]
noncomputable def hid (h : Heap) (bad : List Addr) (envs : List Env) : Heap := hideAll h (bad ++ banOf envs)
theorem hid_of {h : Heap} {bad : List Addr} {envs : List Env} {b : Addr} {o : Obj} (e : (hid h bad envs).get? b = some o) : h.get? b = some o := of_hideAll _ e
theorem hid_none {h : Heap} {bad : List Addr} {envs : List Env} {b : Addr} (hb : b ∈ bad) : (hid h bad envs).get? b = none := hideAll_none _ (List.mem_append_left _ hb)
theorem hid_ban {h : Heap} {bad : List Addr} {envs : List Env} {b : Addr} (hb : b ∈ banOf envs) : (hid h bad envs).get? b = none := hideAll_none _ (List.mem_append_right _ hb)
theorem hid_get {h : Heap} {bad : List Addr} {envs : List Env} {b : Addr} {o : Obj} (e : h.get? b = some o) (n1 : b ∉ bad) (n2 : b ∉ banOf envs) : (hid h bad envs).get? b = some o :=
  hideAll_get _ e fun hm => (List.mem_append.mp hm).elim n1 n2
theorem hid_keep {h h' : Heap} {bad : List Addr} {envs : List Env} (k : (hid h bad envs).StaysIn h') : ∀ b o, b ∉ bad → b ∉ banOf envs → h.get? b = some o → h'.get? b = some o := fun b o n1 n2 e => k b o (hid_get e n1 n2)
theorem frames_hide {envs : List Env} (g : G X envs lay σ s) (bad : List Addr) : s.heap.FunFrames (hid s.heap bad envs) envs := by
  have key : ∀ l : List Env, s.heap.FunFrames X.base l → (∀ b ∈ banOf l, b ∈ banOf envs) → s.heap.FunFrames (hid s.heap bad envs) l := by
    intro l
    induction l with
    | nil => intro _ _; trivial
    | cons env rest ih =>
      intro q hs
      obtain ⟨hk, ⟨L, o, hf, hb, r⟩, hr⟩ := q
      rw [banOf_cons env rest hf] at hs
      exact ⟨hk, ⟨L, o, hf, hid_ban (hs L (.head _)), r⟩, ih hr fun b hb => hs b (.tail _ hb)⟩
  exact key envs g.frames fun _ h => h

theorem bad1 {e : Addr} {oe : Obj} {vs : Array Value} (he : s.heap.get? e = some oe) (hd : oe.data = .fields vs) : ∀ b ∈ [e], ∃ o vs, s.heap.get? b = some o ∧ o.data = .fields vs := fun b hb => by
  rw [List.mem_singleton.mp hb]; exact ⟨_, _, he, hd⟩
theorem bad2 {e T : Addr} {oe oT : Obj} {vs ts : Array Value} (he : s.heap.get? e = some oe) (hd : oe.data = .fields vs) (hT : s.heap.get? T = some oT) (hdT : oT.data = .fields ts) : ∀ b ∈ [e, T], ∃ o vs, s.heap.get? b = some o ∧ o.data = .fields vs := fun b hb => by
  rcases List.mem_cons.mp hb with rfl | hb
  · exact ⟨_, _, he, hd⟩
  · exact bad1 hT hdT b hb
theorem new1 {h₀ : Heap} {e : Addr} (he : h₀.get? e = none) : ∀ b ∈ [e], h₀.get? b = none := fun b hb => by rw [List.mem_singleton.mp hb]; exact he
theorem new2 {h₀ : Heap} {e T : Addr} (he : h₀.get? e = none) (hT : h₀.get? T = none) : ∀ b ∈ [e, T], h₀.get? b = none := fun b hb => by
  rcases List.mem_cons.mp hb with rfl | hb
  · exact he
  · exact new1 hT b hb
theorem base_none {h₀ : Heap} (hb : X.base.StaysIn h₀) {b : Addr} (e : h₀.get? b = none) : X.base.get? b = none := by
  cases q : X.base.get? b with
  | none => rfl
  | some o => rw [hb b o q] at e; cases e
theorem hid_new {envs : List Env} {lay₀ : Lay} {h₀ h' : Heap} {L : Option Addr} (g : G X envs lay σ s) (E : Evo (banOf envs) L lay₀ lay h₀ s.heap) {bad : List Addr} (hb0 : ∀ b ∈ bad, h₀.get? b = none) (up : s.heap.UpToSlots h') {T : Addr} {oT : Obj} {ts : Array Value}
    (hT : (hid s.heap bad envs).get? T = none) (hgT : h'.get? T = some oT) (hdT : oT.data = .fields ts) : h₀.get? T = none := by
  cases q : h₀.get? T with
  | none => rfl
  | some o =>
    exfalso
    obtain ⟨o', e'⟩ := E.alive T o q
    by_cases h1 : T ∈ bad
    · rw [hb0 T h1] at q; cases q
    · by_cases h2 : T ∈ banOf envs
      · obtain ⟨_, o'', e'', n⟩ := g.frames.mem h2
        obtain ⟨sl, e3⟩ := up T o'' e'' n
        rw [e3] at hgT; cases hgT
        exact n ts hdT
      · rw [hid_get e' h1 h2] at hT; cases hT

section
variable {A : Around} {env : Env} {outer : List Env} {lay₀ : Lay} {h₀ : Heap} {v : Value} {fr : Fm} {c : Nat} {P : Shared → Prop} {EE : Value → Shared → Prop} {M : Model}
abbrev Lands (X : Cx) (fr : Fm) (lay : Lay) (σ : Sto) (s : Shared) (lay₀ : Lay) (h₀ : Heap) (c : Nat) (v : Value) (P : Shared → Prop) : Prop :=
  ∀ h', G X fr.envs lay σ { s with heap := h' } → Evo fr.ban (some fr.L) lay₀ lay h₀ h' → Traced X h₀ c v h' → P { s with heap := h' }
theorem landed (hb : X.base.StaysIn h₀) (g : G X fr.envs lay σ s) (E : Evo fr.ban (some fr.L) lay₀ lay h₀ s.heap) (hP : Lands X fr lay σ s lay₀ h₀ c v P)
    {e : Addr} {bad : List Addr} {h' : Heap} {a0 : Value} (hv : v = .ref e) (he : e ∈ bad) (hbad : ∀ b ∈ bad, ∃ o vs, s.heap.get? b = some o ∧ o.data = .fields vs) (hb0 : ∀ b ∈ bad, h₀.get? b = none)
    (st : (hid s.heap bad fr.envs).StaysIn h') (tr : h'.TracedW (hid s.heap bad fr.envs) e (.ref (X.B.clsA c)) a0) (up : s.heap.UpToSlots h') : P { s with heap := h' } := by
  refine hP h' (g.exc hbad (fun b hb' => base_none hb (hb0 b hb')) (hid_keep st) up) (E.exc g hb0 (hid_keep st) up) ⟨e, a0, hv, hb0 e he, ?_⟩
  obtain ⟨oe, vs, T, oT, ts, he', hc, hd, h1, hT, hTe, hgT, hdT, h3⟩ := tr
  exact ⟨oe, vs, T, oT, ts, he', hc, hd, h1, hid_new g E hb0 up hT hgT hdT, hTe, hgT, hdT, h3⟩

theorem leave_tr (hfr : A.frames = some fr.envs) (hb : X.base.StaysIn h₀) (g : G X fr.envs lay σ s) (E : Evo fr.ban (some fr.L) lay₀ lay h₀ s.heap) (T : Traced X h₀ c v s.heap) (hP : Lands X fr lay σ s lay₀ h₀ c v P) : wpAny M A (leaving fr.env v) (fun _ s' => P s') EE s := by
  obtain ⟨e, a0, rfl, hn, oe, vs, T, oT, ts, he, hc, hd, h1, hT, hTe, hgT, hdT, h3⟩ := T
  exact wpAny_leaving_nextW (base := hid s.heap [e, T] fr.envs) (outer := fr.outer) hfr (frames_hide g _) rfl ⟨oe, vs, T, oT, ts, he, hc, hd, h1, hid_none (.tail _ (.head _)), hTe, hgT, hdT, h3⟩ (fun b o => hid_of) (hid_none (.head _)) fun h' hL =>
    landed hb g E hP rfl (.head _) (bad2 he hd hgT hdT) (new2 hn hT) hL.1 hL.2.2.1 hL.2.2.2
theorem leave_held (hb : X.base.StaysIn h₀) (g : G X fr.envs lay σ s) (E : Evo fr.ban (some fr.L) lay₀ lay h₀ s.heap) (T : HeldE X h₀ fr.L c v s.heap) (hP : Lands X fr lay σ s lay₀ h₀ c v P) : wpAny M A (leaving fr.env v) (fun _ s' => P s') EE s := by
  obtain ⟨e, a0, rfl, hn, oe, vs, T, oT, ts, he, hc, hd, h1, hT, hTe, hgT, hdT, h3⟩ := T
  unfold leaving
  refine wpAny_bind (wpAny_noteFrame_againW (base := h₀) rfl ⟨oe, vs, T, oT, ts, he, hc, hd, h1, hT, hTe, hgT, hdT, h3⟩ ?_)
  exact wpAny_landsW (base := hid s.heap [e, T] fr.envs) (l := fr.envs) (L := fr.L) (cls := .ref (X.B.clsA c)) (a0 := a0) ⟨fun b o => hid_of, hid_none (.head _), frames_hide g _, oe, vs, T, oT, ts, he, hc, hd, h1, hid_none (.tail _ (.head _)), hTe, hgT, hdT, h3⟩ fun h' hL up =>
    landed hb g E hP rfl (.head _) (bad2 he hd hgT hdT) (new2 hn hT) hL.1 hL.2.2.2 up
theorem leave_new (hfr : A.frames = some fr.envs) (hb : X.base.StaysIn h₀) (g : G X fr.envs lay σ s) (E : Evo fr.ban (some fr.L) lay₀ lay h₀ s.heap) (T : FreshE X h₀ c v s.heap) (hP : Lands X fr lay σ s lay₀ h₀ c v P) : wpAny M A (leaving fr.env v) (fun _ s' => P s') EE s := by
  obtain ⟨e, oe, vs, a0, rfl, hn, he, hc, hd, h0, h1⟩ := T
  exact wpAny_leaving_firstW (base := hid s.heap [e] fr.envs) (outer := fr.outer) hfr (frames_hide g _) rfl he (fun b o => hid_of) (hid_none (.head _)) hd h1 h0 fun h' hL =>
    landed hb g E hP rfl (.head _) (bad1 he hd) (new1 hn) hL.1 (hc ▸ hL.2.2.1) hL.2.2.2
theorem leave_sound {L : Addr} {x : KX} (hfr : A.frames = some fr.envs) (hb : X.base.StaysIn h₀) (g : G X fr.envs lay σ s) (E : Evo fr.ban (some fr.L) lay₀ lay h₀ s.heap) (T : Thr X false h₀ fr.L c v s.heap) (hP : Lands X fr lay σ s lay₀ h₀ c v P) :
    wpAny M A (leaving fr.env v) (fun _ s' => P s') EE s :=
  T.elim (fun T => leave_tr hfr hb g E T hP) fun T => T.2.elim (fun T => leave_held hb g E T hP) fun T => leave_new hfr hb g E T hP
end
end
end
section
open PySem.SeqAt
section
variable {X : Cx} {lay : Lay} {σ : Sto} {s : Shared} {fr : Fm} {A : Around} {M : Model}

theorem noted_sound {lay₀ : Lay} {h₀ : Heap} {x : KX} {v : Value} {EE : Value → Shared → Prop} (hfr : A.frames = some fr.envs) (hb : X.base.StaysIn h₀) (q : SXQ X fr true h₀ lay₀ x v s) (hE : ∀ s', SXQ X fr false h₀ lay₀ x v s' → EE v s') :
    notedBy M A fr.env (cameBackBy M A fr.env EE) v s := by
  obtain ⟨c, σ, lay, g, E, T, hx⟩ := q
  obtain ⟨e, a0, rfl, hn, oe, vs, T, oT, ts, he, hc, hd, h1, hT, hTe, hgT, hdT, h3⟩ := T.elim id fun T => absurd T.1.symm Bool.false_ne_true
  unfold notedBy
  refine wpAny_looks_onW (base := hid s.heap [e, T] fr.envs) (outer := fr.outer) (L := fr.L) (cls := .ref (X.B.clsA c)) (a0 := a0) hfr rfl ⟨fun b o => hid_of, hid_none (.head _), frames_hide g _, oe, vs, T, oT, ts, he, hc, hd, h1, hid_none (.tail _ (.head _)), hTe, hgT, hdT, h3⟩ fun h' hh up => ?_
  obtain ⟨k1, k2, k3, oe', vs', T', oT', ts', he', hc', hd', h1', hT', hTe', hgT', hdT', h3'⟩ := hh
  have g' : G X fr.envs lay σ { s with heap := h' } := g.exc (bad2 he hd hgT hdT) (fun b hb' => base_none hb (new2 hn hT b hb')) (hid_keep k1) up
  have E' : Evo fr.ban (some fr.L) lay₀ lay h₀ h' := E.exc g (new2 hn hT) (hid_keep k1) up
  have hT0 : h₀.get? T' = none := hid_new g E (new2 hn hT) up hT' hgT' hdT'
  -- it comes back into the frame
  unfold cameBackBy
  refine wpAny_bind (wpAny_field he' hd' h1' ?_)
  rw [if_neg (show ¬ (Value.ref T' == Value.none) = true from Bool.false_ne_true)]
  unfold setFlight
  refine wpAny_bind (wpAny_field he' hd' h1' ?_)
  rw [if_pos (show (Value.ref T' != Value.none) = true from rfl)]
  have hsz3 : 3 < ts'.size := (Array.getElem?_eq_some_iff.mp h3').1
  have other : ∀ f b, b ≠ T' → (h'.update T' f).get? b = h'.get? b := fun f b hb => Heap.get?_update_other _ _ (Ne.symm hb)
  have keep : ∀ f b o, b ∉ [e, T'] → b ∉ banOf fr.envs → h'.get? b = some o → (h'.update T' f).get? b = some o := fun f b o n1 _ e => (other f b (fun q => n1 (q ▸ .tail _ (.head _)))).trans e
  have up' : ∀ f, h'.UpToSlots (h'.update T' f) := fun f b o e n => ⟨o.slots, (other f b fun q => by
    subst q; rw [hgT'] at e; cases e; exact n ts' hdT').trans e⟩
  refine wpAny_setField hgT' hdT' hsz3 (hE _ ⟨c, σ, lay, ?_, ?_, ?_, hx⟩)
  · exact g'.exc (bad := [e, T']) (bad2 he' hd' hgT' hdT') (fun b hb' => base_none hb (new2 hn hT0 b hb')) (keep _) (up' _)
  · exact Evo.exc (s := { s with heap := h' }) g' E' (bad := [e, T']) (new2 hn hT0) (keep _) (up' _)
  · exact .inr ⟨rfl, .inl ⟨e, a0, rfl, hn, oe', vs', T', _, _, (Heap.get?_update_other _ _ hTe').trans he', hc', hd', h1', hT0, hTe', Heap.get?_update_self _ hgT' (Obj.isFreed_of_fields (Obj.data_mapFields hdT' _)), Obj.data_mapFields hdT' _, by rw [Array.getElem?_setIfInBounds_self_of_lt hsz3]; rfl⟩⟩
end
end
section
open PySem.SeqAt
set_option genCtorIdx false
set_option genSizeOf false
set_option genInjectivity false

noncomputable def noComp (e : Expr) : Bool := !([8, 9, 10].contains e.ctorIdx)
noncomputable def noTup (e : Expr) : Bool := noComp e && !([24, 25].contains e.ctorIdx)
noncomputable def isCompC (e : CE) : Bool := match e with
  | .csub .. => true
  | .cmod .. => true
  | .cin .. => true
  | _ => false
noncomputable def swapB (y : Str) (py : Pos) (v : Expr) : Bool := xComp v fun _ _ cs vp => py.line == vp.line && !(cs.names.any fun (n, k) => n == y && (k == .local || k == .cell))
noncomputable def constInt (e : Expr) (i : Int) : Bool := if e.ctorIdx = 19 then xConst e fun c _ _ => c == .int i else xUn e fun op x _ => op == .USub && xConst x fun c _ _ => c == .int (-i)
noncomputable def handB (B : Tb) (sc : Scope) (y : Nat) (a b : Int) (h : ExceptHandler) : Bool := match h with
  | .ExceptHandler t nm body _ => bO t fun t => nm.isNone && xName t fun id _ => id == B.clN y && gl sc id && b1 body fun st => yRet st fun x _ => bO x fun x => xTup x fun us _ _ => b2 us fun u v => constInt u a && constInt v b

noncomputable def csNil (f : CS) : Bool := by cases f; case nil => exact true
                                              all_goals exact false
theorem csNil_el {f : CS} (h : csNil f = true) : f = .nil := by
  cases f; case nil => rfl
  all_goals exact Bool.noConfusion (show false = true from h)
noncomputable def csCons (f : CS) (F : CS → CS → Bool) : Bool := by cases f; case cons s r => exact F s r
                                                                    all_goals exact false
theorem csCons_el {f : CS} {F} {P : CS → Prop} (h : csCons f F = true) (H : ∀ s r, F s r = true → P (.cons s r)) : P f := by
  cases f; case cons s r => exact H s r h
  all_goals exact Bool.noConfusion (show false = true from h)
noncomputable def csAugA (f : CS) (F : CE → Nat → BO → CE → Bool) : Bool := by cases f; case augA a n o e => exact F a n o e
                                                                               all_goals exact false
theorem csAugA_el {f : CS} {F} {P : CS → Prop} (h : csAugA f F = true) (H : ∀ a n o e, F a n o e = true → P (.augA a n o e)) : P f := by
  cases f; case augA a n o e => exact H a n o e h
  all_goals exact Bool.noConfusion (show false = true from h)
noncomputable def ceLoc (f : CE) (F : Nat → Bool) : Bool := by cases f; case loc i => exact F i
                                                               all_goals exact false
theorem ceLoc_el {f : CE} {F} {P : CE → Prop} (h : ceLoc f F = true) (H : ∀ i, F i = true → P (.loc i)) : P f := by
  cases f; case loc i => exact H i h
  all_goals exact Bool.noConfusion (show false = true from h)
noncomputable def ceLit (f : CE) (F : D → Bool) : Bool := by cases f; case lit d => exact F d
                                                             all_goals exact false
theorem ceLit_el {f : CE} {F} {P : CE → Prop} (h : ceLit f F = true) (H : ∀ d, F d = true → P (.lit d)) : P f := by
  cases f; case lit d => exact H d h
  all_goals exact Bool.noConfusion (show false = true from h)

section
variable (B : Tb) (sc : Scope) (nm : List Str)
noncomputable def augB (a : CE) (n : Nat) (o : BO) (e : CE) (s : Stmt) : Bool := yAug s fun t op v _ => xAttr t fun ob x _ => x == B.atN n && decide (n < B.nAt) && op == opOf o && agE B sc nm a ob && agE B sc nm e v
noncomputable def finB (f : CS) (g : Stmt) : Bool := csCons f fun s r => csNil r && csAugA s fun a n o e => ceLoc a fun i => ceLit e fun d => augB B sc nm (.loc i) n o (.lit d) g
noncomputable def asgB (i : Nat) (e : CE) (ok : Str → Pos → Expr → Bool) (s : Stmt) : Bool := yAsg s fun ts v _ => b1 ts fun t => xName t fun y py => nm[i]? == some y && ok y py v && agE B sc nm e v
mutual
noncomputable def agS : CS → Stmt → Bool
  | .expr e, s => yExpr s fun x _ => noComp x && agE B sc nm e x
  | .asg i e, s => asgB B sc nm i e (fun y py v => if isCompC e then swapB y py v else noComp v) s
  | .asg2 i j e, s => yAsg s fun ts v _ => b1 ts fun t => xTup t fun us _ _ => b2 us fun u w => xName u fun y _ => xName w fun z _ => nm[i]? == some y && nm[j]? == some z && noTup v && agE B sc nm e v
  | .asgA a n e, s => yAsg s fun ts v _ => b1 ts fun t => xAttr t fun o x _ => x == B.atN n && decide (n < B.nAt) && noComp v && agE B sc nm a o && agE B sc nm e v
  | .asgI a i e, s => yAsg s fun ts v _ => b1 ts fun t => xSub t fun o x _ => noComp v && agE B sc nm a o && agE B sc nm i x && agE B sc nm e v
  | .aug i o e, s => yAug s fun t op v _ => xName t fun y _ => nm[i]? == some y && op == opOf o && agE B sc nm e v
  | .augA a n o e, s => augB B sc nm a n o e s
  | .ret e, s => yRet s fun x _ => bO x fun x => agE B sc nm e x
  | .retN, s => yRet s fun x _ => x.isNone
  | .ite t a b, s => yIf s fun x ys zs _ => agE B sc nm t x && agSs a ys && agSs b zs
  | .while t b, s => yWhile s fun x ys zs _ => zs.isEmpty && agE B sc nm t x && agSs b ys
  | .forIn i e b, s => yFor s fun t it ys zs _ => zs.isEmpty && xName t fun y _ => nm[i]? == some y && plainE it && agE B sc nm e it && agSs b ys
  | .forR i e b, s => yFor s fun t it ys zs _ => zs.isEmpty && xName t fun y _ => nm[i]? == some y && agSs b ys && xCallN it fun rn vs => rn == ("range" : Str) && gl sc rn && b1 vs fun x => unstar x && agE B sc nm e x
  | .for4 i j k l e b, s => yFor s fun t it ys zs _ => zs.isEmpty && xTup t fun us _ _ => plainE it && agE B sc nm e it && agSs b ys && bC us fun u us => bC us fun v us => b2 us fun w z => xName u fun y1 _ => xName v fun y2 _ => xName w fun y3 _ => xName z fun y4 _ =>
      nm[i]? == some y1 && nm[j]? == some y2 && nm[k]? == some y3 && nm[l]? == some y4
  | .raise c es, s => yRaise s fun x cc _ => cc.isNone && bO x fun x => xCallN x fun id vs => id == B.clN c && gl sc id && decide (B.nCl ≤ c) && agL B sc nm es vs
  | .tryF i e f, s => yTry s fun b hs o f0 _ => hs.isEmpty && (o.isEmpty && (b1 b (fun st => asgB B sc nm i e (fun _ _ v => noComp v) st) && b1 f0 fun g => finB B sc nm f g))
  | .tryX e y z a b c d, s => yTry s fun bs hs o f0 _ => o.isEmpty && (f0.isEmpty && (decide (B.nCl ≤ y) && decide (B.nCl ≤ z) && B.clsA y != B.clsA z && b1 bs (fun st => yRet st fun x _ => bO x fun x => agE B sc nm e x) && b2 hs fun h1 h2 => handB B sc y a b h1 && handB B sc z c d h2))
  | .dead, _ => true
  | .nil, _ => false
  | .cons _ _, _ => false
noncomputable def agSs : CS → List Stmt → Bool
  | .nil, ss => ss.isEmpty
  | .cons s r, ss => bC ss fun x xs => agS s x && agSs r xs
  | .dead, _ => true
  | _, _ => false
end
end

noncomputable def okS : CS → Bool → Bool
  | .cons s r, q => okS s q && okS r q
  | .ite _ a b, q => okS a q && okS b q
  | .while _ b, q => !q && okS b true
  | .forIn _ _ b, q => !q && okS b true
  | .forR _ _ b, q => !q && okS b true
  | .for4 _ _ _ _ _ b, q => !q && okS b true
  | .raise _ _, q => !q
  | .tryF _ _ _, q => !q
  | .tryX _ _ _ _ _ _ _, q => !q
  | _, _ => true

section
variable {X : Cx} {fr : Fm} {m : Str → Option Value} {loc : Loc} {lay : Lay} {σ : Sto} {s : Shared} {A : Around} {C : Calls} {n : Nat} {E : Value → Shared → Prop}

inductive FQ (X : Cx) (fr : Fm) (h₀ : Heap) (lay₀ : Lay) (K : KF) (f : Flow) (s' : Shared) : Prop where
  | nx (hf : f = .next) (m' : Str → Option Value) (loc' : Loc) (σ' : Sto) (lay' : Lay) (S : St X fr m' loc' lay' σ' s') (E : Evo fr.ban (some fr.L) lay₀ lay' h₀ s'.heap) (HK : K .next loc' σ') : FQ X fr h₀ lay₀ K f s'
  | rt (d : D) (v : Value) (hf : f = .ret v) (m' : Str → Option Value) (loc' : Loc) (σ' : Sto) (lay' : Lay) (S : St X fr m' loc' lay' σ' s') (E : Evo fr.ban (some fr.L) lay₀ lay' h₀ s'.heap) (R : Rep X s'.heap lay' fr.ban d v) (HK : K (.ret d) loc' σ') : FQ X fr h₀ lay₀ K f s'
theorem FQ.back {h₀ h₁ lay₀ lay₁ K f s'} (e : Evo fr.ban (some fr.L) lay₀ lay₁ h₀ h₁) (q : FQ X fr h₁ lay₁ K f s') : FQ X fr h₀ lay₀ K f s' := by
  cases q with
  | nx hf m' loc' σ' lay' S E k => exact .nx hf m' loc' σ' lay' S (e.trans E) k
  | rt d v hf m' loc' σ' lay' S E R k => exact .rt d v hf m' loc' σ' lay' S (e.trans E) R k
@[elab_as_elim] theorem FQ.use {h₀ lay₀} {g : Loc → Sto → Prop} {K : KF} {f : Flow} {s' : Shared} (q : FQ X fr h₀ lay₀ (sqF g K) f s') {P : Flow → Prop} (a : ∀ m' loc' σ' lay', St X fr m' loc' lay' σ' s' → Evo fr.ban (some fr.L) lay₀ lay' h₀ s'.heap → g loc' σ' → P .next)
    (b : ∀ v, FQ X fr h₀ lay₀ K (.ret v) s' → P (.ret v)) : P f := by
  cases q with
  | nx hf m' loc' σ' lay' S E k => exact hf ▸ a m' loc' σ' lay' S E k
  | rt d v hf m' loc' σ' lay' S E R k => exact hf ▸ b v (.rt d v rfl m' loc' σ' lay' S E R k)

noncomputable def ExS (X : Cx) (fr : Fm) (A : Around) (C : Calls) (q : Bool) (cs : CS) (st : Stmt) : Prop := ∀ (m : Str → Option Value) (loc : Loc) (lay : Lay) (σ : Sto) (s : Shared) (K : KF) (x : KX), St X fr m loc lay σ s → ex X.B.tab C cs loc σ K x →
  wpAny (model X.prog X.w) A (exec st fr.env) (FQ X fr s.heap lay K) (SXQ X fr q s.heap lay x) s
noncomputable def ExsS (X : Cx) (fr : Fm) (A : Around) (C : Calls) (q : Bool) (cs : CS) (ss : List Stmt) : Prop := ∀ (m : Str → Option Value) (loc : Loc) (lay : Lay) (σ : Sto) (s : Shared) (K : KF) (x : KX), St X fr m loc lay σ s → ex X.B.tab C cs loc σ K x →
  wpAny (model X.prog X.w) A (execs ss fr.env) (FQ X fr s.heap lay K) (SXQ X fr q s.heap lay x) s
theorem ExsS.from {q : Bool} {cs : CS} {ss : List Stmt} (H : ExsS X fr A C q cs ss) {h₀ : Heap} {lay₀ : Lay} (S : St X fr m loc lay σ s) (E₀ : Evo fr.ban (some fr.L) lay₀ lay h₀ s.heap) {K : KF} {x : KX} (h : ex X.B.tab C cs loc σ K x) :
    wpAny (model X.prog X.w) A (execs ss fr.env) (FQ X fr h₀ lay₀ K) (SXQ X fr q h₀ lay₀ x) s := wpAny_mono (H m loc lay σ s K x S h) (fun _ _ q => FQ.back E₀ q) fun _ _ q => SXQ.back E₀ q

theorem EvS.useS {ce : CE} {e : Expr} (H : EvS X fr m loc A C ce e) {h₀ : Heap} {lay₀ : Lay} {q : Bool} (S : St X fr m loc lay σ s) (E₀ : Evo fr.ban (some fr.L) lay₀ lay h₀ s.heap) {K : KV} {x : KX} (h : ev X.B.tab C loc ce .v σ K x) {P : Value → Shared → Prop}
    (step : ∀ v d lay' σ' s', St X fr m loc lay' σ' s' → Evo fr.ban (some fr.L) lay₀ lay' h₀ s'.heap → Evo fr.ban (some fr.L) lay lay' s.heap s'.heap → Rep X s'.heap lay' fr.ban d v → K d σ' → P v s') :
    wpAny (model X.prog X.w) A (eval e fr.env) P (SXQ X fr q h₀ lay₀ x) s := wpAny_mono (H.use S E₀ h step) (fun _ _ q => q) fun _ _ q => q.sx
theorem EbS.useS {ce : CE} {e : Expr} (H : EbS X fr m loc A C ce e) {h₀ : Heap} {lay₀ : Lay} {q : Bool} (S : St X fr m loc lay σ s) (E₀ : Evo fr.ban (some fr.L) lay₀ lay h₀ s.heap) {K : KV} {x : KX} (h : ev X.B.tab C loc ce .b σ K x) {P : Bool → Shared → Prop}
    (step : ∀ b lay' σ' s', St X fr m loc lay' σ' s' → Evo fr.ban (some fr.L) lay₀ lay' h₀ s'.heap → K (.bool b) σ' → P b s') :
    wpAny (model X.prog X.w) A (PySem.isTrue e fr.env (eval e fr.env)) P (SXQ X fr q h₀ lay₀ x) s := wpAny_mono (H.use S E₀ h step) (fun _ _ q => q) fun _ _ q => q.sx

theorem noSwap {v : Expr} {t : Option Expr} {l : Nat} {env : Env} (h : noComp v = true) : swapsWith v t l env = pure false := by cases v <;> first | rfl | exact absurd (show false = true from h) Bool.false_ne_true

theorem store_sound (FO : fr.Ok) (S : St X fr m loc lay σ s) {i : Nat} {id : Str} {d : D} {v : Value} (h1 : fr.nm[i]? = some id) (R : Rep X s.heap lay fr.ban d v) {M : Model} {Q : Unit → Shared → Prop}
    (h : ∀ m' s', St X fr m' (loc.set i (some d)) lay σ s' → Evo fr.ban (some fr.L) lay lay s.heap s'.heap → Q () s') : wpAny M A (storeName fr.env id v) Q E s := by
  have hp : (fr.env.scope.kind == .class || (fr.env.scope.kind == .module && fr.env.locals != fr.env.globals)) = false := by
    show (fr.scope.kind == .class || (fr.scope.kind == .module && _)) = false
    rw [FO.kind]; rfl
  refine wpAny_storeName_local (FO.loc id (List.mem_of_getElem? h1)) S.ns (fun h' hn sb => ?_) hp
  have k : ∀ b o, b ≠ fr.L → s.heap.get? b = some o → h'.get? b = some o := fun b o ne e => (sb.2 b ne).trans e
  obtain ⟨S', E''⟩ := S.assign (s' := { s with heap := h', toks := s.toks + 1 }) FO h1 hn k rfl rfl (R.evo (S.evoBut hn k))
  exact h _ _ S' E''

variable (X fr A C n)
structure Ctx0 : Prop where
  O : X.Ok
  NO : nodeB X.K X.B = true
  PO : PrefOk X
  FO : fr.Ok
  hC : CallsOk X C n
  r : RoomB A fr.envs n
variable {X fr A C n}
theorem Ctx0.e (c : Ctx0 X fr A C n) (ce : CE) (m : Str → Option Value) (loc : Loc) : EB X fr m loc A C ce := (ev_sound c.O c.NO c.PO c.FO c.hC c.r ce).1
theorem Ctx0.l (c : Ctx0 X fr A C n) (ce : CE) (m : Str → Option Value) (loc : Loc) : LB X fr m loc A C ce := (ev_sound c.O c.NO c.PO c.FO c.hC c.r ce).2

theorem ex_nil {q : Bool} {ss : List Stmt} (h : agSs X.B fr.scope fr.nm .nil ss = true) : ExsS X fr A C q .nil ss :=
  b0_el (P := ExsS X fr A C q .nil) h fun m loc lay σ s K x S h => wpAny_execs_nil (.nx rfl m loc σ lay S Evo.refl h)
theorem ex_cons {q : Bool} {c r : CS} {st : Stmt} {ss : List Stmt} (H : ExS X fr A C q c st) (Hr : ExsS X fr A C q r ss) : ExsS X fr A C q (.cons c r) (st :: ss) := fun m loc lay σ s K x S h =>
  wpAny_execs_cons (wpAny_mono (H m loc lay σ s _ x S h) (fun f s₁ z => z.use (fun m₁ loc₁ σ₁ lay₁ S₁ E₁ hk => Hr.from S₁ E₁ hk) fun v z => z) fun _ _ q => q)

theorem ex_expr (c : Ctx0 X fr A C n) {q : Bool} {e : CE} {st : Stmt} (h : agS X.B fr.scope fr.nm (.expr e) st = true) : ExS X fr A C q (.expr e) st := yExpr_el (P := ExS X fr A C q (.expr e)) h fun y pos h m loc lay σ s K x S hx =>
  wpAny_Expr ((c.e e m loc _ (bAnd h).2).1.useS S Evo.refl hx fun v d lay₁ σ₁ s₁ S₁ E₁ _ R₁ hk => onN_el hk R₁ fun hk => .nx rfl m loc σ₁ lay₁ S₁ E₁ hk) (by show (fr.scope.kind == .module && _) = false; rw [c.FO.kind]; rfl) (noSwap (bAnd h).1)

theorem ex_ret (c : Ctx0 X fr A C n) {q : Bool} {e : CE} {st : Stmt} (h : agS X.B fr.scope fr.nm (.ret e) st = true) : ExS X fr A C q (.ret e) st := yRet_el (P := ExS X fr A C q (.ret e)) h fun y pos h => by
  obtain ⟨y, rfl, h⟩ := bO_inv h
  exact fun m loc lay σ s K x S hx => wpAny_Return_some ((c.e e m loc _ h).1.useS S Evo.refl hx fun v d lay₁ σ₁ s₁ S₁ E₁ _ R₁ hk => .rt d v rfl m loc σ₁ lay₁ S₁ E₁ R₁ hk)
theorem ex_retN {q : Bool} {st : Stmt} (h : agS X.B fr.scope fr.nm .retN st = true) : ExS X fr A C q .retN st := yRet_el (P := ExS X fr A C q .retN) h fun y pos h => by
  cases Option.isNone_iff_eq_none.mp h
  exact fun m loc lay σ s K x S hx => wpAny_Return_none (.rt .none .none rfl m loc σ lay S Evo.refl rfl hx)

theorem ex_ite (c : Ctx0 X fr A C n) {q : Bool} {t : CE} {a b : CS} {st : Stmt} (Ha : ∀ ss, agSs X.B fr.scope fr.nm a ss = true → ExsS X fr A C q a ss) (Hb : ∀ ss, agSs X.B fr.scope fr.nm b ss = true → ExsS X fr A C q b ss)
    (h : agS X.B fr.scope fr.nm (.ite t a b) st = true) : ExS X fr A C q (.ite t a b) st := yIf_el (P := ExS X fr A C q (.ite t a b)) h fun y ys zs pos h m loc lay σ s K x S hx =>
  wpAny_If ((c.e t m loc _ (bAnd (bAnd h).1).1).2.useS S Evo.refl hx fun bb lay₁ σ₁ s₁ S₁ E₁ hk => by
    cases bb with
    | true => rw [if_pos rfl]; exact (Ha _ (bAnd (bAnd h).1).2).from S₁ E₁ hk
    | false => rw [if_neg Bool.false_ne_true]; exact (Hb _ (bAnd h).2).from S₁ E₁ hk)

theorem ex_asgA (c : Ctx0 X fr A C n) {q : Bool} {a e : CE} {i : Nat} {st : Stmt} (h : agS X.B fr.scope fr.nm (.asgA a i e) st = true) : ExS X fr A C q (.asgA a i e) st := yAsg_el (P := ExS X fr A C q (.asgA a i e)) h fun ts v pos h =>
  b1_el (P := fun ts => ExS X fr A C q (.asgA a i e) (.Assign ts v pos)) h fun t h => xAttr_el (P := fun t => ExS X fr A C q (.asgA a i e) (.Assign [t] v pos)) h fun o y ap h => by
    obtain ⟨h, h2⟩ := bAnd h
    obtain ⟨h, h1⟩ := bAnd h
    obtain ⟨h, hn⟩ := bAnd h
    obtain ⟨h, hi⟩ := bAnd h
    cases (beq_iff_eq.mp h : y = _)
    exact fun m loc lay σ s K x S hx => plainObj_wpAny_Assign_Attribute ((c.e e m loc _ h2).1.useS S Evo.refl hx fun v d lay₁ σ₁ s₁ S₁ E₁ _ R₁ hk => (c.e a m loc _ h1).1.useS S₁ E₁ hk fun ov o lay₂ σ₂ s₂ S₂ E₂ E₂' R₂ hk =>
      setA_sound c.O S₂ (of_decide_eq_true hi) R₂ (R₁.evo E₂') hk fun σ₃ s₃ S₃ E₃ hk => .nx rfl m loc σ₃ lay₂ S₃ (E₂.trans E₃) hk) (noSwap hn)
theorem ex_asgI (c : Ctx0 X fr A C n) {q : Bool} {a i e : CE} {st : Stmt} (h : agS X.B fr.scope fr.nm (.asgI a i e) st = true) : ExS X fr A C q (.asgI a i e) st := yAsg_el (P := ExS X fr A C q (.asgI a i e)) h fun ts v pos h =>
  b1_el (P := fun ts => ExS X fr A C q (.asgI a i e) (.Assign ts v pos)) h fun t h => xSub_el (P := fun t => ExS X fr A C q (.asgI a i e) (.Assign [t] v pos)) h fun o y ap h => by
    obtain ⟨h, h3⟩ := bAnd h
    obtain ⟨h, h2⟩ := bAnd h
    obtain ⟨hn, h1⟩ := bAnd h
    exact fun m loc lay σ s K x S hx => wpAny_Assign_Subscript ((c.e e m loc _ h3).1.useS S Evo.refl hx fun v d lay₁ σ₁ s₁ S₁ E₁ _ R₁ hk => (c.e a m loc _ h1).1.useS S₁ E₁ hk fun ov o lay₂ σ₂ s₂ S₂ E₂ E₂' R₂ hk => (c.e i m loc _ h2).1.useS S₂ E₂ hk fun iv j lay₃ σ₃ s₃ S₃ E₃ E₃' R₃ hk =>
      setI_sound S₃ (R₂.evo E₃') R₃ ((R₁.evo E₂').evo E₃') hk fun σ₄ s₄ S₄ E₄ hk => .nx rfl m loc σ₄ lay₃ S₄ (E₃.trans E₄) hk) (noSwap hn)
theorem ex_aug (c : Ctx0 X fr A C n) {q : Bool} {i : Nat} {o : BO} {e : CE} {st : Stmt} (h : agS X.B fr.scope fr.nm (.aug i o e) st = true) : ExS X fr A C q (.aug i o e) st := yAug_el (P := ExS X fr A C q (.aug i o e)) h fun t op v pos h =>
  xName_el (P := fun t => ExS X fr A C q (.aug i o e) (.AugAssign t op v pos)) h fun y yp h => by
    obtain ⟨h, h1⟩ := bAnd h
    cases (beq_iff_eq.mp (bAnd h).2 : op = _)
    have hy := beq_iff_eq.mp (bAnd h).1
    intro m loc lay σ s K x S hx
    obtain ⟨d, hd, hx⟩ := onO_inv (show onO (loc.getD i none) _ from hx)
    obtain ⟨u, eu, ru⟩ := S.loc i y d hy (loc_at hd)
    refine wpAny_AugAssign_Name (wpAny_loadName_local c.FO.kind (c.FO.loc y (List.mem_of_getElem? hy)) S.ns eu ((c.e e m loc _ h1).1.useS S Evo.refl hx fun v d' lay₁ σ₁ s₁ S₁ E₁ _ R₁ hk => ?_))
    exact wpAny_mono (inp_sound (k := fun r σ => K .next (loc.set i (some r)) σ) S₁ (ru.evo E₁) R₁ hk) (fun r s₂ z => z.casesOn fun dr σ₂ lay₂ S₂ E₂ R₂ hk =>
      store_sound c.FO S₂ hy R₂ fun m' s₃ S₃ E₃ => .nx rfl m' _ σ₂ lay₂ S₃ ((E₁.trans E₂).trans E₃) hk) fun _ _ q => q
theorem ex_augA (c : Ctx0 X fr A C n) {q : Bool} {i : Nat} {o : BO} {a e : CE} {st : Stmt} (h : agS X.B fr.scope fr.nm (.augA a i o e) st = true) : ExS X fr A C q (.augA a i o e) st := yAug_el (P := ExS X fr A C q (.augA a i o e)) h fun t op v pos h =>
  xAttr_el (P := fun t => ExS X fr A C q (.augA a i o e) (.AugAssign t op v pos)) h fun ob y yp h => by
    obtain ⟨h, h2⟩ := bAnd h
    obtain ⟨h, h1⟩ := bAnd h
    obtain ⟨h, ho⟩ := bAnd h
    obtain ⟨h, hi⟩ := bAnd h
    cases (beq_iff_eq.mp h : y = _)
    cases (beq_iff_eq.mp ho : op = _)
    have hi := of_decide_eq_true hi
    intro m loc lay σ s K x S hx
    refine wpAny_AugAssign_AttributeAny ((c.e a m loc _ h1).1.useS S Evo.refl hx fun ov ob lay₁ σ₁ s₁ S₁ E₁ _ R₁ hk => ?_)
    refine wpAny_mono (attr_sound (k := fun d σ' => ev X.B.tab C loc e .v σ' (fun d' σ₂ => inpP o d d' fun r => setAP σ₂ ob i r fun σ₃ => K .next loc σ₃) x) c.O S₁ hi R₁ hk) (fun u s₂ z => z.casesOn fun d σ₂ lay₂ S₂ E₂ R₂ hk => ?_) fun _ _ q => q
    refine (c.e e m loc _ h2).1.useS S₂ (E₁.trans E₂) hk fun v d' lay₃ σ₃ s₃ S₃ E₃ E₃' R₃ hk => ?_
    exact wpAny_mono (inp_sound (k := fun r σ => setAP σ ob i r fun σ₃ => K .next loc σ₃) S₃ (R₂.evo E₃') R₃ hk) (fun r s₄ z => z.casesOn fun dr σ₄ lay₄ S₄ E₄ R₄ hk =>
      setA_sound c.O S₄ hi (((R₁.evo E₂).evo E₃').evo E₄) R₄ hk fun σ₅ s₅ S₅ E₅ hk => .nx rfl m loc σ₅ lay₄ S₅ ((E₃.trans E₄).trans E₅) hk) fun _ _ q => q
end
end
section
open PySem.SeqAt
section
variable {X : Cx} {fr : Fm} {m : Str → Option Value} {loc : Loc} {lay : Lay} {σ : Sto} {s : Shared} {A : Around} {C : Calls} {n : Nat} {E : Value → Shared → Prop}

theorem noPair {v : Expr} (hn : noTup v = true) {es : List Expr} {k : Nat} {p : Pos} {env : Env} : swappedStores [.Tuple es k p] v env = pure none := by
  cases v <;> first | rfl | exact absurd (show false = true from hn) Bool.false_ne_true
theorem isCompC_el {P : CE → Prop} (e : CE) (a : ∀ s k, P (.csub s k)) (b : ∀ s k, P (.cmod s k)) (c : ∀ s k, P (.cin s k)) (d : isCompC e = false → P e) : P e := by
  cases e with
  | csub s k => exact a s k
  | cmod s k => exact b s k
  | cin s k => exact c s k
  | _ => exact d rfl
theorem swap_true (FO : fr.Ok) {y : Str} {py : Pos} {v : Expr} {l : Nat} {i : Nat} (hi : fr.nm[i]? = some y) (h : swapB y py v = true) : swapsWith v (some (.Name y py)) l fr.env = pure true :=
  xComp_el (P := fun v => swapsWith v (some (.Name y py)) l fr.env = pure true) h fun a b cs vp h => by
    obtain ⟨h1, h2⟩ := bAnd h
    show (pure (fr.env.blockKind == .function && fr.env.kindOf y == some .local && py.line == vp.line && !(cs.names.any fun (n, k) => n == y && (k == .local || k == .cell))) : Sem Bool) = pure true
    have hb : fr.env.blockKind = .function := by
      unfold Env.blockKind
      rw [show fr.env.scope.kind = .function from FO.kind]
      rfl
    rw [hb, FO.loc y (List.mem_of_getElem? hi), h1, h2]
    rfl

section
variable (c : Ctx0 X fr A C n) {q : Bool} {i : Nat} {y : Str} {py pos : Pos} {v : Expr} {src : CE} (hy : fr.nm[i]? = some y) (hsw : swapB y py v = true)
include c hy hsw
theorem asg_csub {k : Nat} (hag : agE X.B fr.scope fr.nm (.csub src k) v = true) : ExS X fr A C q (.asg i (.csub src k)) (.Assign [.Name y py] v pos) := by
  revert hsw
  refine xLC_el (P := fun v => swapB y py v = true → ExS X fr A C q (.asg i (.csub src k)) (.Assign [.Name y py] v pos)) hag fun t z zp it cs p hag hsw m loc lay σ s K x S hx => ?_
  have hsw' := swap_true (l := pos.line) c.FO hy hsw
  revert hsw'
  obtain ⟨h, h2⟩ := bAnd hag
  refine xSub_el (P := fun t => swapsWith (.ListComp t _ cs p) _ _ _ = _ → wpAny _ _ (exec (.Assign _ (.ListComp t _ cs p) pos) fr.env) _ _ s) h2 fun u w sp h3 => nameB_inv (sc := cs) (P := fun u => swapsWith (.ListComp (.Subscript u w sp) _ cs p) _ _ _ = _ → wpAny _ _ (exec (.Assign _ (.ListComp (.Subscript u w sp) _ cs p) pos) fr.env) _ _ s) (bAnd h3).1 fun np cc =>
    constB_inv (P := fun w => swapsWith (.ListComp (.Subscript _ w sp) _ cs p) _ _ _ = _ → wpAny _ _ (exec (.Assign _ (.ListComp (.Subscript _ w sp) _ cs p) pos) fr.env) _ _ s) (bAnd h3).2 fun kk cp hsw' => ?_
  exact comp_asg c.FO hy cc (bAnd h).1 hsw' ((c.e src m loc _ (bAnd h).2).1.useS S Evo.refl hx fun v d lay₁ σ₁ s₁ S₁ E₁ _ R₁ hk => by
    obtain ⟨l, rfl, h4⟩ := onL_inv hk
    obtain ⟨rr, e, hk⟩ := onO_inv (ckk (ckk h4))
    exact ⟨lay₁, σ₁, rr, S₁, E₁, sub_src cc c.r.handled R₁ (ckp h4) (ckp (ckk h4)) e, fun m' s' S' E' => .nx rfl m' _ σ₁ lay₁ S' (E₁.trans E') hk⟩)
theorem asg_cmod {k : Int} (hag : agE X.B fr.scope fr.nm (.cmod src k) v = true) : ExS X fr A C q (.asg i (.cmod src k)) (.Assign [.Name y py] v pos) := by
  revert hsw
  refine xLC_el (P := fun v => swapB y py v = true → ExS X fr A C q (.asg i (.cmod src k)) (.Assign [.Name y py] v pos)) hag fun t z zp it cs p hag hsw m loc lay σ s K x S hx => ?_
  have hsw' := swap_true (l := pos.line) c.FO hy hsw
  revert hsw'
  obtain ⟨h, h2⟩ := bAnd hag
  refine xBin_el (P := fun t => swapsWith (.ListComp t _ cs p) _ _ _ = _ → wpAny _ _ (exec (.Assign _ (.ListComp t _ cs p) pos) fr.env) _ _ s) h2 fun u op w sp h3 => ?_
  cases (beq_iff_eq.mp (bAnd (bAnd h3).1).1 : op = .Mod)
  refine nameB_inv (sc := cs) (P := fun u => swapsWith (.ListComp (.BinOp u .Mod w sp) _ cs p) _ _ _ = _ → wpAny _ _ (exec (.Assign _ (.ListComp (.BinOp u .Mod w sp) _ cs p) pos) fr.env) _ _ s) (bAnd (bAnd h3).1).2 fun np cc =>
    constB_inv (P := fun w => swapsWith (.ListComp (.BinOp _ .Mod w sp) _ cs p) _ _ _ = _ → wpAny _ _ (exec (.Assign _ (.ListComp (.BinOp _ .Mod w sp) _ cs p) pos) fr.env) _ _ s) (bAnd h3).2 fun kk cp hsw' => ?_
  exact comp_asg c.FO hy cc (bAnd h).1 hsw' ((c.e src m loc _ (bAnd h).2).1.useS S Evo.refl hx fun v d lay₁ σ₁ s₁ S₁ E₁ _ R₁ hk => by
    obtain ⟨l, rfl, h4⟩ := onL_inv hk
    obtain ⟨rr, e, hk⟩ := onO_inv (ckk (ckk h4))
    exact ⟨lay₁, σ₁, rr, S₁, E₁, mod_src cc c.r.handled R₁ (ckp h4) (ckp (ckk h4)) e, fun m' s' S' E' => .nx rfl m' _ σ₁ lay₁ S' (E₁.trans E') hk⟩)
theorem asg_cin {z : Tx} (hag : agE X.B fr.scope fr.nm (.cin src z) v = true) : ExS X fr A C q (.asg i (.cin src z)) (.Assign [.Name y py] v pos) := by
  revert hsw
  refine xLC_el (P := fun v => swapB y py v = true → ExS X fr A C q (.asg i (.cin src z)) (.Assign [.Name y py] v pos)) hag fun t z zp it cs p hag hsw m loc lay σ s K x S hx => ?_
  have hsw' := swap_true (l := pos.line) c.FO hy hsw
  revert hsw'
  obtain ⟨h, h2⟩ := bAnd hag
  refine xCmp_el (P := fun t => swapsWith (.ListComp t _ cs p) _ _ _ = _ → wpAny _ _ (exec (.Assign _ (.ListComp t _ cs p) pos) fr.env) _ _ s) h2 fun u ops rs sp h3 => ?_
  cases (beq_iff_eq.mp (bAnd (bAnd h3).1).1 : ops = _)
  refine nameB_inv (sc := cs) (P := fun u => swapsWith (.ListComp (.Compare u [.In] rs sp) _ cs p) _ _ _ = _ → wpAny _ _ (exec (.Assign _ (.ListComp (.Compare u [.In] rs sp) _ cs p) pos) fr.env) _ _ s) (bAnd (bAnd h3).1).2 fun np cc =>
    b1_el (P := fun rs => swapsWith (.ListComp (.Compare _ [.In] rs sp) _ cs p) _ _ _ = _ → wpAny _ _ (exec (.Assign _ (.ListComp (.Compare _ [.In] rs sp) _ cs p) pos) fr.env) _ _ s) (bAnd h3).2 fun r0 h5 =>
    constB_inv (P := fun w => swapsWith (.ListComp (.Compare _ [.In] [w] sp) _ cs p) _ _ _ = _ → wpAny _ _ (exec (.Assign _ (.ListComp (.Compare _ [.In] [w] sp) _ cs p) pos) fr.env) _ _ s) h5 fun kk cp hsw' => ?_
  exact comp_asg c.FO hy cc (bAnd h).1 hsw' ((c.e src m loc _ (bAnd h).2).1.useS S Evo.refl hx fun v d lay₁ σ₁ s₁ S₁ E₁ _ R₁ hk => by
    obtain ⟨t, rfl, h4⟩ := onS_inv hk
    exact ⟨lay₁, σ₁, _, S₁, E₁, in_src cc c.r.handled R₁ (ckp h4), fun m' s' S' E' => .nx rfl m' _ σ₁ lay₁ S' (E₁.trans E') (ckk h4)⟩)
end

theorem ex_asg (c : Ctx0 X fr A C n) {q : Bool} {i : Nat} {e : CE} {st : Stmt} (h : agS X.B fr.scope fr.nm (.asg i e) st = true) : ExS X fr A C q (.asg i e) st := yAsg_el (P := ExS X fr A C q (.asg i e)) h fun ts v pos h =>
  b1_el (P := fun ts => ExS X fr A C q (.asg i e) (.Assign ts v pos)) h fun t h => xName_el (P := fun t => ExS X fr A C q (.asg i e) (.Assign [t] v pos)) h fun y py h => by
    obtain ⟨h, hag⟩ := bAnd h
    have hy := beq_iff_eq.mp (bAnd h).1
    have hc := (bAnd h).2
    have N : noComp v = true → ExS X fr A C q (.asg i e) (.Assign [.Name y py] v pos) := fun hn m loc lay σ s K x S hx =>
      wpAny_Assign_Name ((c.e e m loc _ hag).1.useS S Evo.refl hx fun v d lay₁ σ₁ s₁ S₁ E₁ _ R₁ hk => store_sound c.FO S₁ hy R₁ fun m' s₂ S₂ E₂ => .nx rfl m' _ σ₁ lay₁ S₂ (E₁.trans E₂) hk) (noSwap hn)
    clear h
    revert hag hc N
    exact isCompC_el (P := fun e => agE X.B fr.scope fr.nm e v = true → (if isCompC e then swapB y py v else noComp v) = true → (noComp v = true → ExS X fr A C q (.asg i e) (.Assign [.Name y py] v pos)) → ExS X fr A C q (.asg i e) (.Assign [.Name y py] v pos)) e
      (fun src k hag hc _ => asg_csub c hy hc hag) (fun src k hag hc _ => asg_cmod c hy hc hag) (fun src k hag hc _ => asg_cin c hy hc hag) fun e0 _ hc N => N (by rw [e0, if_neg Bool.false_ne_true] at hc; exact hc)

noncomputable def nameE (t : Nat × Str × Pos) : Expr := .Name t.2.1 t.2.2
theorem stores_names (FO : fr.Ok) : ∀ (ts : List (Nat × Str × Pos)) (ds : List D) (vs : List Value) (m : Str → Option Value) (loc : Loc) (s : Shared) (P : Unit → Shared → Prop), St X fr m loc lay σ s → RepL X s.heap lay fr.ban ds vs → ts.length = ds.length → (∀ t ∈ ts, fr.nm[t.1]? = some t.2.1) →
    (∀ m' s', St X fr m' ((ts.zip ds).foldl (fun l p => l.set p.1.1 (some p.2)) loc) lay σ s' → Evo fr.ban (some fr.L) lay lay s.heap s'.heap → P () s') →
    wpAny M A (assignInOrder (ts.map fun t => assign (nameE t) fr.env) vs) P E s := by
  intro ts
  induction ts with
  | nil =>
    intro ds vs m loc s P S R hl hn h
    cases List.eq_nil_of_length_eq_zero hl.symm
    exact R.unnil (wpAny_pure (h m s S Evo.refl))
  | cons t ts ih =>
    intro ds vs m loc s P S R hl hn h
    cases ds with
    | nil => cases hl
    | cons d ds =>
      exact R.uncons fun v vs r R => wpAny_bind (wpAny_holding (wpAny_assign_Name (store_sound FO S (hn t (.head _)) r fun m' s' S' E' =>
        ih ds vs m' _ s' P S' (R.evo E') (Nat.succ.inj hl) (fun t' ht => hn t' (.tail _ ht)) fun m'' s'' S'' E'' => h m'' s'' S'' (E'.trans E''))))

theorem tuple_names (FO : fr.Ok) (hh : A.handled = none) (ts : List (Nat × Str × Pos)) {ds : List D} {v : Value} {k : Nat} {pos : Pos} {P : Unit → Shared → Prop} (S : St X fr m loc lay σ s) (R : Rep X s.heap lay fr.ban (.tup ds) v) (hl : ts.length = ds.length) (hn : ∀ t ∈ ts, fr.nm[t.1]? = some t.2.1)
    (h : ∀ m' s', St X fr m' ((ts.zip ds).foldl (fun l p => l.set p.1.1 (some p.2)) loc) lay σ s' → Evo fr.ban (some fr.L) lay lay s.heap s'.heap → P () s') :
    wpAny (model X.prog X.w) A (assign (.Tuple (ts.map nameE) k pos) fr.env v) P E s := R.tup fun a vs I R1 => by
  have e0 : assignEach (ts.map nameE) fr.env = ts.map fun t => (false, assign (nameE t) fr.env) := by
    clear hl hn h
    induction ts with
    | nil => rfl
    | cons t ts ih => exact congrArg _ ih
  refine assign_Tuple_tuple hh I.tup (by rw [e0, List.length_map, List.size_toArray, hl, R1.length]) (by rw [e0, List.findIdx?_map]; exact List.findIdx?_eq_none_iff.mpr fun _ _ => rfl) fun h' ext => ?_
  rw [e0, List.map_map]
  have k' : ∀ b o, s.heap.get? b = some o → h'.get? b = some o := fun b o e => ext b o (fun q => absurd (q ▸ Heap.lt_size e) (Nat.lt_irrefl _)) e
  obtain ⟨S', E'⟩ := S.stepK (s' := { s with heap := h' }) (by obtain ⟨o, es, ep, ho, r⟩ := S.ns; exact ⟨o, es, ep, k' _ _ ho, r⟩) (fun b o _ e => k' b o e) rfl rfl
  exact stores_names FO ts ds vs m loc _ P S' (R1.evo E') hl hn fun m'' s'' S'' E'' => h m'' s'' S'' (E'.trans E'')

theorem ex_asg2 (c : Ctx0 X fr A C n) {q : Bool} {i j : Nat} {e : CE} {st : Stmt} (h : agS X.B fr.scope fr.nm (.asg2 i j e) st = true) : ExS X fr A C q (.asg2 i j e) st := yAsg_el (P := ExS X fr A C q (.asg2 i j e)) h fun ts v pos h =>
  b1_el (P := fun ts => ExS X fr A C q (.asg2 i j e) (.Assign ts v pos)) h fun t h => xTup_el (P := fun t => ExS X fr A C q (.asg2 i j e) (.Assign [t] v pos)) h fun us tk tp h =>
  b2_el (P := fun us => ExS X fr A C q (.asg2 i j e) (.Assign [.Tuple us tk tp] v pos)) h fun u w h => xName_el (P := fun u => ExS X fr A C q (.asg2 i j e) (.Assign [.Tuple [u, w] tk tp] v pos)) h fun y yp h =>
  xName_el (P := fun w => ExS X fr A C q (.asg2 i j e) (.Assign [.Tuple [_, w] tk tp] v pos)) h fun z zp h => by
    obtain ⟨h, h1⟩ := bAnd h
    obtain ⟨h, hn⟩ := bAnd h
    have hy := beq_iff_eq.mp (bAnd h).1
    have hz := beq_iff_eq.mp (bAnd h).2
    intro m loc lay σ s K x S hx
    refine PyProof.Rows.Assign_Tuple ((c.e e m loc _ h1).1.useS S Evo.refl hx fun u d lay₁ σ₁ s₁ S₁ E₁ _ R₁ hk => ?_) (show swapsWithSole _ _ _ _ = _ by unfold swapsWithSole; exact noSwap (bAnd hn).1) ?_
    · obtain ⟨l, rfl, hk⟩ := onT_inv hk
      obtain ⟨a, b, rfl, hk⟩ := on2_inv hk
      refine tuple_names c.FO c.r.handled [(i, y, yp), (j, z, zp)] S₁ R₁ rfl (fun t ht => ?_) fun m' s' S' E' => .nx rfl m' _ σ₁ lay₁ S' (E₁.trans E') hk
      rcases List.mem_cons.mp ht with rfl | ht
      · exact hy
      · rw [List.mem_singleton.mp ht]; exact hz
    · exact noPair hn
end
end
section
open PySem.SeqAt
set_option genCtorIdx false
set_option genSizeOf false
set_option genInjectivity false
section
variable {X : Cx} {fr : Fm} {m : Str → Option Value} {loc : Loc} {lay : Lay} {σ : Sto} {s : Shared} {A : Around} {C : Calls} {n : Nat} {E : Value → Shared → Prop}

inductive WI (X : Cx) (fr : Fm) (h₀ : Heap) (lay₀ : Lay) (W : Nat → Loc → Sto → Prop) (k : Nat) (s' : Shared) : Prop where
  | mk (m' : Str → Option Value) (loc' : Loc) (lay' : Lay) (σ' : Sto) (S : St X fr m' loc' lay' σ' s') (E : Evo fr.ban (some fr.L) lay₀ lay' h₀ s'.heap) (HW : W k loc' σ') : WI X fr h₀ lay₀ W k s'
theorem noted_all {lay₀ : Lay} {h₀ : Heap} {x : KX} {e : Value} (c : Ctx0 X fr A C n) (hb : X.base.StaysIn h₀) (q : SXQ X fr true h₀ lay₀ x e s) : notedBy (model X.prog X.w) A fr.env (cameBackBy (model X.prog X.w) A fr.env (SXQ X fr false h₀ lay₀ x)) e s :=
  noted_sound c.r.frames hb q fun _ q => q
theorem ex_while (c : Ctx0 X fr A C n) {t : CE} {b : CS} {st : Stmt} (Hb : ∀ ss, agSs X.B fr.scope fr.nm b ss = true → ExsS X fr A C true b ss) (h : agS X.B fr.scope fr.nm (.while t b) st = true) : ExS X fr A C false (.while t b) st := yWhile_el (P := ExS X fr A C false (.while t b)) h fun tx ys zs pos h => by
  obtain ⟨h, h2⟩ := bAnd h
  obtain ⟨hz, h1⟩ := bAnd h
  cases List.isEmpty_iff.mp hz
  intro m loc lay σ s K x S hx
  obtain ⟨k, hx⟩ := (show ∃ k, wl _ _ k loc σ K x from hx)
  refine wpAny_While (codeAny_whileLoop (WI X fr s.heap lay fun k loc' σ' => wl (fun loc σ k x => ev X.B.tab C loc t .b σ k x) (ex X.B.tab C b) k loc' σ' K x) (fun k s' hI => ?_) k ⟨m, loc, lay, σ, S, Evo.refl, hx⟩)
  obtain ⟨m', loc', lay', σ', S', E', hw⟩ := hI
  cases k with
  | zero => exact (hw : False).elim
  | succ k =>
    refine wpAny_mono ((c.e t m' loc' _ h1).2.useS S' E' hw fun bb lay₁ σ₁ s₁ S₁ E₁ hk => ?_) (fun _ _ q => q) fun _ _ q => noted_all c S.g.stays q
    cases bb with
    | false =>
      rw [if_neg Bool.false_ne_true]
      exact wpAny_execs_nil (.nx rfl m' loc' σ₁ lay₁ S₁ E₁ hk)
    | true =>
      rw [if_pos rfl]
      exact wpAny_mono ((Hb _ h2).from S₁ E₁ hk) (fun f s₂ q => q.use (fun m₂ loc₂ σ₂ lay₂ S₂ E₂ hk => ⟨k, Nat.lt_succ_self _, m₂, loc₂, lay₂, σ₂, S₂, E₂, hk⟩) fun v q => q) fun _ _ q => noted_all c S.g.stays q

theorem NewAt.free {base h ban b o vs} {a : Addr} (N : NewAt base ban h a) (e : h.get? b = some o) (hd : o.data = .fields vs) : a ≠ b := fun q => by
  obtain ⟨_, _, o', e', n⟩ := N
  rw [q, e] at e'; cases e'; exact n vs hd
theorem fieldsFree {envs : List Env} (g : G X envs lay σ s) {b : Addr} (h : ∃ o vs, s.heap.get? b = some o ∧ o.data = .fields vs) : Free lay (banOf envs) b := by
  obtain ⟨o, vs, e, hd⟩ := h
  refine ⟨fun hb => ?_, fun p hp => ⟨(g.new p hp).1.free e hd, (g.new p hp).2.free e hd⟩⟩
  obtain ⟨_, o', e', n⟩ := g.frames.mem hb
  rw [e] at e'; cases e'; exact n vs hd

theorem St.exc (S : St X fr m loc lay σ s) {bad : List Addr} (hbad : ∀ b ∈ bad, ∃ o vs, s.heap.get? b = some o ∧ o.data = .fields vs) (hbb : ∀ b ∈ bad, X.base.get? b = none) {h' : Heap} {tk : Nat}
    (keep : ∀ b o, b ∉ bad → b ∉ banOf fr.envs → s.heap.get? b = some o → h'.get? b = some o) (up : s.heap.UpToSlots h') : St X fr m loc lay σ { s with heap := h', toks := tk } := by
  have K : Kp (banOf fr.envs) lay lay s.heap h' := ⟨fun b o e F n => keep b o (fun hb => by
    obtain ⟨o', vs, e', hd⟩ := hbad b hb
    rw [e] at e'; cases e'; exact n vs hd) F.1 e, [], (List.append_nil lay).symm, fun p hp => nomatch hp⟩
  have g' := S.g.exc hbad hbb keep up
  exact ⟨up.ns S.ns, fun i x d a b => (S.loc i x d a b).imp fun v q => ⟨q.1, q.2.kp K⟩, S.above, ⟨g'.stays, g'.frames, g'.len, g'.sto, g'.new, g'.apart, g'.gens, g'.os, g'.sys⟩⟩
theorem src_step {h₀ : Heap} {lay₀ : Lay} {wr : List Addr} {h' : Heap} {tk : Nat} (hb : X.base.StaysIn h₀) (hwn : ∀ b ∈ wr, h₀.get? b = none) (bad : ∀ b ∈ wr, ∃ o vs, s.heap.get? b = some o ∧ o.data = .fields vs)
    (S : St X fr m loc lay σ s) (E₀ : Evo fr.ban (some fr.L) lay₀ lay h₀ s.heap) (hk : ∀ b o, b ∉ wr → s.heap.get? b = some o → h'.get? b = some o) :
    St X fr m loc lay σ { s with heap := h', toks := tk } ∧ Evo fr.ban (some fr.L) lay₀ lay h₀ h' ∧ Kp fr.ban lay lay s.heap h' := by
  have nf : ∀ b o, s.heap.get? b = some o → (∀ vs, o.data ≠ .fields vs) → b ∉ wr := fun b o e n hb => by
    obtain ⟨o', vs, e', hd⟩ := bad b hb
    rw [e] at e'; cases e'; exact n vs hd
  have up : s.heap.UpToSlots h' := fun b o e n => ⟨o.slots, hk b o (nf b o e n) e⟩
  have keep : ∀ b o, b ∉ wr → b ∉ banOf fr.envs → s.heap.get? b = some o → h'.get? b = some o := fun b o n _ e => hk b o n e
  exact ⟨S.exc bad (fun b hb' => base_none hb (hwn b hb')) keep up, Evo.exc S.g E₀ hwn keep up, fun b o e F n => hk b o (nf b o e n) e, [], (List.append_nil lay).symm, fun p hp => nomatch hp⟩
inductive FI (X : Cx) (fr : Fm) (h₀ : Heap) (lay₀ : Lay) (St_ : Nat → Heap → Prop) (P : Nat → Value → Prop) (ds : List D) (src : D) (sv : Value) (F : List D → Loc → Sto → Prop) (N k : Nat) (s' : Shared) : Prop where
  | mk (m' : Str → Option Value) (loc' : Loc) (lay' : Lay) (σ' : Sto) (i : Nat) (S : St X fr m' loc' lay' σ' s') (E : Evo fr.ban (some fr.L) lay₀ lay' h₀ s'.heap) (st : St_ i s'.heap) (hP : ∀ j v, P j v → ∀ d, ds[j]? = some d → Rep X s'.heap lay' fr.ban d v)
      (hs : Rep X s'.heap lay' fr.ban src sv) (hf : F (ds.drop i) loc' σ') (hi : i ≤ N) (hk : k = N + 1 - i) : FI X fr h₀ lay₀ St_ P ds src sv F N k s'
theorem fo_chk {chk : Sto → Prop} {b : D → Loc → Sto → KF → KX → Prop} {ds : List D} {K : KF} {x : KX} (h : fo chk b ds loc σ K x) : chk σ := by
  cases ds with
  | nil => exact h.1
  | cons _ _ => exact h.1

theorem for_core (c : Ctx0 X fr A C n) {target : Expr} {b : D → Loc → Sto → KF → KX → Prop} {ys : List Stmt} {chk : Sto → Prop} {I : Addr} {fp wr : List Addr} {N : Nat} {P : Nat → Value → Prop} {St_ : Nat → Heap → Prop} {h₀ : Heap} {lay₀ : Lay} {K : KF} {x : KX} {ds : List D} {src : D} {sv : Value}
    (hb : X.base.StaysIn h₀) (W : Walks (X.prog) X.w A I fp wr N P St_) (S : St X fr m loc lay σ s) (E₀ : Evo fr.ban (some fr.L) lay₀ lay h₀ s.heap) (hst : St_ 0 s.heap) (hN : N = ds.length)
    (hgo : ∀ i (s' : Shared) v (Q' : Unit → Shared → Prop) (E' : Value → Shared → Prop), St_ i s'.heap → Q' () s' → wpAny (model X.prog X.w) A (letOwnedTupleGo target (.ref I) v) Q' E' s')
    (hwn : ∀ b ∈ wr, h₀.get? b = none) (hwf : ∀ i h, St_ i h → ∀ b ∈ wr, ∃ o vs, h.get? b = some o ∧ o.data = .fields vs)
    (hP : ∀ i v, P i v → ∀ d, ds[i]? = some d → Rep X s.heap lay fr.ban d v) (hsv : Rep X s.heap lay fr.ban src sv)
    (hsrc : ∀ b ∈ fp, b ∉ wr → ∀ (lay₁ lay₂ : Lay) (σ₁ σ₂ : Sto) (s₁ s₂ : Shared), G X fr.envs lay₁ σ₁ s₁ → G X fr.envs lay₂ σ₂ s₂ → Evo fr.ban (some fr.L) lay₁ lay₂ s₁.heap s₂.heap → Rep X s₁.heap lay₁ fr.ban src sv → chk σ₁ → chk σ₂ → ∀ o, s₁.heap.get? b = some o → s₂.heap.get? b = some o)
    (turn : ∀ (m' : Str → Option Value) (loc' : Loc) (lay' : Lay) (σ' : Sto) (s' : Shared) (d : D) (v : Value) (K' : KF), St X fr m' loc' lay' σ' s' → Rep X s'.heap lay' fr.ban d v → b d loc' σ' K' x →
      wpAny (model X.prog X.w) A (assign target fr.env v) (fun _ s₂ => wpAny (model X.prog X.w) A (execs ys fr.env) (FQ X fr s'.heap lay' K') (SXQ X fr true s'.heap lay' x) s₂) (SXQ X fr true s'.heap lay' x) s')
    (h : fo chk b ds loc σ K x) :
    codeAny (model X.prog X.w) A (.forLoop target (.ref I) ys [] fr.env) (fun r s' => match r with | .ok f => FQ X fr h₀ lay₀ K f s' | .error e => cameBackBy (model X.prog X.w) A fr.env (SXQ X fr false h₀ lay₀ x) e s') s := by
  refine codeAny_forLoop_any (FI X fr h₀ lay₀ St_ P ds src sv (fun l loc' σ' => fo chk b l loc' σ' K x) N) (fun k s' hI => ?_) (N + 1) ⟨m, loc, lay, σ, 0, S, E₀, hst, hP, hsv, h, Nat.zero_le _, rfl⟩
  obtain ⟨m', loc', lay', σ', i, S', E', st', hP', hs', hf, hi, rfl⟩ := hI
  by_cases hlt : i < N
  · refine W.item i _ _ _ hlt st' fun v h₁ tk hPv st₁ hk => ?_
    obtain ⟨S₁, E₁, K₁⟩ := src_step (tk := tk) hb hwn (hwf i _ st') S' E' hk
    have hds : i < ds.length := hN ▸ hlt
    rw [List.drop_eq_getElem_cons hds] at hf
    refine hgo (i + 1) _ v _ _ st₁ ?_
    have Rv := (hP' i v hPv _ (List.getElem?_eq_getElem hds)).kp K₁
    refine wpAny_mono (turn m' loc' lay' σ' _ _ v _ S₁ Rv (And.right hf)) (fun _ s₂ h₂ => wpAny_mono h₂ (fun f s₃ q => q.use (fun m₃ loc₃ σ₃ lay₃ S₃ E₃ hk3 => ?_) fun v q => FQ.back E₁ q) fun e s₃ q => noted_all c hb (q.back E₁)) fun e s₃ q => noted_all c hb (q.back E₁)
    refine ⟨N + 1 - (i + 1), Nat.sub_lt_sub_left (Nat.lt_succ_of_lt hlt) (Nat.lt_succ_self i), m₃, loc₃, lay₃, σ₃, i + 1, S₃, E₁.trans E₃, ?_, fun j u hu d hd => ((hP' j u hu d hd).kp K₁).evo E₃, (hs'.kp K₁).evo E₃, hk3, hlt, rfl⟩
    refine W.frame _ _ _ st₁ fun bb hbb o e => ?_
    by_cases hbw : bb ∈ wr
    · exact E₃.keep bb o e (fieldsFree S₁.g (hwf _ _ st₁ bb hbw))
    · exact hsrc bb hbb hbw _ _ _ _ _ _ S₁.g S₃.g E₃ (hs'.kp K₁) (And.left hf) (fo_chk hk3) o e
  · have hin : i = N := Nat.le_antisymm hi (Nat.le_of_not_lt hlt)
    subst hin
    refine W.done _ _ _ st' fun h₁ tk hk => wpAny_execs_nil ?_
    obtain ⟨S₁, E₁, K₁⟩ := src_step (tk := tk) hb hwn (hwf i _ st') S' E' hk
    rw [hN, List.drop_length] at hf
    exact .nx rfl m' loc' σ' lay' S₁ E₁ (And.right hf)
end
end
section
open PySem.SeqAt
section
variable {X : Cx} {fr : Fm} {m : Str → Option Value} {loc : Loc} {lay : Lay} {σ : Sto} {s : Shared} {A : Around} {C : Calls} {n : Nat} {E : Value → Shared → Prop}

theorem turn_name (c : Ctx0 X fr A C n) {i : Nat} {y : Str} {py : Pos} {b : CS} {ys : List Stmt} (hy : fr.nm[i]? = some y) (Hb : ExsS X fr A C true b ys) {x : KX} :
    ∀ (m' : Str → Option Value) (loc' : Loc) (lay' : Lay) (σ' : Sto) (s' : Shared) (d : D) (v : Value) (K' : KF), St X fr m' loc' lay' σ' s' → Rep X s'.heap lay' fr.ban d v → ex X.B.tab C b (loc'.set i (some d)) σ' K' x →
      wpAny (model X.prog X.w) A (assign (.Name y py) fr.env v) (fun _ s₂ => wpAny (model X.prog X.w) A (execs ys fr.env) (FQ X fr s'.heap lay' K') (SXQ X fr true s'.heap lay' x) s₂) (SXQ X fr true s'.heap lay' x) s' := by
  intro m' loc' lay' σ' s' d v K' S' R' h
  exact wpAny_assign_Name (store_sound c.FO S' hy R' fun m'' s'' S'' E'' => Hb.from S'' E'' h)

theorem src_push (S : St X fr m loc lay σ s) (o : Obj) : St X fr m loc lay σ { s with heap := s.heap.push o } ∧ Evo fr.ban (some fr.L) lay lay s.heap (s.heap.push o) :=
  let q := S.pushed o (t := s.toks); ⟨q.1, q.2.1⟩

theorem item_rep {ds : List D} {vs : List Value} {h h' : Heap} {ban : List Addr} {L : Option Addr} (R : RepL X h lay ban ds vs) (E : Evo ban L lay lay h h') {i : Nat} {v : Value} {d : D} (hv : vs.toArray[i]? = some v) (hd : ds[i]? = some d) : Rep X h' lay ban d v := by
  obtain ⟨v', hv', rv⟩ := R.get i hd
  rw [List.getElem?_toArray, hv'] at hv
  cases hv; exact rv.evo E
theorem iter_bad {h : Heap} {I : Addr} {c : Value} {vs : Array Value} (e : ∃ o, h.get? I = some o ∧ o.cls = c ∧ o.data = .fields vs) : ∀ b ∈ [I], ∃ o vs, h.get? b = some o ∧ o.data = .fields vs := fun b hb => by
  obtain ⟨o, e, _, hd⟩ := e
  rw [List.mem_singleton.mp hb]; exact ⟨o, _, e, hd⟩

theorem list_loop (c : Ctx0 X fr A C n) {target : Expr} {b : D → Loc → Sto → KF → KX → Prop} {ys : List Stmt} {chk : Sto → Prop} {h₀ : Heap} {lay₀ : Lay} {K : KF} {x : KX} {l : List D} {src : D} {a : Addr} {vs : List Value}
    (hb : X.base.StaysIn h₀) (S : St X fr m loc lay σ s) (E₀ : Evo fr.ban (some fr.L) lay₀ lay h₀ s.heap) (hl : s.heap.IsList a vs.toArray) (R : RepL X s.heap lay fr.ban l vs) (hsv : Rep X s.heap lay fr.ban src (.ref a))
    (hgo : ∀ (I : Addr) (i : Nat) (s' : Shared) v (Q' : Unit → Shared → Prop) (E' : Value → Shared → Prop), s'.heap.IsListIter I a i → Q' () s' → wpAny (model X.prog X.w) A (letOwnedTupleGo target (.ref I) v) Q' E' s')
    (hsrc : ∀ (lay₁ lay₂ : Lay) (σ₁ σ₂ : Sto) (s₁ s₂ : Shared), G X fr.envs lay₁ σ₁ s₁ → G X fr.envs lay₂ σ₂ s₂ → Evo fr.ban (some fr.L) lay₁ lay₂ s₁.heap s₂.heap → Rep X s₁.heap lay₁ fr.ban src (.ref a) → chk σ₁ → chk σ₂ → ∀ o, s₁.heap.get? a = some o → s₂.heap.get? a = some o)
    (turn : ∀ (m' : Str → Option Value) (loc' : Loc) (lay' : Lay) (σ' : Sto) (s' : Shared) (d : D) (v : Value) (K' : KF), St X fr m' loc' lay' σ' s' → Rep X s'.heap lay' fr.ban d v → b d loc' σ' K' x →
      wpAny (model X.prog X.w) A (assign target fr.env v) (fun _ s₂ => wpAny (model X.prog X.w) A (execs ys fr.env) (FQ X fr s'.heap lay' K') (SXQ X fr true s'.heap lay' x) s₂) (SXQ X fr true s'.heap lay' x) s')
    (h : fo chk b l loc σ K x) :
    wpAny (model X.prog X.w) A (pyIter (.ref a)) (fun it s₂ => codeAny (model X.prog X.w) A (.forLoop target it ys [] fr.env) (fun r s' => match r with | .ok f => FQ X fr h₀ lay₀ K f s' | .error e => cameBackBy (model X.prog X.w) A fr.env (SXQ X fr false h₀ lay₀ x) e s') s₂) E s := by
  have hlt : a < s.heap.objs.size := by obtain ⟨_, e, _⟩ := hl; exact Heap.lt_size e
  refine wpAny_pyIter_list hl ?_
  obtain ⟨S', E'⟩ := src_push S { cls := .type "list_iterator", data := .fields #[.ref a, .int 0 0] }
  have hn0 : h₀.get? s.heap.objs.size = none := E₀.gone (none_size _)
  refine for_core c (src := src) (sv := .ref a) hb (Walks.list c.r.handled _ a (Nat.ne_of_lt hlt) vs.toArray) S' (E₀.trans E') ⟨⟨_, Heap.get?_push_size _ rfl, rfl, rfl⟩, hl.push _⟩ (by rw [List.size_toArray, R.length])
    (fun i s' v Q' E'' st q => hgo _ i s' v Q' E'' st.1 q) (new1 hn0)
    (fun i h' st => iter_bad st.1) (fun i v hv d hd => item_rep R E' hv hd) (hsv.evo E') (fun bb hbb hnw => ?_) turn h
  rcases List.mem_cons.mp hbb with rfl | hbb
  · exact absurd (List.mem_singleton.mpr rfl) hnw
  · rw [List.mem_singleton.mp hbb]; exact hsrc

theorem handle_src {envs : List Env} {lay₁ lay₂ : Lay} {σ₁ σ₂ : Sto} {s₁ s₂ : Shared} {L : Option Addr} {nn : Nat} {l : List D} {a : Addr} (g₁ : G X envs lay₁ σ₁ s₁) (g₂ : G X envs lay₂ σ₂ s₂) (E : Evo (banOf envs) L lay₁ lay₂ s₁.heap s₂.heap) (r : Rep X s₁.heap lay₁ (banOf envs) (.h nn) (.ref a))
    (c1 : nn < σ₁.length ∧ σ₁.at nn = .list l) (c2 : nn < σ₂.length ∧ σ₂.at nn = .list l) : ∀ o, s₁.heap.get? a = some o → s₂.heap.get? a = some o := by
  intro o ho
  obtain ⟨p, hp, e⟩ := (r : ∃ p, lay₁[nn]? = some p ∧ Value.ref a = .ref p.1)
  cases e
  obtain ⟨rr, er, _⟩ := E.ext
  have hp2 : lay₂[nn]? = some p := by rw [er, List.getElem?_append_left (List.getElem?_eq_some_iff.mp hp).1]; exact hp
  obtain ⟨_, vs1, n1, i1, r1⟩ := g₁.sto _ _ p (at_get c1.1 c1.2) hp
  obtain ⟨_, vs2, n2, i2, r2⟩ := g₂.sto _ _ p (at_get c2.1 c2.2) hp2
  obtain ⟨vs', n', i', hh⟩ := E.mono p (lay_mem hp) _ _ i1
  rw [i2] at i'
  cases i'
  rw [i1] at ho; cases ho
  rcases hh with hh | ⟨h2, h3⟩
  · rw [List.size_toArray, List.size_toArray, ← r1.length, ← r2.length] at hh
    exact absurd hh (Nat.lt_irrefl _)
  · rw [i2, h2, h3]

theorem go_name {y : Str} {py : Pos} {it v : Value} {M : Model} {Q : Unit → Shared → Prop} (q : Q () s) : wpAny M A (letOwnedTupleGo (.Name y py) it v) Q E s := wpAny_pure q

theorem sign_rep {t : Tx} {i : Nat} {v : Value} (hv : SignAt (toS t) i v) {d : D} (hd : (t.map fun c => D.str [c])[i]? = some d) {h : Heap} {ban : List Addr} : Rep X h lay ban d v := by
  obtain ⟨ch, u, e1, rfl⟩ := hv
  rw [List.getElem?_map, List.getElem?_toArray.symm.trans e1] at hd
  cases hd
  exact ⟨u, rfl⟩

section
variable (c : Ctx0 X fr A C n) {i : Nat} {y : Str} {py : Pos} {b : CS} {ys : List Stmt} (hy : fr.nm[i]? = some y) (Hb : ExsS X fr A C true b ys) {h₀ : Heap} {lay₀ : Lay} {K : KF} {x : KX} (hb : X.base.StaysIn h₀) (S : St X fr m loc lay σ s) (E₀ : Evo fr.ban (some fr.L) lay₀ lay h₀ s.heap)
include c hy Hb hb S E₀
abbrev ForEnd (X : Cx) (fr : Fm) (A : Around) (y : Str) (py : Pos) (ys : List Stmt) (h₀ : Heap) (lay₀ : Lay) (K : KF) (x : KX) (it : Value) (s : Shared) : Prop :=
  codeAny (model X.prog X.w) A (.forLoop (.Name y py) it ys [] fr.env) (fun r s' => match r with | .ok f => FQ X fr h₀ lay₀ K f s' | .error e => cameBackBy (model X.prog X.w) A fr.env (SXQ X fr false h₀ lay₀ x) e s') s
theorem str_core {nm : String} {t : Tx} {tk : Tok} (W : Walks X.prog X.w A s.heap.objs.size [s.heap.objs.size] [s.heap.objs.size] (toS t).cps.size (SignAt (toS t)) (fun i h => h.IsStrIter s.heap.objs.size nm (toS t) tk i)) (hk : fo (fun _ => True) (setL i (ex X.B.tab C b)) (t.map fun c => .str [c]) loc σ K x) :
    ForEnd X fr A y py ys h₀ lay₀ K x (.ref s.heap.objs.size) { s with heap := s.heap.push { cls := .type nm, data := .fields #[.str (toS t) tk, .int 0 0] } } := by
  obtain ⟨S', E'⟩ := src_push S { cls := .type nm, data := .fields #[.str (toS t) tk, .int 0 0] }
  exact for_core c (src := .none) (sv := .none) hb W S' (E₀.trans E') ⟨_, Heap.get?_push_size _ rfl, rfl, rfl⟩ ((toS_len t).trans (List.length_map _).symm) (fun i s' v Q' E'' _ q => go_name q)
    (new1 (E₀.gone (none_size _))) (fun i h' st => iter_bad st) (fun i v hv d hd => sign_rep hv hd) rfl (fun bb hbb hnw => absurd hbb hnw) (turn_name c hy Hb) hk
theorem tup_core {l : List D} {a : Addr} {vs : List Value} (I1 : SeqIs s.heap lay fr.ban "tuple" a vs) (R1 : RepL X s.heap lay fr.ban l vs) (hk : fo (fun _ => True) (setL i (ex X.B.tab C b)) l loc σ K x) :
    ForEnd X fr A y py ys h₀ lay₀ K x (.ref s.heap.objs.size) { s with heap := s.heap.push { cls := .type "tuple_iterator", data := .fields #[.ref a, .int 0 0] } } := by
  have I := I1.tup
  obtain ⟨cc, dd, F, sl, e⟩ := I1
  obtain ⟨S', E'⟩ := src_push S { cls := .type "tuple_iterator", data := .fields #[.ref a, .int 0 0] }
  refine for_core c (src := .tup l) (sv := .ref a) hb (Walks.tuple c.r.handled _ a (Nat.ne_of_lt (Heap.lt_size e)) vs.toArray) S' (E₀.trans E') ⟨⟨_, Heap.get?_push_size _ rfl, rfl, rfl⟩, ⟨_, Heap.get?_push_of_some _ e, rfl, _, rfl⟩⟩ (by rw [List.size_toArray, R1.length])
    (fun i s' v Q' E'' st q => go_name q) (new1 (E₀.gone (none_size _))) (fun i h' st => iter_bad st.1) (fun i v hv d hd => item_rep R1 E' hv hd) (Rep.evo E' (d := .tup l) ⟨a, vs, rfl, ⟨cc, dd, F, sl, e⟩, R1⟩)
    (fun bb hbb hnw => ?_) (turn_name c hy Hb) hk
  rcases List.mem_cons.mp hbb with rfl | hbb
  · exact absurd (List.mem_singleton.mpr rfl) hnw
  · rw [List.mem_singleton.mp hbb]
    exact fun lay₁ lay₂ σ₁ σ₂ s₁ s₂ g₁ g₂ E r _ _ o ho => by
      obtain ⟨a', vs', ea, ⟨_, _, F', _⟩, _⟩ := r
      cases ea
      exact E.keep _ o ho F'
end

theorem ex_forIn (c : Ctx0 X fr A C n) {i : Nat} {e : CE} {b : CS} {st : Stmt} (Hb : ∀ ss, agSs X.B fr.scope fr.nm b ss = true → ExsS X fr A C true b ss) (h : agS X.B fr.scope fr.nm (.forIn i e b) st = true) : ExS X fr A C false (.forIn i e b) st := yFor_el (P := ExS X fr A C false (.forIn i e b)) h fun t it ys zs pos h => by
  obtain ⟨hz, h⟩ := bAnd h
  cases List.isEmpty_iff.mp hz
  refine xName_el (P := fun t => ExS X fr A C false (.forIn i e b) (.For t it ys [] pos)) h fun y py h => ?_
  obtain ⟨h, h2⟩ := bAnd h
  obtain ⟨h, h1⟩ := bAnd h
  have hy := beq_iff_eq.mp (bAnd h).1
  intro m loc lay σ s K x S hx
  have hb := S.g.stays
  refine wpAny_For ((c.e e m loc _ h1).1.useS S Evo.refl hx fun v d lay₁ σ₁ s₁ S₁ E₁ _ R₁ hk => ?_) (noFold (bAnd h).2)
  cases d with
  | str t =>
    exact R₁.str fun tk => by
      cases ha : (toS t).cps.all (· < 128) with
      | false => exact wpAny_pyIter_wide ha (str_core c hy (Hb _ h2) hb S₁ E₁ (Walks.strWide c.r.handled _ _ tk) (ckk hk))
      | true => exact wpAny_pyIter_ascii ha (str_core c hy (Hb _ h2) hb S₁ E₁ (Walks.strAscii c.r.handled _ _ tk) (ckk hk))
  | lst l =>
    exact R₁.lst fun a vs I R1 => list_loop c hb S₁ E₁ I.lst R1 (src := .lst l) ⟨a, vs, rfl, I, R1⟩ (fun I i s' v Q' E'' _ q => go_name q) (fun lay₁ lay₂ σ₁ σ₂ s₁ s₂ g₁ g₂ E r _ _ o ho => by
      obtain ⟨a', vs', ea, ⟨_, _, F', _⟩, _⟩ := r
      cases ea
      exact E.keep _ o ho F') (turn_name c hy (Hb _ h2)) (ckk hk)
  | tup l => exact R₁.tup fun a vs I R1 => PyProof.Rows.iter_tuple I.tup (tup_core c hy (Hb _ h2) hb S₁ E₁ I R1 (ckk hk))
  | h nn =>
    exact R₁.ofH fun p hp => by
      obtain ⟨l, el, hk2⟩ := moL_inv (ckk hk)
      obtain ⟨e2, vs, cc, I1, R1⟩ := S₁.g.sto _ _ p (at_get (ckp hk) el) hp
      exact list_loop c hb S₁ E₁ ⟨_, I1, rfl, _, rfl⟩ R1 (src := .h nn) ⟨p, hp, rfl⟩ (fun I i s' v Q' E'' _ q => go_name q) (fun lay₁ lay₂ σ₁ σ₂ s₁ s₂ g₁ g₂ E r c1 c2 o ho => handle_src g₁ g₂ E r c1 c2 o ho) (turn_name c hy (Hb _ h2)) (ckk hk2)
  | _ => exact (hk : False).elim

theorem range_rep {k : Int} {j : Nat} {v : Value} (hv : ∃ t, v = .int (0 + (j : Int) * 1) t) {d : D} (hd : (rangeL k)[j]? = some d) {h : Heap} {ban : List Addr} : Rep X h lay ban d v := by
  obtain ⟨u, rfl⟩ := hv
  obtain ⟨q, hj, rfl⟩ := Option.map_eq_some_iff.mp (List.getElem?_map.symm.trans hd)
  have e := (List.getElem?_eq_some_iff.mp hj).2
  rw [List.getElem_range] at e
  exact ⟨u, by rw [e, Int.zero_add, Int.mul_one]⟩
theorem ex_forR (c : Ctx0 X fr A C n) {i : Nat} {e : CE} {b : CS} {st : Stmt} (hr : ktsB X.K ("range" : Str) (.type "range") = true) (Hb : ∀ ss, agSs X.B fr.scope fr.nm b ss = true → ExsS X fr A C true b ss) (h : agS X.B fr.scope fr.nm (.forR i e b) st = true) : ExS X fr A C false (.forR i e b) st := yFor_el (P := ExS X fr A C false (.forR i e b)) h fun t it ys zs pos h => by
  obtain ⟨hz, h⟩ := bAnd h
  cases List.isEmpty_iff.mp hz
  refine xName_el (P := fun t => ExS X fr A C false (.forR i e b) (.For t it ys [] pos)) h fun y py h => ?_
  obtain ⟨h, h3⟩ := bAnd h
  have hy := beq_iff_eq.mp (bAnd h).1
  have h2 := (bAnd h).2
  refine xCallN_el (P := fun it => ExS X fr A C false (.forR i e b) (.For _ it ys [] pos)) h3 fun rn vs rp cp h => ?_
  obtain ⟨h, h4⟩ := bAnd h
  cases (beq_iff_eq.mp (bAnd h).1 : rn = _)
  have hg := (bAnd h).2
  refine b1_el (P := fun vs => ExS X fr A C false (.forR i e b) (.For _ (.Call _ vs [] cp) ys [] pos)) h4 fun tx h => ?_
  obtain ⟨hu, h1⟩ := bAnd h
  intro m loc lay σ s K x S hx
  have e1 : starEach [tx] fr.env = (false, eval tx fr.env) :: [] := by rw [starEach_cons hu]; rfl
  refine wpAny_For (Call_Name (name_sound c.O c.FO S hg hr ?_)) (fun _ => rfl)
  rw [e1]
  refine callT rfl (Calls.spliced_cons ((c.e e m loc _ h1).1.useS S Evo.refl hx fun v d lay₁ σ₁ s₁ S₁ E₁ _ R₁ hk => Calls.spliced_nil ?_))
  exact onI_el hk R₁ fun k t hk => by
    obtain ⟨hk1, hk2⟩ := rOk_inv (ckp hk)
    have hk := ckk hk
    refine call_range_1 ?_
    obtain ⟨S₂, E₂, _⟩ := S₁.pushed { cls := .type "range", data := .fields #[.int 0 s₁.toks, .int k t, .int 1 (s₁.toks + 1)] } (t := s₁.toks + 1 + 1)
    refine wpAny_pyIter_range (s := { s₁ with heap := s₁.heap.push { cls := .type "range", data := .fields #[.int 0 s₁.toks, .int k t, .int 1 (s₁.toks + 1)] }, toks := s₁.toks + 1 + 1 }) (IsRange.new _ 0 k 1 _ _ _) (small_one (by decide) (by decide) (by lia) (by lia)) ?_
    obtain ⟨S', E'⟩ := src_push S₂ { cls := .type "range_iterator", data := .fields #[rawInt 0, rawInt (Builtin.Range.rangeSize 0 k 1), rawInt 1] }
    have hsz : Builtin.Range.rangeSize 0 k 1 = ((k.toNat : Nat) : Int) := by rw [rangeSize_one]; split <;> lia
    refine for_core c (src := .none) (sv := .none) S.g.stays (Walks.range c.r.handled _ 0 1 k.toNat) S' ((E₁.trans E₂).trans E') ?_ (by rw [rangeL, List.length_map, List.length_range]) (fun i s' v Q' E'' _ q => go_name q)
      (new1 ((E₁.trans E₂).gone (none_size _))) (fun i h' st bb hbb => by rw [List.mem_singleton.mp hbb]; exact ⟨_, _, st, rfl⟩) (fun j v hv d hd => range_rep hv hd) rfl (fun bb hbb hnw => absurd hbb hnw) (turn_name c hy (Hb _ h2)) hk
    show Heap.get? _ _ = some _
    rw [hsz]
    exact (Heap.get?_push_size _ rfl).trans (by rw [Int.natCast_zero, Int.zero_mul, Int.add_zero, Int.sub_zero])

theorem ex_for4 (c : Ctx0 X fr A C n) {i j k l : Nat} {e : CE} {b : CS} {st : Stmt} (Hb : ∀ ss, agSs X.B fr.scope fr.nm b ss = true → ExsS X fr A C true b ss) (h : agS X.B fr.scope fr.nm (.for4 i j k l e b) st = true) : ExS X fr A C false (.for4 i j k l e b) st := yFor_el (P := ExS X fr A C false (.for4 i j k l e b)) h fun t it ys zs pos h => by
  obtain ⟨hz, h⟩ := bAnd h
  cases List.isEmpty_iff.mp hz
  refine xTup_el (P := fun t => ExS X fr A C false (.for4 i j k l e b) (.For t it ys [] pos)) h fun us tk tp h => ?_
  obtain ⟨h, h3⟩ := bAnd h
  obtain ⟨h, h2⟩ := bAnd h
  obtain ⟨hp, h1⟩ := bAnd h
  refine bC_el (P := fun us => ExS X fr A C false (.for4 i j k l e b) (.For (.Tuple us tk tp) it ys [] pos)) h3 fun u1 us h => bC_el (P := fun us => ExS X fr A C false (.for4 i j k l e b) (.For (.Tuple (u1 :: us) tk tp) it ys [] pos)) h fun u2 us h =>
    b2_el (P := fun us => ExS X fr A C false (.for4 i j k l e b) (.For (.Tuple (u1 :: u2 :: us) tk tp) it ys [] pos)) h fun u3 u4 h => xName_el (P := fun u1 => ExS X fr A C false (.for4 i j k l e b) (.For (.Tuple [u1, u2, u3, u4] tk tp) it ys [] pos)) h fun y1 p1 h =>
    xName_el (P := fun u2 => ExS X fr A C false (.for4 i j k l e b) (.For (.Tuple [_, u2, u3, u4] tk tp) it ys [] pos)) h fun y2 p2 h => xName_el (P := fun u3 => ExS X fr A C false (.for4 i j k l e b) (.For (.Tuple [_, _, u3, u4] tk tp) it ys [] pos)) h fun y3 p3 h =>
    xName_el (P := fun u4 => ExS X fr A C false (.for4 i j k l e b) (.For (.Tuple [_, _, _, u4] tk tp) it ys [] pos)) h fun y4 p4 h => ?_
  obtain ⟨h, q4⟩ := bAnd h
  obtain ⟨h, q3⟩ := bAnd h
  have hn : ∀ t ∈ [(i, y1, p1), (j, y2, p2), (k, y3, p3), (l, y4, p4)], fr.nm[t.1]? = some t.2.1 :=
    List.forall_mem_cons.mpr ⟨beq_iff_eq.mp (bAnd h).1, List.forall_mem_cons.mpr ⟨beq_iff_eq.mp (bAnd h).2, List.forall_mem_cons.mpr ⟨beq_iff_eq.mp q3, List.forall_mem_cons.mpr ⟨beq_iff_eq.mp q4, fun _ h => nomatch h⟩⟩⟩⟩
  intro m loc lay σ s K x S hx
  refine wpAny_For ((c.e e m loc _ h1).1.useS S Evo.refl hx fun v d lay₁ σ₁ s₁ S₁ E₁ _ R₁ hk => ?_) (noFold hp)
  exact onH_el hk R₁ fun nn p hk hp => by
    obtain ⟨q, el, hk2⟩ := moL_inv (ckk hk)
    obtain ⟨e2, vs, cc, I1, R1⟩ := S₁.g.sto _ _ p (at_get (ckp hk) el) hp
    refine list_loop c S.g.stays S₁ E₁ ⟨_, I1, rfl, _, rfl⟩ R1 (src := .h nn) ⟨p, hp, rfl⟩ (fun I i s' v Q' E'' hit qq => ?_) (fun lay₁ lay₂ σ₁ σ₂ s₁ s₂ g₁ g₂ E r c1 c2 o ho => handle_src g₁ g₂ E r c1 c2 o ho) (fun m' loc' lay' σ' s' d v K' S' R' hk' => ?_) (ckk hk2)
    · cases v with
      | ref T => exact wpAny_letOwnedTupleGo_listiter hit qq
      | _ => exact wpAny_pure qq
    · obtain ⟨dl, rfl, hk'⟩ := onT_inv hk'
      obtain ⟨a, b', c', f, rfl, hk'⟩ := on4_inv hk'
      exact tuple_names c.FO c.r.handled [(i, y1, p1), (j, y2, p2), (k, y3, p3), (l, y4, p4)] S' R' rfl hn fun m'' s'' S'' E'' => (Hb _ h2).from S'' E'' hk'
end
end
section
open PySem.SeqAt
set_option maxRecDepth 100000

noncomputable def onlyExc : List Value → Bool
  | [] => false
  | v :: r => (match v with | .type n => n == "Exception" && r == [.type "BaseException", .type "object"] | .ref _ => onlyExc r | _ => false)
@[elab_as_elim] theorem onlyExc_el {P : List Value → Prop} (a : P [.type "Exception", .type "BaseException", .type "object"]) (b : ∀ c r, P r → P (.ref c :: r)) : ∀ {l : List Value}, onlyExc l = true → P l := by
  intro l
  induction l with
  | nil => exact fun h => absurd h Bool.false_ne_true
  | cons v r ih =>
    intro h
    cases v with
    | type n => obtain ⟨h1, h2⟩ := bAnd h; cases (beq_iff_eq.mp h1 : n = _); cases (beq_iff_eq.mp h2 : r = _); exact a
    | ref c => exact b c r (ih h)
    | _ => exact absurd h Bool.false_ne_true
theorem refuse_exc0 (self : Value) : refuseLoop self "__setattr__" [.type "Exception", .type "BaseException", .type "object"] = pure () := by kernel_rfl
theorem refuse_exc (self : Value) {l : List Value} (h : onlyExc l = true) : refuseLoop self "__setattr__" l = pure () := onlyExc_el (refuse_exc0 self) (fun c r h => (refuseLoop_ref self _ c r).trans h) h
theorem exc_has {l : List Value} (h : onlyExc l = true) : l.contains (.type "object") = true := onlyExc_el (by decide) (fun c r h => by rw [List.contains_cons, h, Bool.or_true]) h
theorem exc_ne {l : List Value} (h : onlyExc l = true) : l.isEmpty = false := onlyExc_el rfl (fun c r h => rfl) h
noncomputable def excOver (K : Frag) (C : Addr) : Bool := (clsIn K C).any fun cd => onlyExc cd.mro

section
variable {prog : Program} {w : World} {A : Around} {s : Shared} {K : Frag} {x C : Addr} {R : Result → Shared → Prop}
theorem osa_openX {ox : Obj} {od : Option Obj} {name : Str} {tk : Tok} {v : Value} {r : Option Value} (X : K.In s.heap) (I : W.InstAt s.heap x ox C od) (hp : excOver K C = true) (ht : takerIn K C name = some r)
    (h : ∀ b, wpAny (model prog w) A.in1 (match r with | some a => Builtin.ObjectAttr.setByDescriptor a (.ref x) v | none => Builtin.ObjectAttr.storeInOwnDict (.ref x) (.ref C) (.str name tk) name v b)
      (fun fin s' => match fin with | .done f => R (.ok f) s' | .again c' => c'.quiet = true ∧ codeAny (model prog w) A c' R s') (fun e s' => R (.error e) s') s) :
    codeAny (model prog w) A (.call (.builtin "object.__setattr__") ⟨[.ref x, .str name tk, v], []⟩) R s := by
  have SF := PySem.F.store_object
  obtain ⟨cd, hc, ho⟩ := any_some hp
  have ne : cd.mro.isEmpty = false := exc_ne ho
  have sub : Looks (model prog w) s.heap (isInstance (.ref x) (.type "object")) true := I.type.andThen (looks_mroIn X (by unfold mroIn; rw [hc, Option.bind_some, if_neg (by rw [ne]; decide), exc_has ho]))
  refine codeAny_call_builtin SF.slot.plain SF.entry (@check_slot (model prog w) _ _ s "object.__setattr__" "object" "__setattr__" (.ref x) [.str name tk, v] [] _ SF.kind SF.split sub (SF.args (.ref x) (.str name tk) v) ?_)
  obtain ⟨attr, ha, hr⟩ := Option.bind_eq_some_iff.mp ht
  have hm : Looks (model prog w) s.heap (mroOf (.ref C)) cd.mro := (looks_clsIn X hc).andThen .now
  have L3 : Looks (model prog w) s.heap (Builtin.ObjectAttr.storeTaker? attr) r := by
    cases attr with
    | none => cases hr; exact .now
    | some a =>
      obtain ⟨b, hb, rfl⟩ := Option.map_eq_some_iff.mp hr
      refine (looks_takesIn X hb).andThen ?_
      cases b <;> exact .now
  rw [osa_eq, refuse_eq]
  refine wpAny_bind (wpAny_bind (I.type.here (wpAny_bind (hm.here ?_))))
  rw [refuse_exc _ ho]
  refine wpAny_pure (wpAny_bind (I.type.here (wpAny_bind ((looks_findIn X ha).here (wpAny_bind (L3.here ?_))))))
  exact h _

noncomputable def exOk (K : Frag) (C : Addr) (name : Str) : Bool :=
  findIn K (.ref C) "__setattr__" == some (some (.builtin "object.__setattr__")) && excOver K C && takerIn K C name == some none && (clsIn K C).any (·.hasDict)
theorem exOk_of {K : Frag} {C : Addr} {name : Str} (h : exOk K C name = true) : findIn K (.ref C) "__setattr__" = some (some (.builtin "object.__setattr__")) ∧ excOver K C = true ∧ takerIn K C name = some none ∧ (clsIn K C).any (·.hasDict) = true := by
  have a := bAnd h
  have b := bAnd a.1
  have c := bAnd b.1
  exact ⟨beq_iff_eq.mp c.1, c.2, beq_iff_eq.mp b.2, a.2⟩

variable {E : Value → Shared → Prop}
theorem excSet1 {e : Addr} {vs : Array Value} {sl : Array (Option Value)} {name : Str} {v : Value} {Q : Unit → Shared → Prop} (KX : K.In s.heap) (ok : exOk K C name = true) (he : s.heap.get? e = some ⟨.ref C, none, .fields vs, sl⟩)
    (h : ∀ h' tk D f, h'.get? e = some ⟨.ref C, some D, .fields vs, sl⟩ → h'.Ns D f → h'.DictLe D 1 → s.heap.get? D = none → (∀ b o, b ≠ e → s.heap.get? b = some o → h'.get? b = some o) → Q () { s with heap := h', toks := tk }) :
    wpAny (model prog w) A (setAttr (.ref e) name v) Q E s := by
  obtain ⟨h1, h2, h3, h4⟩ := exOk_of ok
  have IA : W.InstAt s.heap e ⟨.ref C, none, .fields vs, sl⟩ C none := ⟨he, rfl, rfl, trivial⟩
  refine set_plain KX IA h1 ?_
  refine osa_openX (s := { s with toks := s.toks + 1 }) KX IA h2 h3 fun b => ?_
  obtain ⟨cd, hc, hd'⟩ := any_some h4
  refine wpAny_bind (wpAny_pure (wpAny_bind (wpAny_bind (wpAny_loadPart he (wpAny_bind ((looks_clsIn (h := s.heap) KX hc) _ _ _ _ (fun _ _ e => e) ?_))))))
  rw [hd']
  have he1 := Heap.get?_push_of_some { cls := .type "dict", data := .dict #[] } he
  have hne : s.heap.objs.size ≠ e := Nat.ne_of_gt (Heap.lt_size he)
  refine wpAny_bind (wpAny_alloc (wpAny_bind (wpAny_update he1 (wpAny_pure (a := some s.heap.objs.size) (wpAny_bind (wpAny_pure (wpAny_bind ?_)))))))
  have hD : ((s.heap.push { cls := .type "dict", data := .dict #[] }).update e fun o => { o with dict := some s.heap.objs.size }).get? s.heap.objs.size = some { cls := .type "dict", data := .dict #[] } :=
    (Heap.get?_update_other _ _ hne.symm).trans (Heap.get?_push_size _ rfl)
  have hE : ((s.heap.push { cls := .type "dict", data := .dict #[] }).update e fun o => { o with dict := some s.heap.objs.size }).get? e = some ⟨.ref C, some s.heap.objs.size, .fields vs, sl⟩ := Heap.get?_update_self _ he1 rfl
  refine nsSetZ (s := { s with heap := (s.heap.push { cls := .type "dict", data := .dict #[] }).update e fun o => { o with dict := some s.heap.objs.size }, toks := s.toks + 1 }) (m := fun _ => none) (n := 0) ⟨_, #[], _, hD, rfl, fun e he => by simp at he, fun _ => rfl⟩ (fun o es ep ho hd => by rw [hD] at ho; cases ho; cases hd; exact Nat.le_refl _) fun h' N' sb z' => ?_
  have N'' := N'
  obtain ⟨o', es', ep', ho', hd'', _⟩ := N''
  have := z' _ _ _ ho' hd''
  refine wpAny_bind (wpAny_lookBehind (o := o') ho' (by rw [hd'']; exact pastItsLine_dict (by rw [sizeLine_eq]; simp at this; lia)) ?_)
  refine wpAny_pure (h _ _ s.heap.objs.size _ ((sb.2 _ hne.symm).trans hE) N' (by simpa using z') (none_size _) fun b o hb hbo => ?_)
  have hbD : b ≠ s.heap.objs.size := Nat.ne_of_lt (Heap.lt_size hbo)
  exact (sb.2 _ hbD).trans ((Heap.get?_update_other _ _ hb.symm).trans (Heap.get?_push_of_some _ hbo))
theorem excSet2 {e D : Addr} {vs : Array Value} {sl : Array (Option Value)} {name : Str} {v : Value} {f : Str → Option Value} {n : Nat} {Q : Unit → Shared → Prop} (KX : K.In s.heap) (ok : exOk K C name = true) (he : s.heap.get? e = some ⟨.ref C, some D, .fields vs, sl⟩)
    (N : s.heap.Ns D f) (hz : s.heap.DictLe D n) (hn : n ≤ 1000)
    (h : ∀ h' tk f', h'.Ns D f' → Heap.SameBut D s.heap h' → Q () { s with heap := h', toks := tk }) :
    wpAny (model prog w) A (setAttr (.ref e) name v) Q E s := by
  obtain ⟨h1, h2, h3, h4⟩ := exOk_of ok
  have N0 := N
  obtain ⟨od, es, ep, hod, _⟩ := N0
  have IA : W.InstAt s.heap e ⟨.ref C, some D, .fields vs, sl⟩ C (some od) := ⟨he, rfl, rfl, hod⟩
  refine set_plain KX IA h1 ?_
  refine osa_openX (s := { s with toks := s.toks + 1 }) KX IA h2 h3 fun b => ?_
  obtain ⟨cd, hc, hd'⟩ := any_some h4
  refine wpAny_bind (wpAny_pure (wpAny_bind (wpAny_bind (wpAny_loadPart he (wpAny_bind ((looks_clsIn (h := s.heap) KX hc) _ _ _ _ (fun _ _ e => e) ?_))))))
  rw [hd']
  refine wpAny_pure (a := some D) (wpAny_bind (wpAny_pure (wpAny_bind ?_)))
  refine nsSetZ (s := { s with toks := s.toks + 1 }) N hz fun h' N' sb z' => ?_
  have N'' := N'
  obtain ⟨o', es', ep', ho', hd'', _⟩ := N''
  have := z' _ _ _ ho' hd''
  refine wpAny_bind (wpAny_lookBehind (o := o') ho' (by rw [hd'']; exact pastItsLine_dict (by rw [sizeLine_eq]; split at this <;> lia)) ?_)
  exact wpAny_pure (h _ _ _ N' sb)
end
end
section
open PySem.SeqAt
open Sem (wp)
set_option maxRecDepth 100000

section
variable {prog : Program} {w : World} {A : Around} {E : Value → Shared → Prop} {R : Result → Shared → Prop} {h : Heap} {g : Array GenState} {d : Drawn} {t : Nat} {os : OsState}
variable {nm q : Str} {C N : Addr} {bs bm : List Value} {hdct : Bool} {sn : List Str} {sub : List Value} {ab : Bool} {col : Option Bool} {dd : Option Addr} {k0 k1 k2 k3 k5 : Option Value} {Bn newId inN : String} {bmN : List Value}

theorem check_newX (Fn : ExcBaseFacts Bn newId inN bmN) (hcont : (Value.ref C :: bm).contains (.type Bn) = true) {M : Model} {rest : List Value} {Q : Unit → Shared → Prop} (hC : h.get? C = some (excClassObj nm q C N bs bm hdct sn sub ab col dd k0 k1 k2 k3 k5 newId))
    (hq : Q () ⟨h, g, d, t, os⟩) : wpAny M A (checkBuiltinCall newId ⟨.ref C :: rest, []⟩) Q E ⟨h, g, d, t, os⟩ := by
  have hstar := Fn.noStar
  simp only [checkBuiltinCall, Fn.newKind, Fn.newSplit, Fn.newRow]
  repeat (first | refine wpAny_loadPart_at hC ?_ | (refine wpAny_isSubtype_exc hC ?_; rw [hcont]) | refine wpAny_staticBase_exc hC ?_ | refine wpAny_madeBy_exc hC ?_ | simp only [bne_self_eq_false, Bool.false_eq_true, if_false] | wp_step)
  exact hq

theorem exc_newX (Fn : ExcBaseFacts Bn newId inN bmN) (hcB : (Value.ref C :: bm).contains (.type Bn) = true) (hcA : (Value.ref C :: bm).contains (.type "AttributeError") = false) (hcN : (Value.ref C :: bm).contains (.type "NameError") = false) {rest : List Value} (hC : h.get? C = some (excClassObj nm q C N bs bm hdct sn sub ab col dd k0 k1 k2 k3 k5 newId))
    (hq : R (.ok (.ret (.ref (h.objs.size + 1)))) ⟨(h.push { cls := .type "tuple", data := .seq rest.toArray }).push
      { cls := .ref C, data := .fields #[.ref h.objs.size, .none, .none, .none, .bool false, .none] }, g, d, t, os⟩) (hrest : rest.length ≤ sizeLine) :
    codeAny (model prog w) A (.builtin newId ⟨.ref C :: rest, []⟩) R ⟨h, g, d, t, os⟩ := by
  have hends := Fn.ends
  refine codeAny_builtinAt Fn.entry ?_
  unfold Builtin.«BaseException.__new__»
  refine PySem.wpAt_bind ?_
  show PySem.wpAt _ _ _ (stack >>= _) _ _ _
  refine PySem.wpAt_bind (PySem.wpAt_stack fun p below => PySem.wpAt_of_wpAny ?_)
  wp_walk
  refine PySem.wpAt_of_wpAny ?_
  rw [Fn.owner]
  repeat (first | with_reducible refine wpAny_madeHere_exc Fn.canon hC ?_ | with_reducible refine wpAny_loadPart_at hC ?_ | (with_reducible refine wpAny_isSubtype_exc hC ?_; first | rw [hcB] | rw [hcA] | rw [hcN]) | wp_step)
  show R _ _
  rw [Heap.size_push]
  exact hq

theorem type_call_X {K : Frag} (Fn : ExcBaseFacts Bn newId inN bmN) (hcB : (Value.ref C :: bm).contains (.type Bn) = true) (hcA : (Value.ref C :: bm).contains (.type "AttributeError") = false) (hcN : (Value.ref C :: bm).contains (.type "NameError") = false)
    {rest : List Value} {fI : Addr} {Q : Fin → Shared → Prop} (KX : K.In h) (hi : findIn K (.ref C) "__init__" = some (some (.ref fI))) (hf : typeIn K (.ref fI) = some (.type "function"))
    (hC : h.get? C = some (excClassObj nm q C N bs bm hdct sn sub ab col dd k0 k1 k2 k3 k5 newId))
    (hq : ∀ h' e, Heap.MadeExcOf h h' e (.ref C) rest → wpAny (model prog w) A (call (.ref fI) (.ref e :: rest)) (fun r s' => r = .none ∧ Q (.done (.ret (.ref e))) s') E ⟨h', g, d, t, os⟩) (hrest : rest.length ≤ sizeLine) :
    wpAny (model prog w) A (Builtin.«type.__call__» ⟨.ref C :: rest, []⟩) Q E ⟨h, g, d, t, os⟩ := by
  repeat (first | with_reducible refine wpAny_loadPart_at hC ?_ | with_reducible refine wpAny_madeBy_exc hC ?_ | wp_step)
  refine codeAny_call_builtin_code (Code.quiet_builtin _ Fn.quiet) (check_newX Fn hcB hC ?_)
  refine exc_newX Fn hcB hcA hcN hC ?_ hrest
  show wpAny _ _ _ _ _ _
  have hC₁ := Heap.get?_push_of_some { cls := .ref C, data := .fields #[.ref h.objs.size, .none, .none, .none, .bool false, .none] }
    (Heap.get?_push_of_some { cls := .type "tuple", data := .seq rest.toArray } hC)
  have hget : ((h.push { cls := .type "tuple", data := .seq rest.toArray }).push
      { cls := .ref C, data := .fields #[.ref h.objs.size, .none, .none, .none, .bool false, .none] }).get? (h.objs.size + 1) = some
      { cls := .ref C, data := .fields #[.ref h.objs.size, .none, .none, .none, .bool false, .none] } := by heap_get
  have hcC : (Value.ref C :: bm).contains (.ref C) = true := by simp
  have kk : ∀ b o, h.get? b = some o → ((h.push { cls := .type "tuple", data := .seq rest.toArray }).push { cls := .ref C, data := .fields #[.ref h.objs.size, .none, .none, .none, .bool false, .none] }).get? b = some o := fun b o e => Heap.get?_push_of_some _ (Heap.get?_push_of_some _ e)
  have KX₁ := KX.keeps kk
  unfold isInstance
  repeat (first | with_reducible refine wpAny_loadPart_at hget ?_ | (with_reducible refine wpAny_isSubtype_exc hC₁ ?_; rw [hcC]) | wp_step)
  show wpAny _ _ (typeLookup (.ref C) _) _ _ _
  refine (looks_findIn KX₁ hi) _ _ _ _ (fun _ _ e => e) ?_
  refine wpAny_holding (wpAny_bind ?_)
  refine (bind_fn KX₁ _ hf) _ _ _ _ (fun _ _ e => e) ?_
  refine wpAny_bind (wpAny_mono (hq _ (h.objs.size + 1) ⟨fun b o hb => kk b o hb, Heap.get?_none_of_le (Nat.le_succ _), h.objs.size, hget, Heap.get?_none_of_le (Nat.le_refl _), ?_⟩) (fun r s' hr => ?_) fun _ _ x => x)
  · exact Heap.get?_push_of_some _ (Heap.get?_push_at rfl rfl)
  · obtain ⟨rfl, hQ⟩ := hr
    wp_walk
    exact hQ

theorem call_X {K : Frag} (Fn : ExcBaseFacts Bn newId inN bmN) (hcB : (Value.ref C :: bm).contains (.type Bn) = true) (hcA : (Value.ref C :: bm).contains (.type "AttributeError") = false) (hcN : (Value.ref C :: bm).contains (.type "NameError") = false)
    {rest : List Value} {fI : Addr} {Q : Value → Shared → Prop} (KX : K.In h) (hi : findIn K (.ref C) "__init__" = some (some (.ref fI))) (hf : typeIn K (.ref fI) = some (.type "function"))
    (hC : h.get? C = some (excClassObj nm q C N bs bm hdct sn sub ab col dd k0 k1 k2 k3 k5 newId))
    (hq : ∀ h' e, Heap.MadeExcOf h h' e (.ref C) rest → wpAny (model prog w) (A.under (.builtin "type.__call__" ⟨.ref C :: rest, []⟩)) (call (.ref fI) (.ref e :: rest)) (fun r s' => r = .none ∧ Q (.ref e) s') E ⟨h', g, d, t, os⟩) (hrest : rest.length ≤ sizeLine) :
    wpAny (model prog w) A (call (.ref C) rest) Q E ⟨h, g, d, t, os⟩ := by
  have f1 := tc_lookup
  have f2 := tc_bind (.ref C)
  have hT : (⟨h, g, d, t, os⟩ : Shared).TypeIs (.ref C) "type" := ⟨_, hC, rfl⟩
  refine wpAny_call (codeAny_of_tree ?_)
  show wpAny _ _ (callAny (.ref C) _) _ _ _
  repeat (any_goals (first | assumption | with_reducible refine wpAny_loadPart_at hC ?_ | wp_step))
  refine ⟨rfl, ?_⟩
  refine codeAny_call_builtin_at (Code.quiet_builtin _ (by decide +kernel)) entry_typeCall (wpAny_check_type_call_sub hC (type_call_X Fn hcB hcA hcN KX hi hf hC (fun h' e hm => ?_) hrest))
  exact hq h' e hm
end
end
section
open PySem.SeqAt
set_option genCtorIdx false
set_option genSizeOf false
set_option genInjectivity false
set_option maxRecDepth 100000

abbrev exPs : List Str := ["self", "text"]
noncomputable def seqO (o : Obj) : Option (Array Value × Nat) := match o.data with | .seq its n => some (its, n) | _ => none
noncomputable def refO (v : Value) : Option Addr := match v with | .ref T => some T | _ => none
noncomputable def clsO (o : Obj) : Option ClassData := match o.data with | .cls cd => some cd | _ => none
theorem seqO_inv {o : Obj} {x} (h : seqO o = some x) : o.data = .seq x.1 x.2 := by
  obtain ⟨c, d, dt, sl⟩ := o
  cases dt <;> first | (cases Option.some.inj h; rfl) | cases h
theorem clsO_inv {o : Obj} {x} (h : clsO o = some x) : o.data = .cls x := by
  obtain ⟨c, d, dt, sl⟩ := o
  cases dt <;> first | (cases Option.some.inj h; rfl) | cases h
theorem refO_inv {v : Value} {T} (h : refO v = some T) : v = .ref T := by cases v <;> first | (cases Option.some.inj h; rfl) | cases h

structure EntD (K : Frag) (fd : FuncData) : Prop where
  code : codeIn K fd.code fd.qualname = true
  kind : fd.scope.kind = .function
  co : fd.scope.isCoroutine = false
  gen : fd.scope.isGenerator = false
  cell : ∀ x ∈ fd.scope.names, x.2 ≠ .cell
  po : fd.params.posonlyargs = []
  ko : fd.params.kwonlyargs = []
  va : fd.params.vararg = none
  ka : fd.params.kwarg = none
  args : fd.params.args.map (·.arg) = exPs
  dflt : ∃ T o its, fd.defaults = .ref T ∧ K.lookup T = some o ∧ seqO o = some its ∧ its.1.size = 1
  gl : fd.globals = mainGlobals
  cl : fd.closure = []
  bu : fd.builtins = builtinsNs
  loc : ∀ x ∈ exPs, fd.scope.names.lookup x = some .local
noncomputable def entDB (K : Frag) (fd : FuncData) : Bool :=
  codeIn K fd.code fd.qualname && fd.scope.kind == .function && !fd.scope.isCoroutine && !fd.scope.isGenerator && fd.scope.names.all (fun x => x.2 != .cell) &&
    fd.params.posonlyargs.isEmpty && fd.params.kwonlyargs.isEmpty && fd.params.vararg.isNone && fd.params.kwarg.isNone && fd.params.args.map (·.arg) == exPs &&
    bO (refO fd.defaults) (fun T => bO (K.lookup T) fun o => bO (seqO o) fun its => its.1.size == 1) &&
    fd.globals == mainGlobals && fd.closure.isEmpty && fd.builtins == builtinsNs && exPs.all (fun x => fd.scope.names.lookup x == some .local)
theorem entD_of {K : Frag} {fd : FuncData} (h : entDB K fd = true) : EntD K fd :=
  have a := bAnd h; have b := bAnd a.1; have c := bAnd b.1; have d := bAnd c.1; have e := bAnd d.1; have f := bAnd e.1; have g := bAnd f.1; have i := bAnd g.1; have j := bAnd i.1; have k := bAnd j.1; have l := bAnd k.1
  have m := bAnd l.1; have n := bAnd m.1; have o := bAnd n.1
  ⟨o.1, beq_iff_eq.mp o.2, notT n.2, notT m.2, fun x hx => bne_iff_ne.mp (List.all_eq_true.mp l.2 x hx), List.isEmpty_iff.mp k.2, List.isEmpty_iff.mp j.2, Option.isNone_iff_eq_none.mp i.2, Option.isNone_iff_eq_none.mp g.2, beq_iff_eq.mp f.2,
    by
      obtain ⟨T, e1, q⟩ := bO_inv e.2
      obtain ⟨o, e2, q⟩ := bO_inv q
      obtain ⟨its, e3, q⟩ := bO_inv q
      exact ⟨T, o, its, refO_inv e1, e2, e3, beq_iff_eq.mp q⟩, beq_iff_eq.mp d.2, List.isEmpty_iff.mp c.2, beq_iff_eq.mp b.2, fun x hx => beq_iff_eq.mp (List.all_eq_true.mp a.2 x hx)⟩

theorem one_size {its : Array Value} (h : its.size = 1) : ∃ v, its = #[v] := by
  obtain ⟨l⟩ := its
  obtain ⟨v, e⟩ := List.length_eq_one_iff.mp h
  exact ⟨v, e ▸ rfl⟩
theorem args2 {l : List Arg} (h : l.map (·.arg) = exPs) : ∃ a b p q, l = [⟨"self", a, p⟩, ⟨"text", b, q⟩] := by
  obtain ⟨⟨_, a, p⟩, l1, rfl, rfl, h1⟩ := List.map_eq_cons_iff.mp h
  obtain ⟨⟨_, b, q⟩, l2, rfl, rfl, h2⟩ := List.map_eq_cons_iff.mp h1
  cases List.map_eq_nil_iff.mp h2
  exact ⟨a, b, p, q, rfl⟩
theorem binds_dflt {K : Frag} {s : Shared} {fd : FuncData} {v0 v1 : Value} (KX : K.In s.heap) (e : EntD K fd) : BindsTo s fd ⟨[v0, v1], []⟩ [("self", v0), ("text", v1)] := by
  obtain ⟨T, o, its, hd, hk, hs, hz⟩ := e.dflt
  obtain ⟨a, b, p, q, ha⟩ := args2 e.args
  have h1 := e.po; have h2 := e.ko; have h3 := e.va; have h4 := e.ka
  clear e
  obtain ⟨n, qn, ⟨po, args, va, ko, kd, ka, df⟩, bd, sc, g, cl, dd, kdd, doc, pm, an, co, ct, bi⟩ := fd
  cases h1; cases h2; cases h3; cases h4; cases ha
  obtain ⟨v, hv⟩ := one_size hz
  exact BindsTo.of_defaults hd (KX _ _ hk) (seqO_inv hs) rfl (by rw [hv]; rfl)

noncomputable def selfB (t : Expr) (f : Str → Bool) : Bool := xAttr t fun o a _ => (xName o fun s _ => s == ("self" : Str)) && f a
@[elab_as_elim] theorem selfB_el {t : Expr} {f} {P : Expr → Prop} (h : selfB t f = true) (H : ∀ p a q, f a = true → P (.Attribute (.Name ("self" : Str) p) a q)) : P t :=
  xAttr_el h fun o a q h => xName_el (P := fun o => P (.Attribute o a q)) (bAnd h).1 fun s p hs => by cases (beq_iff_eq.mp hs : s = _); exact H p a q (bAnd h).2
noncomputable def intC (c : Const) : Bool := match c with | .int _ => true | _ => false
@[elab_as_elim] theorem intC_el {c : Const} {P : Const → Prop} (h : intC c = true) (H : ∀ i, P (.int i)) : P c := by cases c <;> first | exact H _ | exact absurd h Bool.false_ne_true
noncomputable def selfAsg (s : Stmt) (f : Str → Expr → Bool) : Bool := yAsg s fun ts v _ => b1 ts fun t => selfB t fun a => f a v
@[elab_as_elim] theorem selfAsg_el {s : Stmt} {f} {P : Stmt → Prop} (h : selfAsg s f = true) (H : ∀ p a q v r, f a v = true → P (.Assign [.Attribute (.Name ("self" : Str) p) a q] v r)) : P s :=
  yAsg_el h fun ts v r h => b1_el (P := fun ts => P (.Assign ts v r)) h fun t h => selfB_el (P := fun t => P (.Assign [t] v r)) h fun p a q h => H p a q v r h
noncomputable def exInit (K : Frag) (C : Addr) (ss : List Stmt) : Bool := b2 ss fun s1 s2 => selfAsg s1 (fun a v => exOk K C a && xConst v fun c _ _ => intC c) && selfAsg s2 fun a v => exOk K C a && xName v fun x _ => x == ("text" : Str)

inductive XObj (h : Heap) (C : Addr) : Prop where
  | mk (bm : List Value) (N : Addr) (nm q : Str) (bs : List Value) (hdct : Bool) (sn : List Str) (sub : List Value) (ab : Bool) (col : Option Bool) (dd : Option Addr) (k0 k1 k2 k3 k5 : Option Value)
      (obj : h.get? C = some (excClassObj nm q C N bs bm hdct sn sub ab col dd k0 k1 k2 k3 k5 "Exception.__new__")) (c1 : bm.contains (.type "Exception") = true) (c2 : bm.contains (.type "BaseException") = true)
      (c3 : bm.contains (.type "AttributeError") = false) (c4 : bm.contains (.type "NameError") = false) : XObj h C
noncomputable def exObjB (C : Addr) (o : Obj) : Bool := o.cls == .type "type" && bO (clsO o) fun cd => !cd.hasDel && (bC cd.mro fun v bm => v == .ref C && bm.contains (.type "Exception") && bm.contains (.type "BaseException") && !bm.contains (.type "AttributeError") && !bm.contains (.type "NameError")) &&
  bC o.slots.toList fun _ l => bC l fun _ l => bC l fun _ l => bC l fun _ l => b2 l fun k _ => k == some (.builtin "Exception.__new__")
theorem xobj_of {C : Addr} {o : Obj} {h : Heap} (e : h.get? C = some o) (q : exObjB C o = true) : XObj h C := by
  obtain ⟨cl, dd, dt, ⟨sl⟩⟩ := o
  obtain ⟨q1, q⟩ := bAnd q
  cases (beq_iff_eq.mp q1 : cl = _)
  obtain ⟨cd, e1, q⟩ := bO_inv q
  cases clsO_inv e1
  obtain ⟨q, qs⟩ := bAnd q
  obtain ⟨qd, qm⟩ := bAnd q
  obtain ⟨nm, bs, mro, ns, qn, hd, sn, sub, ab, col, del⟩ := cd
  cases notT qd
  clear q e1
  revert qm e
  refine bC_el (P := fun sl => h.get? C = some ⟨_, dd, _, ⟨sl⟩⟩ → _ → XObj h C) qs fun k0 l q => bC_el (P := fun l => h.get? C = some ⟨_, dd, _, ⟨k0 :: l⟩⟩ → _ → XObj h C) q fun k1 l q => bC_el (P := fun l => h.get? C = some ⟨_, dd, _, ⟨k0 :: k1 :: l⟩⟩ → _ → XObj h C) q fun k2 l q =>
    bC_el (P := fun l => h.get? C = some ⟨_, dd, _, ⟨k0 :: k1 :: k2 :: l⟩⟩ → _ → XObj h C) q fun k3 l q => b2_el (P := fun l => h.get? C = some ⟨_, dd, _, ⟨k0 :: k1 :: k2 :: k3 :: l⟩⟩ → _ → XObj h C) q fun k4 k5 q e qm => ?_
  cases (beq_iff_eq.mp q : k4 = _)
  revert e
  refine bC_el (P := fun mro => h.get? C = some ⟨_, dd, .cls ⟨nm, bs, mro, ns, qn, hd, sn, sub, ab, col, false⟩, _⟩ → XObj h C) qm fun v bm qm e => ?_
  have a := bAnd qm; have b := bAnd a.1; have c := bAnd b.1; have d := bAnd c.1
  cases (beq_iff_eq.mp d.1 : v = _)
  exact ⟨bm, ns, nm, qn, bs, hd, sn, sub, ab, col, dd, k0, k1, k2, k3, k5, e, d.2, c.2, notT b.2, notT a.2⟩

noncomputable def exB (K : Frag) (C fI : Addr) : Bool :=
  bO (K.lookup C) (exObjB C) && keepIn K (.ref C) && findIn K (.ref C) "__init__" == some (some (.ref fI)) && typeIn K (.ref fI) == some (.type "function") &&
  bO (fdOf K fI) fun fd => entDB K fd && bO (bodyOf fd) (exInit K C)
structure ExCls (K : Frag) (C fI : Addr) (h : Heap) : Prop where
  obj : XObj h C
  keep : keepIn K (.ref C) = true
  init : findIn K (.ref C) "__init__" = some (some (.ref fI))
  fn : typeIn K (.ref fI) = some (.type "function")
  fd : ∃ fd body, fdOf K fI = some fd ∧ EntD K fd ∧ bodyOf fd = some body ∧ exInit K C body = true
theorem exCls_of {K : Frag} {C fI : Addr} {h : Heap} (X : K.In h) (q : exB K C fI = true) : ExCls K C fI h := by
  have a := bAnd q; have b := bAnd a.1; have c := bAnd b.1; have d := bAnd c.1
  obtain ⟨o, ho, qo⟩ := bO_inv d.1
  obtain ⟨fd, hf, qf⟩ := bO_inv a.2
  obtain ⟨b', hb, qb⟩ := bO_inv (bAnd qf).2
  exact ⟨xobj_of (X _ _ ho) qo, d.2, beq_iff_eq.mp c.2, beq_iff_eq.mp b.2, fd, b', hf, entD_of (bAnd qf).1, hb, qb⟩
end
section
open PySem.SeqAt
set_option maxRecDepth 100000

theorem callEnvD_eq {K : Frag} {fd : FuncData} (e : EntD K fd) (L a : Addr) : callEnv fd L a = envOf fd.qualname fd.scope L a fd.code := by
  unfold callEnv newEnv envOf
  rw [e.gl, e.cl, e.bu]
section
variable {prog : Program} {w : World} {A : Around} {s : Shared} {E : Value → Shared → Prop}
theorem exc_rows {K : Frag} {C a e L : Addr} {qn : Str} {cd : Value} {sc : Scope} {body : List Stmt} {v : Value} {vs : Array Value} {sl : Array (Option Value)} {h₀ : Heap} {m : Str → Option Value} {Q : Flow → Shared → Prop} (KX : K.In h₀) (hk : sc.kind = .function) (hl : ∀ x ∈ exPs, sc.names.lookup x = some .local)
    (hi : exInit K C body = true) (hobj : h₀.get? e = some ⟨.ref C, none, .fields vs, sl⟩) (hK : K.lookup e = none) (N0 : h₀.Ns L m) (m0 : m "self" = some (.ref e)) (m1 : m "text" = some v) (hLe : L ≠ e) (hs : s.heap = h₀)
    (h : ∀ h' tk D, h'.get? e = some ⟨.ref C, some D, .fields vs, sl⟩ → h₀.get? D = none → (∀ b o, b ≠ e → b ≠ D → h₀.get? b = some o → h'.get? b = some o) → Q .next { s with heap := h', toks := tk }) :
    wpAny (model prog w) A (execs body (envOf qn sc L a cd)) Q E s := by
  subst hs
  have self1 : ∀ (E₁ : Value → Shared → Prop) (s' : Shared) (Q₁ : Value → Shared → Prop) (pos : Pos), s'.heap.Ns L m → Q₁ (.ref e) s' → wpAny (model prog w) A (eval (.Name ("self" : Str) pos) (envOf qn sc L a cd)) Q₁ E₁ s' := fun E₁ s' Q₁ pos N q =>
    wpAny_Name (wpAny_loadName_local hk (hl _ (.head _)) N m0 q) (by decide)
  refine b2_el (P := fun body => wpAny _ _ (execs body _) _ _ s) hi fun s1 s2 hi => ?_
  refine selfAsg_el (P := fun s1 => wpAny _ _ (execs [s1, s2] _) _ _ s) (bAnd hi).1 fun p1 a1 q1 v1 r1 g1 => selfAsg_el (P := fun s2 => wpAny _ _ (execs [_, s2] _) _ _ s) (bAnd hi).2 fun p2 a2 q2 v2 r2 g2 => ?_
  refine xConst_el (P := fun v1 => wpAny _ _ (execs [.Assign _ v1 r1, _] _) _ _ s) (bAnd g1).2 fun c kk cp g => intC_el (P := fun c => wpAny _ _ (execs [.Assign _ (.Constant c kk cp) r1, _] _) _ _ s) g fun i => xName_el (P := fun v2 => wpAny _ _ (execs [_, .Assign _ v2 r2] _) _ _ s) (bAnd g2).2 fun x xp g => ?_
  cases (beq_iff_eq.mp g : x = _)
  refine wpAny_execs_cons (plainObj_wpAny_Assign_Attribute (wpAny_Constant_int (self1 _ _ _ _ N0 ?_)) rfl)
  refine excSet1 KX (bAnd g1).1 hobj fun h1 tk1 D f he1 ND zD nD k1 => ?_
  have N1 : h1.Ns L m := by obtain ⟨o, es, ep, ho, r⟩ := N0; exact ⟨o, es, ep, k1 _ _ hLe ho, r⟩
  have KX1 : K.In h1 := fun b o hbo => k1 _ _ (fun q => by rw [q, hK] at hbo; cases hbo) (KX _ _ hbo)
  refine wpAny_execs_cons (plainObj_wpAny_Assign_Attribute (wpAny_Name (wpAny_loadName_local hk (hl _ (.tail _ (.head _))) N1 m1 (self1 _ _ _ _ N1 ?_)) (by decide)) rfl)
  exact excSet2 KX1 (bAnd g2).1 he1 ND zD (by decide) fun h2 tk2 f2 ND2 sb => wpAny_execs_nil (h _ _ D ((sb.2 _ fun q => by rw [← q, hobj] at nD; cases nD).trans he1) nD fun b o hbe hbD hbo => (sb.2 _ hbD).trans (k1 _ _ hbe hbo))
theorem exc_init {K : Frag} {C fI e : Addr} {fd : FuncData} {body : List Stmt} {v : Value} {vs : Array Value} {sl : Array (Option Value)} {Q : Value → Shared → Prop} (KX : K.In s.heap) (hlim : s.heap.NoLimit) (hroom : A.depth < recursionLimit) (hf : fdOf K fI = some fd) (he : EntD K fd) (hb : bodyOf fd = some body)
    (hi : exInit K C body = true) (hobj : s.heap.get? e = some ⟨.ref C, none, .fields vs, sl⟩) (hK : K.lookup e = none)
    (h : ∀ h' tk D, h'.get? e = some ⟨.ref C, some D, .fields vs, sl⟩ → (∀ b o, b ≠ e → s.heap.get? b = some o → h'.get? b = some o) → Q .none { s with heap := h', toks := tk }) :
    wpAny (model prog w) A (call (.ref fI) [.ref e, v]) Q E s := by
  obtain ⟨⟨oc, od, dt, osl⟩, hk, hf⟩ := Option.bind_eq_some_iff.mp hf
  cases fdO_inv hf
  refine wpAny_call (codeAny_call_def hroom (KX _ _ hk) rfl hlim (codeRec_of KX he.code) (bodyOf_inv hb) (binds_dflt KX he) he.cell (fun x hx => ?_) (fun h₀ N0 k0 => ?_) he.co he.gen he.kind)
  · rcases List.mem_cons.mp hx with rfl | hx
    · exact he.loc _ (.head _)
    · rw [List.mem_singleton.mp hx]; exact he.loc _ (.tail _ (.head _))
  · rw [callEnvD_eq he]
    exact exc_rows (h₀ := h₀) (KX.keeps k0) he.kind he.loc hi (k0 _ _ hobj) hK N0 rfl rfl (Nat.ne_of_gt (Heap.lt_size hobj)) rfl fun h' tk D h1 hD k => h h' tk D h1 fun b o hbe hbo => k b o hbe (fun q => by rw [← q, k0 _ _ hbo] at hD; cases hD) (k0 _ _ hbo)

theorem raise_X {env : Env} {x : Sem Value} {C N : Addr} {nm q : Str} {bs bm : List Value} {hdct : Bool} {sn : List Str} {sub : List Value} {ab : Bool} {col : Option Bool} {dd : Option Addr} {k0 k1 k2 k3 k5 : Option Value} {newId : String} {Q : Flow → Shared → Prop} (hbase : bm.contains (.type "BaseException") = true) (hh : A.handled = none)
    (h : wpAny (model prog w) A x (fun v s₁ => ∃ e D t sl, v = .ref e ∧ s₁.heap.get? C = some (excClassObj nm q C N bs bm hdct sn sub ab col dd k0 k1 k2 k3 k5 newId) ∧ s₁.heap.get? e = some ⟨.ref C, D, .fields #[.ref t, .none, .none, .none, .bool false, .none], sl⟩ ∧ E (.ref e) s₁) E s) :
    wpAny (model prog w) A (raiseStmt env (some x) none) Q E s := by
  have hcB : (Value.ref C :: bm).contains (.type "BaseException") = true := by rw [List.contains_cons, hbase, Bool.or_true]
  unfold raiseStmt
  refine wpAny_bind (wpAny_mono h (fun v s₁ h₁ => ?_) fun _ _ x => x)
  obtain ⟨e, D, t, sl, rfl, hC, he, hE⟩ := h₁
  obtain ⟨hp, g, d, tk, os⟩ := s₁
  repeat (first | with_reducible refine wpAny_loadPart_at he ?_ | with_reducible refine wpAny_loadPart_at hC ?_ | (with_reducible refine wpAny_isSubtype_exc hC ?_; rw [hcB]) | wp_step)
  exact wpAny_raiseNew_none hh hE
end
end
section
open PySem.SeqAt
set_option maxRecDepth 100000

noncomputable def ExcOk (X : Cx) : Prop := ∃ exI : Nat → Addr, ∀ c, X.B.nCl ≤ c → ktsB X.K (X.B.clN c) (.ref (X.B.clsA c)) = true ∧ exB X.K (X.B.clsA c) (exI c) = true

section
variable {X : Cx} {fr : Fm} {m : Str → Option Value} {loc : Loc} {lay : Lay} {σ : Sto} {s : Shared} {A : Around} {C : Calls} {n : Nat} {E : Value → Shared → Prop}

theorem exc_call (O : X.Ok) (r : RoomB A fr.envs n) (S : St X fr m loc lay σ s) {Cl fI : Addr} {t : Tx} {v : Value} (EC : ExCls X.K Cl fI s.heap) (R : Rep X s.heap lay fr.ban (.str t) v) {Q : Value → Shared → Prop}
    (h : ∀ s' e D tt, St X fr m loc lay σ s' → Evo fr.ban (some fr.L) lay lay s.heap s'.heap → s.heap.get? e = none → s'.heap.get? e = some ⟨.ref Cl, some D, .fields #[.ref tt, .none, .none, .none, .bool false, .none], #[]⟩ → Q (.ref e) s') :
    wpAny (model X.prog X.w) A (call (.ref Cl) [v]) Q E s := by
  obtain ⟨bm, N, nm, q, bs, hdct, sn, sub, ab, col, dd, k0, k1, k2, k3, k5, hC, c1, c2, c3, c4⟩ := EC.obj
  obtain ⟨fd, body, hf, he, hb, hi⟩ := EC.fd
  refine call_X (h := s.heap) (g := s.gens) (d := s.drawn) (t := s.toks) (os := s.os) PySem.F.excBase_Exception (by rw [List.contains_cons, c1, Bool.or_true]) (by rw [List.contains_cons, c3]; rfl) (by rw [List.contains_cons, c4]; rfl) (S.KX O) EC.init EC.fn hC (fun h' e hm => ?_) (show 1 ≤ sizeLine by decide)
  obtain ⟨tt, hobj, htn, htup⟩ := hm.there
  have hK : X.K.lookup e = none := by
    cases q : X.K.lookup e with
    | none => rfl
    | some o => have := S.KX O _ _ q; rw [hm.new] at this; cases this
  have hd : A.depth + 1 < recursionLimit := by have := r.depth; lia
  refine exc_init (s := ⟨h', s.gens, s.drawn, s.toks, s.os⟩) ((S.KX O).keeps hm.keeps) (O.top.nolimit.keeps fun b o e => hm.keeps _ _ (S.g.stays _ _ e)) hd hf he hb hi hobj hK fun h'' tk' D he' keep => ⟨rfl, ?_⟩
  have kk : ∀ b o, s.heap.get? b = some o → h''.get? b = some o := fun b o e1 => keep _ _ (fun q => by rw [q, hm.new] at e1; cases e1) (hm.keeps _ _ e1)
  obtain ⟨S', E'⟩ := S.stepK (s' := ⟨h'', s.gens, s.drawn, tk', s.os⟩) (by obtain ⟨o, es, ep, ho, r⟩ := S.ns; exact ⟨o, es, ep, kk _ _ ho, r⟩) (fun b o _ e1 => kk _ _ e1) rfl rfl
  exact h _ e D tt S' E' hm.new he'

theorem ex_raise (c : Ctx0 X fr A C n) (XO : ExcOk X) {cn : Nat} {es : CE} {st : Stmt} (h : agS X.B fr.scope fr.nm (.raise cn es) st = true) : ExS X fr A C false (.raise cn es) st := yRaise_el (P := ExS X fr A C false (.raise cn es)) h fun y cc pos h => by
  obtain ⟨hz, h⟩ := bAnd h
  cases Option.isNone_iff_eq_none.mp hz
  obtain ⟨y, rfl, h⟩ := bO_inv h
  refine xCallN_el (P := fun y => ExS X fr A C false (.raise cn es) (.Raise (some y) none pos)) h fun id vs ip cpos h => ?_
  obtain ⟨h, hl⟩ := bAnd h
  obtain ⟨h, hcn⟩ := bAnd h
  cases (beq_iff_eq.mp (bAnd h).1 : id = _)
  have hg := (bAnd h).2
  obtain ⟨exI, hex⟩ := XO
  obtain ⟨hk, hb⟩ := hex cn (of_decide_eq_true hcn)
  intro m loc lay σ s K x S hx
  have EC0 := exCls_of c.O.KX hb
  obtain ⟨bm, N, nm, q, bs, hdct, sn, sub, ab, col, dd, k0, k1, k2, k3, k5, hC, c1, c2, c3, c4⟩ := EC0.obj
  rw [arm_exec_Raise]
  refine wpAny_bind (wpAny_standAt (raise_X (C := X.B.clsA cn) (nm := nm) (q := q) (N := N) (bs := bs) (bm := bm) (hdct := hdct) (sn := sn) (sub := sub) (ab := ab) (col := col) (dd := dd) (k0 := k0) (k1 := k1) (k2 := k2) (k3 := k3) (k5 := k5) (newId := "Exception.__new__") c2 c.r.handled
    (wpAny_bind (wpAny_mono (Call_Name (name_sound c.O c.FO S hg hk (callK EC0.keep (any_plain hl) (wpAny_mono (((c.l es m loc) _ hl).l.use S Evo.refl hx fun us l lay₁ σ₁ s₁ S₁ E₁ _ R₁ hk2 => ?_) (fun _ _ q => q) fun _ _ q => q.sx)))) (fun v s₃ h₃ => wpAny_bind (wpAny_standAt (wpAny_pure h₃))) fun _ _ z => z))))
  obtain ⟨d, rfl, hk2⟩ := on1_inv (show on1 l _ from hk2)
  obtain ⟨tx, rfl, hk2⟩ := onS_inv hk2
  exact R₁.one fun u R0 => ⟨S₁.KX c.O, exc_call c.O c.r S₁ (exCls_of (S₁.KX c.O) hb) R0 fun s₂ e D tt S₂ E₂ hn he =>
    ⟨e, some D, tt, _, rfl, S₂.g.stays _ _ hC, he, cn, σ₁, lay₁, S₂.g, E₁.trans E₂, .inr ⟨rfl, .inr ⟨e, _, _, _, rfl, E₁.gone hn, he, rfl, rfl, rfl, rfl⟩⟩, hk2⟩⟩
end
end
section
open PySem.SeqAt
section
variable {X : Cx} {fr : Fm} {m : Str → Option Value} {loc : Loc} {lay lay₀ : Lay} {σ : Sto} {s : Shared} {A : Around} {M : Model} {h₀ : Heap} {c : Nat} {v : Value} {EE : Value → Shared → Prop}

noncomputable def AirE (X : Cx) (h₀ : Heap) (c : Nat) (v y : Value) (h : Heap) : Prop := ∃ e a0, v = .ref e ∧ h₀.get? e = none ∧ h.TracedAtW h₀ e (.ref (X.B.clsA c)) a0 y

theorem fly_sound (hb : X.base.StaysIn h₀) {y : Value} {fl : Option Addr} (S : St X fr m loc lay σ s) (E : Evo fr.ban (some fr.L) lay₀ lay h₀ s.heap) (T : AirE X h₀ c v y s.heap) {P : Unit → Shared → Prop}
    (hP : ∀ h', St X fr m loc lay σ { s with heap := h' } → Evo fr.ban (some fr.L) lay₀ lay h₀ h' → AirE X h₀ c v (fl.elim Value.none fun f => rawInt f) h' → P () { s with heap := h' }) : wpAny M A (setFlight v fl) P EE s := by
  obtain ⟨e, a0, rfl, hn, oe, vs, T, oT, ts, he, hc, hd, h1, hT, hTe, hgT, hdT, h3⟩ := T
  have hsz3 : 3 < ts.size := (Array.getElem?_eq_some_iff.mp h3).1
  unfold setFlight
  refine wpAny_bind (wpAny_field he hd h1 ?_)
  rw [if_pos (show (Value.ref T != Value.none) = true from rfl)]
  have other : ∀ f b, b ≠ T → (s.heap.update T f).get? b = s.heap.get? b := fun f b hb => Heap.get?_update_other _ _ (Ne.symm hb)
  have keep : ∀ f b o, b ∉ [e, T] → b ∉ banOf fr.envs → s.heap.get? b = some o → (s.heap.update T f).get? b = some o := fun f b o n1 _ e => (other f b (fun q => n1 (q ▸ .tail _ (.head _)))).trans e
  have up : ∀ f, s.heap.UpToSlots (s.heap.update T f) := fun f b o e n => ⟨o.slots, (other f b fun q => by
    subst q; rw [hgT] at e; cases e; exact n ts hdT).trans e⟩
  exact wpAny_setField hgT hdT hsz3 (hP _ (S.exc (tk := s.toks) (bad2 he hd hgT hdT) (fun b hb' => base_none hb (new2 hn hT b hb')) (keep _) (up _)) (Evo.exc S.g E (new2 hn hT) (keep _) (up _))
    ⟨e, a0, rfl, hn, oe, vs, T, _, _, (other _ e (Ne.symm hTe)).trans he, hc, hd, h1, hT, hTe, Heap.get?_update_self _ hgT (Obj.isFreed_of_fields (Obj.data_mapFields hdT _)), Obj.data_mapFields hdT _, Array.getElem?_setIfInBounds_self_of_lt hsz3⟩)
end
end
section
open PySem.SeqAt
section
variable {X : Cx} {fr : Fm} {m : Str → Option Value} {loc : Loc} {lay lay₀ : Lay} {σ : Sto} {s : Shared} {A : Around} {M : Model} {h₀ : Heap} {c : Nat} {v : Value} {EE : Value → Shared → Prop}

theorem note_sound (hfr : A.frames = some fr.envs) (hb : X.base.StaysIn h₀) (S : St X fr m loc lay σ s) (E : Evo fr.ban (some fr.L) lay₀ lay h₀ s.heap) (T : Traced X h₀ c v s.heap) {P : Unit → Shared → Prop}
    (hP : ∀ h', St X fr m loc lay σ { s with heap := h' } → Evo fr.ban (some fr.L) lay₀ lay h₀ h' → AirE X h₀ c v (rawInt fr.L) h' → P () { s with heap := h' }) : wpAny M A (noteFrame v fr.env) P EE s := by
  obtain ⟨e, a0, rfl, hn, oe, vs, T, oT, ts, he, hc, hd, h1, hT, hTe, hgT, hdT, h3⟩ := T
  refine wpAny_looks_onW (base := hid s.heap [e, T] fr.envs) (outer := fr.outer) (L := fr.L) (cls := .ref (X.B.clsA c)) (a0 := a0) hfr rfl ⟨fun b o => hid_of, hid_none (.head _), frames_hide S.g _, oe, vs, T, oT, ts, he, hc, hd, h1, hid_none (.tail _ (.head _)), hTe, hgT, hdT, h3⟩ fun h' hh up => ?_
  obtain ⟨k1, k2, k3, oe', vs', T', oT', ts', he', hc', hd', h1', hT', r1, hgT', hdT', r2⟩ := hh
  exact hP h' (S.exc (tk := s.toks) (bad2 he hd hgT hdT) (fun b hb' => base_none hb (new2 hn hT b hb')) (hid_keep k1) up) (E.exc S.g (new2 hn hT) (hid_keep k1) up) ⟨e, a0, rfl, hn, oe', vs', T', oT', ts', he', hc', hd', h1', hid_new S.g E (new2 hn hT) up hT' hgT' hdT', r1, hgT', hdT', r2⟩

theorem again_sound (T : AirE X h₀ c v (rawInt fr.L) s.heap) {P : Unit → Shared → Prop} (hP : P () s) : wpAny M A (noteFrame v fr.env) P EE s := by
  obtain ⟨e, a0, rfl, hn, T⟩ := T
  exact wpAny_noteFrame_againW (L := fr.L) rfl T hP

theorem AirE.keep {y : Value} {s₁ : Shared} (S : St X fr m loc lay σ s) {lay' : Lay} (E : Evo fr.ban (some fr.L) lay lay' s.heap s₁.heap) (T : AirE X h₀ c v y s.heap) : AirE X h₀ c v y s₁.heap := by
  obtain ⟨e, a0, rfl, hn, oe, vs, T, oT, ts, he, hc, hd, h1, hT, hTe, hgT, hdT, h3⟩ := T
  exact ⟨e, a0, rfl, hn, oe, vs, T, oT, ts, E.keep e oe he (fieldsFree S.g ⟨_, _, he, hd⟩), hc, hd, h1, hT, hTe, E.keep T oT hgT (fieldsFree S.g ⟨_, _, hgT, hdT⟩), hdT, h3⟩

theorem AirE.ne_byPass {y : Value} {h : Heap} (T : AirE X h₀ c v y h) : v ≠ byPass := by
  obtain ⟨e, a0, rfl, _⟩ := T
  exact ref_ne_byPass e

theorem pass_sound {α : Type} (hb : X.base.StaysIn h₀) {y : Value} (S : St X fr m loc lay σ s) (E : Evo fr.ban (some fr.L) lay₀ lay h₀ s.heap) (T : AirE X h₀ c v y s.heap) {what : String} {P : α → Shared → Prop} {x : KX} (hx : x c σ)
    (hE : ∀ s', SXQ X fr false h₀ lay₀ x v s' → EE v s') : wpAny M A (PySem.passOn what v fr.env) P EE s := by
  have T' := T
  obtain ⟨e, a0, rfl, hn, oe, vs, Ta, oT, ts, he, hc, hd, h1, _⟩ := T'
  unfold PySem.passOn
  refine wpAny_bind (wpAny_field he hd h1 ?_)
  rw [if_neg (show ¬ (Value.ref Ta == Value.none) = true from Bool.false_ne_true)]
  refine wpAny_bind (fly_sound hb S E T fun h' S' E' T' => wpAny_throw (hE _ ⟨c, σ, lay, S'.g, E', .inr ⟨rfl, .inl ?_⟩, hx⟩))
  exact T'

theorem fin_sound {C : Calls} {F : Value → Shared → Prop} (O : X.Ok) (FO : fr.Ok) {a i : Nat} {o : BO} {d : D} {st : Stmt} (h : augB X.B fr.scope fr.nm (.loc a) i o (.lit d) st = true) (S : St X fr m loc lay σ s) {K : KF} {x : KX}
    (hx : ex X.B.tab C (.augA (.loc a) i o (.lit d)) loc σ K x) {P : Flow → Shared → Prop}
    (hP : ∀ σ' lay' s', St X fr m loc lay' σ' s' → Evo fr.ban (some fr.L) lay lay' s.heap s'.heap → K .next loc σ' → P .next s') :
    wpAny (model X.prog X.w) A (execs [st] fr.env) P F s := yAug_el (P := fun st => wpAny (model X.prog X.w) A (execs [st] fr.env) P F s) h fun t op v pos h =>
  xAttr_el (P := fun t => wpAny (model X.prog X.w) A (execs [.AugAssign t op v pos] fr.env) P F s) h fun ob y yp h => by
    obtain ⟨h, h2⟩ := bAnd h
    obtain ⟨h, h1⟩ := bAnd h
    obtain ⟨h, ho⟩ := bAnd h
    obtain ⟨h, hi⟩ := bAnd h
    cases (beq_iff_eq.mp h : y = _)
    cases (beq_iff_eq.mp ho : op = _)
    have hi := of_decide_eq_true hi
    refine xName_el (P := fun ob => wpAny (model X.prog X.w) A (execs [.AugAssign (.Attribute ob _ yp) _ v pos] fr.env) P F s) h1 fun id ip hid => ?_
    obtain ⟨od, hd, hx⟩ := onO_inv (show onO (loc.getD a none) _ from hx)
    refine wpAny_execs_cons (wpAny_AugAssign_AttributeAny (local_sound FO S (beq_iff_eq.mp hid) (loc_at hd) fun ov R₁ => ?_))
    refine wpAny_mono (attr_sound (k := fun d' σ' => inpP o d' d fun r => setAP σ' od i r fun σ₃ => K .next loc σ₃) O S hi R₁ hx) (fun u s₂ z => z.casesOn fun d' σ₂ lay₂ S₂ E₂ R₂ hk => ?_) fun _ _ q => q
    refine wpAny_mono (lit_sound (k := fun d'' σ' => inpP o d' d'' fun r => setAP σ' od i r fun σ₃ => K .next loc σ₃) S₂ h2 hk) (fun v s₃ z => z.casesOn fun d'' σ₃ lay₃ S₃ E₃ R₃ hk => ?_) fun _ _ q => q
    refine wpAny_mono (inp_sound (k := fun r σ => setAP σ od i r fun σ₃ => K .next loc σ₃) S₃ (R₂.evo E₃) R₃ hk) (fun r s₄ z => z.casesOn fun dr σ₄ lay₄ S₄ E₄ R₄ hk => ?_) fun _ _ q => q
    exact setA_sound O S₄ hi (((R₁.evo E₂).evo E₃).evo E₄) R₄ hk fun σ₅ s₅ S₅ E₅ hk => wpAny_execs_nil (hP σ₅ lay₄ s₅ S₅ (((E₂.trans E₃).trans E₄).trans E₅) hk)
end
end
section
open PySem.SeqAt
section
variable {X : Cx} {fr : Fm} {m : Str → Option Value} {loc : Loc} {lay lay₀ : Lay} {σ : Sto} {s : Shared} {A : Around} {C : Calls} {n : Nat} {h₀ : Heap}

theorem finB_inv {B : Tb} {sc : Scope} {nm : List Str} {f : CS} {g : Stmt} (h : finB B sc nm f g = true) : ∃ a n o d, f = .cons (.augA (.loc a) n o (.lit d)) .nil ∧ augB B sc nm (.loc a) n o (.lit d) g = true := by
  refine csCons_el (P := fun f => ∃ a n o d, f = .cons (.augA (.loc a) n o (.lit d)) .nil ∧ augB B sc nm (.loc a) n o (.lit d) g = true) h fun s r h => ?_
  obtain ⟨z, h⟩ := bAnd h
  have hr : r = .nil := by cases r <;> first | rfl | exact absurd z Bool.false_ne_true
  subst hr
  refine csAugA_el (P := fun s => ∃ a n o d, CS.cons s .nil = .cons (.augA (.loc a) n o (.lit d)) .nil ∧ augB B sc nm (.loc a) n o (.lit d) g = true) h fun a n o e h =>
    ceLoc_el (P := fun a => ∃ a' n' o' d, CS.cons (.augA a n o e) .nil = .cons (.augA (.loc a') n' o' (.lit d)) .nil ∧ augB B sc nm (.loc a') n' o' (.lit d) g = true) h fun i h =>
    ceLit_el (P := fun e => ∃ a' n' o' d, CS.cons (.augA _ n o e) .nil = .cons (.augA (.loc a') n' o' (.lit d)) .nil ∧ augB B sc nm (.loc a') n' o' (.lit d) g = true) h fun d h => ⟨i, n, o, d, rfl, h⟩
theorem fin2 {F : Value → Shared → Prop} (O : X.Ok) (FO : fr.Ok) {f : CS} {st : Stmt} (h : finB X.B fr.scope fr.nm f st = true) (S : St X fr m loc lay σ s) {K : KF} {x : KX}
    (hx : ex X.B.tab C f loc σ K x) {P : Flow → Shared → Prop}
    (hP : ∀ σ' lay' s', St X fr m loc lay' σ' s' → Evo fr.ban (some fr.L) lay lay' s.heap s'.heap → K .next loc σ' → P .next s') :
    wpAny (model X.prog X.w) A (execs [st] fr.env) P F s := by
  obtain ⟨a, n, o, d, rfl, h⟩ := finB_inv h
  exact fin_sound O FO h S (show ex X.B.tab C (.augA (.loc a) n o (.lit d)) loc σ _ x from hx) fun σ' lay' s' S' E' hk => hP σ' lay' s' S' E' hk

theorem ex_tryF (c : Ctx0 X fr A C n) (hfr : A.frames = some fr.envs) {i : Nat} {e : CE} {f : CS} {st : Stmt} (h : agS X.B fr.scope fr.nm (.tryF i e f) st = true) : ExS X fr A C false (.tryF i e f) st := yTry_el (P := ExS X fr A C false (.tryF i e f)) h fun b hs o f0 pos h => by
  obtain ⟨z1, h⟩ := bAnd h
  obtain ⟨z2, h⟩ := bAnd h
  obtain ⟨h1, h2⟩ := bAnd h
  cases List.isEmpty_iff.mp z1
  cases List.isEmpty_iff.mp z2
  refine b1_el (P := fun b => ExS X fr A C false (.tryF i e f) (.Try b [] [] f0 pos)) h1 fun st h1 => b1_el (P := fun f0 => ExS X fr A C false (.tryF i e f) (.Try [st] [] [] f0 pos)) h2 fun g h2 => ?_
  refine yAsg_el (P := fun st => ExS X fr A C false (.tryF i e f) (.Try [st] [] [] [g] pos)) h1 fun ts v pa h => b1_el (P := fun ts => ExS X fr A C false (.tryF i e f) (.Try [.Assign ts v pa] [] [] [g] pos)) h fun t h => xName_el (P := fun t => ExS X fr A C false (.tryF i e f) (.Try [.Assign [t] v pa] [] [] [g] pos)) h fun y py h => ?_
  obtain ⟨h, h1⟩ := bAnd h
  have hy := beq_iff_eq.mp (bAnd h).1
  exact fun m loc lay σ s K x S hx => wpAny_Try_finally (wpAny_execs_cons (wpAny_Assign_Name (wpAny_mono ((c.e e m loc _ h1).1 lay σ s _ _ S hx) (fun v s₁ z => z.casesOn fun d σ₁ lay₁ S₁ E₁ R₁ hk =>
      store_sound c.FO S₁ hy R₁ fun m' s₂ S₂ E₂ => wpAny_execs_nil (wpAny_execs_nil (fin2 c.O c.FO h2 S₂ hk fun σ₃ lay₃ s₃ S₃ E₃ hk => .nx rfl m' _ σ₃ lay₃ S₃ ((E₁.trans E₂).trans E₃) hk)))
    fun v s₁ z => z.casesOn fun cl σ₁ lay₁ S₁ E₁ T₁ hk => note_sound hfr S.g.stays S₁ E₁ T₁ fun h₂ S₂ E₂ T₂ => ⟨T₂.ne_byPass, again_sound T₂ (fly_sound S.g.stays S₂ E₂ T₂ fun h₃ S₃ E₃ T₃ =>
      fin2 c.O c.FO h2 S₃ hk fun σ₄ lay₄ s₄ S₄ E₄ hk => pass_sound S.g.stays S₄ (E₃.trans E₄) (AirE.keep S₃ E₄ T₃) hk fun _ q => q)⟩) (noSwap (bAnd h).2)))
end
end
section
open PySem.SeqAt
section
variable {M : Model} {A : Around} {E : Value → Shared → Prop} {env : Env}

theorem excMatches_other {C C' : Addr} {nm q N bs bm hdct sn sub ab col dd k0 k1 k2 k3 k5 newId nm' q' N' bs' bm' hdct' sn' sub' ab' col' dd' k0' k1' k2' k3' k5' newId'} {h : Heap} {g : Array GenState} {d : Drawn} {t : Nat} {os : OsState} {e : Addr} {oe : Obj} {Q : Bool → Shared → Prop}
    (hC : h.get? C = some (excClassObj nm q C N bs bm hdct sn sub ab col dd k0 k1 k2 k3 k5 newId)) (hC' : h.get? C' = some (excClassObj nm' q' C' N' bs' bm' hdct' sn' sub' ab' col' dd' k0' k1' k2' k3' k5' newId')) (he : h.get? e = some oe) (hcls : oe.cls = .ref C) (hbase : bm'.contains (.type "BaseException") = true)
    (hno : (Value.ref C :: bm).contains (.ref C') = false) (hq : Q false ⟨h, g, d, t, os⟩) : wpAny M A (excMatches (.ref e) (.ref C')) Q E ⟨h, g, d, t, os⟩ := by
  have hcB : (Value.ref C' :: bm').contains (.type "BaseException") = true := by rw [List.contains_cons, hbase, Bool.or_true]
  have f := tc_notTuple
  unfold excMatches
  repeat (first | (with_reducible refine wpAny_loadPart_at he ?_; rw [hcls]) | with_reducible refine wpAny_loadPart_at hC' ?_ | (with_reducible refine wpAny_isSubtype_exc hC' ?_; rw [hcB]) | (with_reducible refine wpAny_isSubtype_exc hC ?_; rw [hno]) | wp_step)
  exact hq
end
end
section
open PySem.SeqAt
noncomputable def exN (K : Frag) (C C' : Addr) : Bool := bO (K.lookup C) fun o => bO (clsO o) fun cd => !cd.mro.contains (.ref C')
noncomputable def ExcSep (X : Cx) : Prop := ∀ c c', X.B.nCl ≤ c → X.B.nCl ≤ c' → X.B.clsA c ≠ X.B.clsA c' → exN X.K (X.B.clsA c) (X.B.clsA c') = true

section
variable {X : Cx} {fr : Fm} {m : Str → Option Value} {loc : Loc} {lay lay₀ : Lay} {σ : Sto} {s : Shared} {A : Around} {C : Calls} {n : Nat} {h₀ : Heap} {c : Nat} {v : Value} {E : Value → Shared → Prop}

theorem St.toks (S : St X fr m loc lay σ s) (t : Nat) : St X fr m loc lay σ { s with toks := t } := ⟨S.ns, S.loc, S.above, S.g.stays, S.g.frames, S.g.len, S.g.sto, S.g.new, S.g.apart, S.g.gens, S.g.os, S.g.sys⟩
theorem constInt_el {e : Expr} {a : Int} {P : Expr → Prop} (h : constInt e a = true) (H1 : ∀ k p, P (.Constant (.int a) k p)) (H2 : ∀ k p q, P (.UnaryOp .USub (.Constant (.int (-a)) k p) q)) : P e := by
  unfold constInt at h
  by_cases q : e.ctorIdx = 19
  · rw [if_pos q] at h
    exact constB_inv h H1
  · rw [if_neg q] at h
    exact xUn_el h fun op x p h => by
      cases (beq_iff_eq.mp (bAnd h).1 : op = _)
      exact constB_inv (P := fun x => P (.UnaryOp .USub x p)) (bAnd h).2 fun k q => H2 k q p
theorem constInt_sound {e : Expr} {a : Int} (h : constInt e a = true) (S : St X fr m loc lay σ s) {P : Value → Shared → Prop} (hP : ∀ t tk, St X fr m loc lay σ { s with toks := tk } → P (.int a t) { s with toks := tk }) : wpAny (model X.prog X.w) A (eval e fr.env) P E s :=
  constInt_el (P := fun e => wpAny (model X.prog X.w) A (eval e fr.env) P E s) h (fun k p => wpAny_Constant_int (hP _ _ (S.toks _))) fun k p q => UnaryOp_ (wpAny_Constant_int (PyProof.Rows.neg_int (by rw [Int.neg_neg]; exact hP _ _ ((S.toks _).toks _))))
theorem unstar_const {e : Expr} {a : Int} (h : constInt e a = true) : unstar e = true := constInt_el (P := fun e => unstar e = true) h (fun _ _ => rfl) fun _ _ _ => rfl

theorem pair_sound {u w : Expr} {k : Nat} {tp p : Pos} {a b : Int} (hu : constInt u a = true) (hw : constInt w b = true) (S : St X fr m loc lay σ s) {P : Flow → Shared → Prop}
    (hP : ∀ v lay' s', St X fr m loc lay' σ s' → Evo fr.ban (some fr.L) lay lay' s.heap s'.heap → Rep X s'.heap lay' fr.ban (.tup [.int a, .int b]) v → P (.ret v) s') :
    wpAny (model X.prog X.w) A (execs [.Return (some (.Tuple [u, w] k tp)) p] fr.env) P E s := by
  refine wpAny_execs_cons (wpAny_Return_some (Tuple_ ?_))
  rw [starEach_cons (unstar_const hu), starEach_cons (unstar_const hw)]
  refine Calls.spliced_cons (constInt_sound hu S fun t1 tk1 S₁ => Calls.spliced_cons (constInt_sound hw S₁ fun t2 tk2 S₂ => Calls.spliced_nil ?_))
  have R : RepL X s.heap lay fr.ban [.int a, .int b] [.int a t1, .int b t2] := RepL.cons ⟨t1, rfl⟩ (RepL.cons ⟨t2, rfl⟩ RepL.nil)
  exact wpAny_mono (newTuple_sound (k := fun d σ' => d = .tup [.int a, .int b] ∧ σ' = σ) S₂ R ⟨rfl, rfl⟩) (fun v s' z => z.casesOn fun d σ' lay' S' E' R' hk => by
    cases hk.1; cases hk.2; exact hP v lay' s' S' E' R') fun _ _ q => q

theorem exN_of {c c' : Addr} {bm nm q N bs hdct sn sub ab col dd k0 k1 k2 k3 k5 newId} {h : Heap} (K : X.K.In h) (e : exN X.K c c' = true) (hC : h.get? c = some (excClassObj nm q c N bs bm hdct sn sub ab col dd k0 k1 k2 k3 k5 newId)) : (Value.ref c :: bm).contains (.ref c') = false := by
  obtain ⟨o, ho, e⟩ := bO_inv e
  obtain ⟨cd, hc, e⟩ := bO_inv e
  have := K _ _ ho
  rw [hC] at this
  cases this
  cases hc
  exact notT e

theorem handB_el {B : Tb} {sc : Scope} {y : Nat} {a b : Int} {h1 : ExceptHandler} {P : ExceptHandler → Prop} (h : handB B sc y a b h1 = true)
    (H : ∀ ip us ws k tp p2 p3, gl sc (B.clN y) = true → constInt us a = true → constInt ws b = true → P (.ExceptHandler (some (.Name (B.clN y) ip)) none [.Return (some (.Tuple [us, ws] k tp)) p2] p3)) : P h1 := by
  obtain ⟨t, nm, body, p3⟩ := h1
  obtain ⟨t, rfl, h⟩ := bO_inv (show bO t _ = true from h)
  obtain ⟨hz, h⟩ := bAnd h
  cases Option.isNone_iff_eq_none.mp hz
  refine xName_el (P := fun t => P (.ExceptHandler (some t) none body p3)) h fun id ip h => ?_
  obtain ⟨h, hb⟩ := bAnd h
  obtain ⟨hi, hg⟩ := bAnd h
  cases (beq_iff_eq.mp hi : id = _)
  refine b1_el (P := fun body => P (.ExceptHandler _ none body p3)) hb fun st h => yRet_el (P := fun st => P (.ExceptHandler _ none [st] p3)) h fun x p2 h => ?_
  obtain ⟨x, rfl, h⟩ := bO_inv h
  exact xTup_el (P := fun x => P (.ExceptHandler _ none [.Return (some x) p2] p3)) h fun us k tp h => b2_el (P := fun us => P (.ExceptHandler _ none [.Return (some (.Tuple us k tp)) p2] p3)) h fun u w h => H ip u w k tp p2 p3 hg (bAnd h).1 (bAnd h).2

theorem clause_sound (c0 : Ctx0 X fr A C n) (XO : ExcOk X) (hb : X.base.StaysIn h₀) {y : Nat} {a b : Int} {h1 : ExceptHandler} {rest : List ExceptHandler} (hy : X.B.nCl ≤ y) (h : handB X.B fr.scope y a b h1 = true) (S : St X fr m loc lay σ s) (E₀ : Evo fr.ban (some fr.L) lay₀ lay h₀ s.heap) (T : AirE X h₀ y v .none s.heap) {P : Flow → Shared → Prop}
    (hP : ∀ r lay' s', St X fr m loc lay' σ s' → Evo fr.ban (some fr.L) lay₀ lay' h₀ s'.heap → Rep X s'.heap lay' fr.ban (.tup [.int a, .int b]) r → P (.ret r) s') :
    wpAny (model X.prog X.w) A (handleBy v fr.env (h1 :: rest)) P E s := handB_el (P := fun h1 => wpAny (model X.prog X.w) A (handleBy v fr.env (h1 :: rest)) P E s) h fun ip us ws k tp p2 p3 hg hu hw => by
  obtain ⟨exI, XO⟩ := XO
  refine wpAny_handleBy_cons (codeAny_handlers_test (name_sound c0.O c0.FO S hg (XO y hy).1 ?_)) T.ne_byPass
  obtain ⟨bm, N, nm, q, bs, hdct, sn, sub, ab, col, dd, k0, k1, k2, k3, k5, hC, c1, c2, c3, c4⟩ := (exCls_of (S.KX c0.O) (XO y hy).2).obj
  obtain ⟨e, a0, rfl, hn0, oe, vs, Ta, oT, ts, he, hc, hr⟩ := id T
  refine wpAny_excMatches_sub_self hC he hc.1 c2 (codeAny_handlers_suite ?_)
  exact fly_sound (fl := none) hb S E₀ T fun h₂ S₂ E₂ T₂ => pair_sound hu hw S₂ fun r lay₃ s₃ S₃ E₃ R₃ => hP r lay₃ s₃ S₃ (E₂.trans E₃) R₃

theorem skip_sound (c0 : Ctx0 X fr A C n) (XO : ExcOk X) (XS : ExcSep X) {y cn : Nat} {a b : Int} {h1 : ExceptHandler} {rest : List ExceptHandler} (hy : X.B.nCl ≤ y) (hcn : X.B.nCl ≤ cn) (hne : X.B.clsA cn ≠ X.B.clsA y) (h : handB X.B fr.scope y a b h1 = true) (S : St X fr m loc lay σ s) (T : AirE X h₀ cn v .none s.heap) {P : Flow → Shared → Prop}
    (hP : wpAny (model X.prog X.w) A (handleBy v fr.env rest) P E s) :
    wpAny (model X.prog X.w) A (handleBy v fr.env (h1 :: rest)) P E s := handB_el (P := fun h1 => wpAny (model X.prog X.w) A (handleBy v fr.env (h1 :: rest)) P E s) h fun ip us ws k tp p2 p3 hg hu hw => by
  obtain ⟨exI, XO⟩ := XO
  refine wpAny_handleBy_cons (codeAny_handlers_test (name_sound c0.O c0.FO S hg (XO y hy).1 ?_)) T.ne_byPass
  obtain ⟨bm, N, nm, q, bs, hdct, sn, sub, ab, col, dd, k0, k1, k2, k3, k5, hC, c1, c2, c3, c4⟩ := (exCls_of (S.KX c0.O) (XO y hy).2).obj
  obtain ⟨bm', N', nm', q', bs', hdct', sn', sub', ab', col', dd', k0', k1', k2', k3', k5', hC', c1', c2', c3', c4'⟩ := (exCls_of (S.KX c0.O) (XO cn hcn).2).obj
  obtain ⟨e, a0, rfl, hn0, oe, vs, Ta, oT, ts, he, hc, hr⟩ := id T
  exact excMatches_other hC' hC he hc.1 c2 (exN_of (S.KX c0.O) (XS cn y hcn hy hne) hC') hP

theorem ex_tryX (c0 : Ctx0 X fr A C n) (XO : ExcOk X) (XS : ExcSep X) (hfr : A.frames = some fr.envs) {e : CE} {y z : Nat} {a b c d : Int} {st : Stmt} (h : agS X.B fr.scope fr.nm (.tryX e y z a b c d) st = true) : ExS X fr A C false (.tryX e y z a b c d) st := yTry_el (P := ExS X fr A C false (.tryX e y z a b c d)) h fun bs hs o f0 pos h => by
  obtain ⟨z1, q1⟩ := bAnd h
  obtain ⟨z2, q2⟩ := bAnd q1
  obtain ⟨q3, hh⟩ := bAnd q2
  obtain ⟨q4, h1⟩ := bAnd q3
  obtain ⟨q5, q6⟩ := bAnd q4
  have hy := of_decide_eq_true (bAnd q5).1
  have hz := of_decide_eq_true (bAnd q5).2
  have hne := bne_iff_ne.mp q6
  clear h q1 q2 q3 q4 q5 q6
  cases List.isEmpty_iff.mp z1
  cases List.isEmpty_iff.mp z2
  refine b1_el (P := fun bs => ExS X fr A C false (.tryX e y z a b c d) (.Try bs hs [] [] pos)) h1 fun st h1 => b2_el (P := fun hs => ExS X fr A C false (.tryX e y z a b c d) (.Try [st] hs [] [] pos)) hh fun g1 g2 hh => ?_
  refine yRet_el (P := fun st => ExS X fr A C false (.tryX e y z a b c d) (.Try [st] [g1, g2] [] [] pos)) h1 fun x p h => ?_
  obtain ⟨x, rfl, h⟩ := bO_inv h
  refine fun m loc lay σ s K xx S hx => wpAny_Try_except (wpAny_execs_cons (wpAny_Return_some (wpAny_mono ((c0.e e m loc _ h).1 lay σ s _ _ S hx) (fun v s₁ q => q.casesOn fun d σ₁ lay₁ S₁ E₁ R₁ hk => .rt d v rfl m loc σ₁ lay₁ S₁ E₁ R₁ hk)
    fun v s₁ q => q.casesOn fun cn σ₁ lay₁ S₁ E₁ T₁ hk => note_sound hfr S.g.stays S₁ E₁ T₁ fun h₂ S₂ E₂ T₂ => fly_sound S.g.stays S₂ E₂ T₂ fun h₃ S₃ E₃ T₃ => ?_)))
  have hk1 : (if cn = y then K (.ret (.tup [.int a, .int b])) loc σ₁ else if cn = z then K (.ret (.tup [.int c, .int d])) loc σ₁ else False) := hk
  by_cases hcy : cn = y
  · rw [if_pos hcy] at hk1
    exact clause_sound c0 XO S.g.stays hy (bAnd hh).1 S₃ E₃ (hcy ▸ T₃) fun r lay' s' S' E' R' => .rt _ r rfl m loc σ₁ lay' S' E' R' hk1
  · rw [if_neg hcy] at hk1
    by_cases hcz : cn = z
    · rw [if_pos hcz] at hk1
      exact skip_sound c0 XO XS hy hz (Ne.symm hne) (bAnd hh).1 S₃ (hcz ▸ T₃) (clause_sound c0 XO S.g.stays hz (bAnd hh).2 S₃ E₃ (hcz ▸ T₃) fun r lay' s' S' E' R' => .rt _ r rfl m loc σ₁ lay' S' E' R' hk1)
    · rw [if_neg hcz] at hk1
      exact hk1.elim
end
end
section
open PySem.SeqAt
section
variable {X : Cx} {fr : Fm} {A : Around} {C : Calls} {n : Nat}

theorem noSs {cs : CS} {q : Bool} (h : ∀ ss, agSs X.B fr.scope fr.nm cs ss = false) : ∀ ss, agSs X.B fr.scope fr.nm cs ss = true → ExsS X fr A C q cs ss := fun ss e => absurd ((h ss).symm.trans e) Bool.false_ne_true
theorem noS {cs : CS} {q : Bool} (h : ∀ st, agS X.B fr.scope fr.nm cs st = false) : ∀ st, agS X.B fr.scope fr.nm cs st = true → ExS X fr A C q cs st := fun ss e => absurd ((h ss).symm.trans e) Bool.false_ne_true
theorem ex_sound (c : Ctx0 X fr A C n) (XO : ExcOk X) (XS : ExcSep X) (hr : ktsB X.K ("range" : Str) (.type "range") = true) : ∀ (cs : CS) (q : Bool), okS cs q = true →
    (∀ st, agS X.B fr.scope fr.nm cs st = true → ExS X fr A C q cs st) ∧ (∀ ss, agSs X.B fr.scope fr.nm cs ss = true → ExsS X fr A C q cs ss) := by
  intro cs
  induction cs with
  | nil => exact fun q ho => ⟨noS fun _ => rfl, fun ss h => ex_nil h⟩
  | cons s r hs hr => exact fun q ho => ⟨noS fun _ => rfl, fun ss h => bC_el (P := ExsS X fr A C q (.cons s r)) h fun st ss h => ex_cons ((hs q (bAnd ho).1).1 st (bAnd h).1) ((hr q (bAnd ho).2).2 ss (bAnd h).2)⟩
  | expr e => exact fun q ho => ⟨fun st h => ex_expr c h, noSs fun _ => rfl⟩
  | asg i e => exact fun q ho => ⟨fun st h => ex_asg c h, noSs fun _ => rfl⟩
  | asg2 i j e => exact fun q ho => ⟨fun st h => ex_asg2 c h, noSs fun _ => rfl⟩
  | asgA a i e => exact fun q ho => ⟨fun st h => ex_asgA c h, noSs fun _ => rfl⟩
  | asgI a i e => exact fun q ho => ⟨fun st h => ex_asgI c h, noSs fun _ => rfl⟩
  | aug i o e => exact fun q ho => ⟨fun st h => ex_aug c h, noSs fun _ => rfl⟩
  | augA a i o e => exact fun q ho => ⟨fun st h => ex_augA c h, noSs fun _ => rfl⟩
  | ret e => exact fun q ho => ⟨fun st h => ex_ret c h, noSs fun _ => rfl⟩
  | retN => exact fun q ho => ⟨fun st h => ex_retN h, noSs fun _ => rfl⟩
  | ite t a b ha hb => exact fun q ho => ⟨fun st h => ex_ite c (ha q (bAnd ho).1).2 (hb q (bAnd ho).2).2 h, noSs fun _ => rfl⟩
  | «while» t b hb => exact fun q ho => by cases notT (bAnd ho).1; exact ⟨fun st h => ex_while c (hb true (bAnd ho).2).2 h, noSs fun _ => rfl⟩
  | forIn i e b hb => exact fun q ho => by cases notT (bAnd ho).1; exact ⟨fun st h => ex_forIn c (hb true (bAnd ho).2).2 h, noSs fun _ => rfl⟩
  | forR i e b hb => exact fun q ho => by cases notT (bAnd ho).1; exact ⟨fun st h => ex_forR c hr (hb true (bAnd ho).2).2 h, noSs fun _ => rfl⟩
  | for4 i j k l e b hb => exact fun q ho => by cases notT (bAnd ho).1; exact ⟨fun st h => ex_for4 c (hb true (bAnd ho).2).2 h, noSs fun _ => rfl⟩
  | raise x es => exact fun q ho => by cases notT ho; exact ⟨fun st h => ex_raise c XO h, noSs fun _ => rfl⟩
  | tryF i e f _ => exact fun q ho => by cases notT ho; exact ⟨fun st h => ex_tryF c c.r.frames h, noSs fun _ => rfl⟩
  | tryX e y z a b c' d => exact fun q ho => by cases notT ho; exact ⟨fun st h => ex_tryX c XO XS c.r.frames h, noSs fun _ => rfl⟩
  | dead => exact fun q ho => ⟨fun st h m loc lay σ s K x S hx => (hx : False).elim, fun ss h m loc lay σ s K x S hx => (hx : False).elim⟩
end
end
section
open PySem.SeqAt
set_option genCtorIdx false
set_option genSizeOf false
set_option genInjectivity false

noncomputable def fnB (K : Frag) (B : Tb) (F : Fn) (a : Addr) (nm : List Str) : Bool := bO (fdOf K a) fun fd => bO (bodyOf fd) fun body =>
  entB K fd (nm.take F.np) && nm.length == F.nl && decide (F.np ≤ F.nl) && nm.all (fun x => fd.scope.names.lookup x == some .local && !(x == ("__debug__" : Str))) && decide nm.Nodup && okS F.code false && agSs B fd.scope nm F.code body
structure FnOk (K : Frag) (B : Tb) (F : Fn) (a : Addr) (nm : List Str) (fd : FuncData) (body : List Stmt) : Prop where
  hfd : fdOf K a = some fd
  hbody : bodyOf fd = some body
  ent : entB K fd (nm.take F.np) = true
  len : nm.length = F.nl
  le : F.np ≤ F.nl
  loc : ∀ x ∈ nm, fd.scope.names.lookup x = some .local ∧ (x == ("__debug__" : Str)) = false
  nodup : nm.Nodup
  ok : okS F.code false = true
  ag : agSs B fd.scope nm F.code body = true
theorem fnOk_of {K : Frag} {B : Tb} {F : Fn} {a : Addr} {nm : List Str} (h : fnB K B F a nm = true) : ∃ fd body, FnOk K B F a nm fd body := by
  obtain ⟨fd, hfd, h⟩ := bO_inv h
  obtain ⟨body, hb, h⟩ := bO_inv h
  have a := bAnd h; have b := bAnd a.1; have c := bAnd b.1; have d := bAnd c.1; have e := bAnd d.1; have f := bAnd e.1
  exact ⟨fd, body, hfd, hb, f.1, beq_iff_eq.mp f.2, of_decide_eq_true e.2, fun x hx => have q := bAnd (List.all_eq_true.mp d.2 x hx); ⟨beq_iff_eq.mp q.1, notT q.2⟩, of_decide_eq_true c.2, b.2, a.2⟩
noncomputable def FnsOk (X : Cx) (fns : Nat → Option Fn) : Prop := ∀ f F, fns f = some F → ∃ nm, fnB X.K X.B F (X.B.fnA f) nm = true
noncomputable def Last (h : Heap) : Prop := h.objs.size = 0 ∨ ∃ o, h.get? (h.objs.size - 1) = some o

theorem lookup_mem {α β : Type} [BEq α] [LawfulBEq α] : ∀ {L : List (α × β)} {x : α} {y : β}, (L.map (·.1)).Nodup → (x, y) ∈ L → L.lookup x = some y
  | [], _, _, _, h => by cases h
  | (a, b) :: r, x, y, hn, h => by
    rw [List.map_cons, List.nodup_cons] at hn
    rw [List.lookup_cons]
    rcases List.mem_cons.mp h with h | h
    · cases h; simp
    · have : (x == a) = false := beq_eq_false_iff_ne.mpr fun e => hn.1 (e ▸ List.mem_map_of_mem (f := (·.1)) h)
      rw [this]
      exact lookup_mem hn.2 h

theorem MORep.more {X : Cx} {h : Heap} {lay : Lay} {ban : List Addr} {b : Addr} (hb : h.get? b = none) {mo : MO} {p : Addr × Addr} (r : MORep X h lay ban mo p) : MORep X h lay (b :: ban) mo p := r.tr (.more hb) (fun _ e => e) fun _ e => e
theorem MORep.less {X : Cx} {h : Heap} {lay : Lay} {ban ban' : List Addr} (hb : ∀ b ∈ ban, b ∈ ban') {mo : MO} {p : Addr × Addr} (r : MORep X h lay ban' mo p) : MORep X h lay ban mo p := r.tr (.less hb) (fun _ e => e) fun _ e => e

theorem G.drop {X : Cx} {env : Env} {outer : List Env} {L : Addr} (hL : env.frame = some L) {lay : Lay} {σ : Sto} {s : Shared} (g : G X (env :: outer) lay σ s) : G X outer lay σ s := by
  have hs : ∀ b ∈ banOf outer, b ∈ banOf (env :: outer) := fun b h => by rw [banOf_cons env outer hL]; exact .tail _ h
  exact ⟨g.stays, g.frames.2.2, g.len, fun n mo p a b => (g.sto n mo p a b).less hs, fun p hp => ⟨(g.new p hp).1.to (fun c h => c (hs _ h)) fun _ e _ => e, (g.new p hp).2.to (fun c h => c (hs _ h)) fun _ e _ => e⟩, g.apart, g.gens, g.os, g.sys⟩

theorem NewAt.enter {base h h₀ : Heap} {ban : List Addr} {L a : Addr} (hL : h.get? L = none) (k : ∀ b o, h.get? b = some o → h₀.get? b = some o) (N : NewAt base ban h a) : NewAt base (L :: ban) h₀ a := by
  obtain ⟨b, c, o, e, n⟩ := N
  refine ⟨b, fun q => ?_, o, k _ _ e, n⟩
  rcases List.mem_cons.mp q with q | q
  · rw [q, hL] at e; cases e
  · exact c q
theorem kept_none {h h₀ : Heap} (k : ∀ b o, h.get? b = some o → h₀.get? b = some o) {b : Addr} (e : h₀.get? b = none) : h.get? b = none := by
  cases z : h.get? b with
  | none => rfl
  | some o => rw [k _ _ z] at e; cases e

section
variable {X : Cx} {nm : List Str} {fd : FuncData} {envs : List Env} {lay : Lay} {σ : Sto} {s : Shared} {h₀ : Heap} {f : Addr}
abbrev newFm (X : Cx) (fd : FuncData) (L a : Addr) (envs : List Env) (nm : List Str) : Fm := ⟨fd.qualname, fd.scope, L, a, fd.code, envs, nm⟩
theorem new_G (hk : fd.scope.kind = .function) (g : G X envs lay σ s) {m : Str → Option Value} (N0 : h₀.Ns s.heap.objs.size m) (k0 : ∀ b o, s.heap.get? b = some o → h₀.get? b = some o) {t : Nat} : G X (newFm X fd s.heap.objs.size f envs nm).envs lay σ { s with heap := h₀, toks := t } := by
  have hL0 : s.heap.get? s.heap.objs.size = none := none_size _
  have hbL : X.base.get? s.heap.objs.size = none := base_none g.stays hL0
  obtain ⟨oL, esL, epL, hoL, hdL, _⟩ := N0
  refine ⟨fun b o e => k0 _ _ (g.stays _ _ e), ⟨fun q => ?_, ⟨_, oL, rfl, hbL, hoL, fun vs q => by rw [hdL] at q; cases q⟩, g.frames.of_keeps fun b o e _ => ⟨o, k0 _ _ e, rfl⟩⟩, g.len, fun i mo p a b => ?_, fun p hp => ⟨(g.new p hp).1.enter hL0 k0, (g.new p hp).2.enter hL0 k0⟩, g.apart, g.gens, g.os, g.sys⟩
  · rw [show fd.scope.kind = .module from q] at hk; cases hk
  · exact ((g.sto i mo p a b).more hL0).keepsK ⟨fun b o e _ _ => k0 b o e, [], (List.append_nil lay).symm, fun p hp => nomatch hp⟩ (k0 _) (k0 _)
theorem new_above (LA : Last X.base) (g : G X envs lay σ s) : X.base.objs.size ≤ s.heap.objs.size := by
  rcases LA with h | ⟨o, h⟩
  · rw [h]; exact Nat.zero_le _
  · have := Heap.lt_size (g.stays _ _ h)
    lia
theorem new_St (LA : Last X.base) {F : Fn} {ds : List D} {vs : List Value} (hn : (nm.take F.np).Nodup) (hvl : vs.length = (nm.take F.np).length) (hl : ds.length = F.np) (g : G X envs lay σ s) (R : RepL X s.heap lay (banOf envs) ds vs)
    (N0 : h₀.Ns s.heap.objs.size (fun x => ((nm.take F.np).zip vs).reverse.lookup x)) (k0 : ∀ b o, s.heap.get? b = some o → h₀.get? b = some o) {t : Nat} (g1 : G X (newFm X fd s.heap.objs.size f envs nm).envs lay σ { s with heap := h₀, toks := t }) :
    St X (newFm X fd s.heap.objs.size f envs nm) (fun x => ((nm.take F.np).zip vs).reverse.lookup x) (ds.map some ++ List.replicate (F.nl - F.np) none) lay σ { s with heap := h₀, toks := t } := by
  refine ⟨N0, fun i x d a b => ?_, new_above LA g, g1⟩
  have hi : i < ds.length := by
    by_cases q : i < ds.length
    · exact q
    · rw [List.getElem?_append_right (by rw [List.length_map]; exact Nat.le_of_not_lt q), List.getElem?_replicate] at b
      split at b <;> cases b
  rw [List.getElem?_append_left (by rw [List.length_map]; exact hi), List.getElem?_map] at b
  obtain ⟨d', hd, e⟩ := Option.map_eq_some_iff.mp b
  cases e
  obtain ⟨v, hv, Rv⟩ := R.get i hd
  refine ⟨v, ?_, (Rv.more (none_size _)).kp ⟨fun b o e _ _ => k0 b o e, [], (List.append_nil lay).symm, fun p hp => nomatch hp⟩⟩
  refine lookup_mem ?_ (List.mem_reverse.mpr ?_)
  · rw [List.map_reverse, List.map_fst_zip (Nat.le_of_eq hvl.symm)]
    exact List.pairwise_reverse.mpr (hn.imp fun h => h.symm)
  · refine List.mem_of_getElem? (i := i) ?_
    rw [List.getElem?_zip_eq_some]
    exact ⟨by rw [List.getElem?_take, if_pos (hl ▸ hi)]; exact a, hv⟩
theorem new_out (k0 : ∀ b o, s.heap.get? b = some o → h₀.get? b = some o) {lay' : Lay} {h' : Heap} (E : Evo (s.heap.objs.size :: banOf envs) (some s.heap.objs.size) lay lay' h₀ h') : Evo (banOf envs) none lay lay' s.heap h' := by
  have ne : ∀ b o, s.heap.get? b = some o → b ≠ s.heap.objs.size := fun b o e q => by rw [q, none_size] at e; cases e
  refine ⟨fun b o e => E.alive b o (k0 _ _ e), fun b o e Fb => E.keep b o (k0 _ _ e) (Fb.more (ne b o e)), fun b hb _ o e => E.frames b (.tail _ hb) (fun q => ne b o e (Option.some.inj q)) o (k0 _ _ e), ?_, fun p hp vs n e => E.mono p hp vs n (k0 _ _ e)⟩
  obtain ⟨q, e, hq⟩ := E.ext
  exact ⟨q, e, fun p hp => ⟨kept_none k0 (hq p hp).1, kept_none k0 (hq p hp).2⟩⟩
theorem Traced.kept (k0 : ∀ b o, s.heap.get? b = some o → h₀.get? b = some o) {c : Nat} {v : Value} {h : Heap} (T : Traced X h₀ c v h) : Traced X s.heap c v h := by
  obtain ⟨e, a0, hv, hn, oe, vs', T, oT, ts, he, hc, hd, h1, hT, rest⟩ := T
  exact ⟨e, a0, hv, kept_none k0 hn, oe, vs', T, oT, ts, he, hc, hd, h1, kept_none k0 hT, rest⟩
end

section
variable {X : Cx} {fns : Nat → Option Fn}

theorem room_in {A : Around} {envs : List Env} {n : Nat} {env : Env} (r : Room A envs (n + 1)) : RoomB (A.deeper env) (env :: envs) n :=
  ⟨r.handled, Around.frames_deeper r.frames, (by have := r.depth; lia : A.depth + 1 + 4 * n + 10 ≤ recursionLimit), (by have := r.units; lia : A.units + 3 + 20 * n + 110 ≤ cLine)⟩
theorem wf_sound (O : X.Ok) (NO : nodeB X.K X.B = true) (PO : PrefOk X) (XO : ExcOk X) (XS : ExcSep X) (hr : ktsB X.K ("range" : Str) (.type "range") = true) (LA : Last X.base) (FS : FnsOk X fns) : ∀ n, CallsOk X (wf X.B.tab fns n) n := by
  intro n
  induction n with
  | zero => exact fun A envs f ds vs σ lay s k x r g R h => (h : False).elim
  | succ n ih =>
    intro A envs f ds vs σ lay s k x r g R h
    obtain ⟨F, hF, hl, h⟩ := onO_inv (show onO (fns f) _ from h)
    obtain ⟨nm, hnm⟩ := FS f F hF
    obtain ⟨fd, body, H⟩ := fnOk_of hnm
    have hvl : vs.length = (nm.take F.np).length := by rw [← R.length, hl, List.length_take, H.len, Nat.min_eq_left H.le]
    have hent := ent_of H.ent
    refine enter (K := X.K) (O.KX.keeps g.stays) (O.top.nolimit.keeps g.stays) (by have := r.depth; lia) H.hfd H.hbody H.ent hvl fun h₀ N0 k0 => ?_
    have g1 := new_G (fd := fd) (f := X.B.fnA f) (nm := nm) (t := s.toks + vs.length) hent.kind g N0 k0
    have FO : (newFm X fd s.heap.objs.size (X.B.fnA f) envs nm).Ok := ⟨hent.kind, H.nodup, fun x hx => (H.loc x hx).1, fun x hx => (H.loc x hx).2⟩
    have c : Ctx0 X (newFm X fd s.heap.objs.size (X.B.fnA f) envs nm) (A.deeper (newFm X fd s.heap.objs.size (X.B.fnA f) envs nm).env) (wf X.B.tab fns n) n := ⟨O, NO, PO, FO, ih, room_in r⟩
    refine wpAny_mono ((ex_sound c XO XS hr F.code false H.ok).2 body H.ag _ _ lay σ _ _ x (new_St LA hent.nodup hvl hl g R N0 k0 g1) h) (fun fl s' q => ?_) fun v s' q => ?_
    · cases q with
      | nx hf m' loc' σ' lay' S' E' hk => subst hf; exact ⟨.none, σ', lay', S'.g.drop rfl, new_out k0 E', rfl, hk⟩
      | rt d v hf m' loc' σ' lay' S' E' R' hk => subst hf; exact ⟨d, σ', lay', S'.g.drop rfl, new_out k0 E', R'.less (fun b hb => .tail _ hb), hk⟩
    · obtain ⟨cc, σ', lay', g', E', T', hx⟩ := q
      exact leave_sound (x := x) (fr := newFm X fd s.heap.objs.size (X.B.fnA f) envs nm) (A := A.deeper (newFm X fd s.heap.objs.size (X.B.fnA f) envs nm).env) (L := s.heap.objs.size) (Around.frames_deeper r.frames) (fun b o e => k0 _ _ (g.stays _ _ e)) g' E' T' fun h' g'' E'' T'' =>
        ⟨cc, σ', lay', g''.drop rfl, new_out k0 E'', T''.kept k0, hx⟩
end
end
section
noncomputable def c0 : Fn := ⟨(.cons (.ret (.node (.cons (.loc 0) (.cons (.loc 1) (.cons (.lst .nil) (.cons (.lit (.int 0)) (.cons (.loc 2) .nil))))))) .nil), 3, 3⟩
noncomputable def c1 : Fn := ⟨(.cons (.ret (.node (.cons (.loc 0) (.cons (.loc 1) (.cons (.loc 2) (.cons (.lit (.int 0)) (.cons (.loc 3) .nil))))))) .nil), 4, 4⟩
noncomputable def c2 : Fn := ⟨(.cons (.while (.cmp .eq (.attr (.loc 0) 0) (.glob 0)) (.cons (.asg 0 (.sub (.attr (.loc 0) 2) (.lit (.int 0)))) .nil)) (.cons (.ret (.loc 0)) .nil)), 1, 1⟩
noncomputable def c3 : Fn := ⟨(.cons (.asg 0 (.call 2 (.cons (.loc 0) .nil))) (.cons (.ite (.cmp .eq (.attr (.loc 0) 0) (.glob 3)) (.cons (.ret (.attr (.loc 0) 1)) .nil) .nil) (.cons (.ite (.cmp .eq (.attr (.loc 0) 0) (.glob 2)) (.cons (.ret (.bif .str (.cons (.attr (.loc 0) 1) .nil))) .nil) .nil) (.cons (.ite (.and (.cons (.cmp .eq (.attr (.loc 0) 0) (.glob 1)) (.cons (.not (.attr (.loc 0) 2)) .nil))) (.cons (.ret (.sub (.attr (.loc 0) 1) (.lit (.int 0)))) .nil) .nil) (.cons (.ret (.lit .none)) .nil))))), 1, 1⟩
noncomputable def c4 : Fn := ⟨(.cons (.ite (.cmp .eq (.attr (.loc 0) 0) (.glob 4)) (.cons (.ret (.attr (.loc 0) 1)) .nil) .nil) (.cons (.ret (.call 3 (.cons (.sub (.attr (.loc 0) 2) (.lit (.int 1))) .nil))) .nil)), 1, 1⟩
noncomputable def c5 : Fn := ⟨(.cons (.ret (.bif .isStr (.cons (.loc 0) .nil))) .nil), 1, 1⟩
noncomputable def c6 : Fn := ⟨(.cons (.ite (.or (.cons (.cmp .gt (.loc 0) (.glob 5)) (.cons (.cmp .lt (.loc 0) (.neg (.glob 5))) .nil))) (.cons (.ret (.lit .none)) .nil) .nil) (.cons (.ret (.loc 0)) .nil)), 1, 1⟩
noncomputable def c7 : Fn := ⟨(.cons (.asg 0 (.bin .band (.loc 0) (.lit (.int 4294967295)))) (.cons (.ite (.cmp .gt (.loc 0) (.lit (.int 2147483647))) (.cons (.aug 0 .sub (.lit (.int 4294967296))) .nil) .nil) (.cons (.ret (.loc 0)) .nil))), 1, 1⟩
noncomputable def c8 : Fn := ⟨(.cons (.ite (.cmp .eq (.bif .abs (.cons (.loc 0) .nil)) (.lit (.int 1))) (.cons (.ret (.ite (.cmp .eq (.bin .mod (.loc 1) (.lit (.int 2))) (.lit (.int 1))) (.loc 0) (.lit (.int 1)))) .nil) .nil) (.cons (.ite (.cmp .lt (.loc 1) (.lit (.int 0))) (.cons (.ret (.lit .none)) .nil) .nil) (.cons (.ite (.cmp .eq (.loc 0) (.lit (.int 0))) (.cons (.ret (.ite (.cmp .eq (.loc 1) (.lit (.int 0))) (.lit (.int 1)) (.lit (.int 0)))) .nil) .nil) (.cons (.ret (.ite (.cmp .le (.loc 1) (.lit (.int 60))) (.call 6 (.cons (.bin .pow (.loc 0) (.loc 1)) .nil)) (.lit .none))) .nil)))), 2, 2⟩
noncomputable def c9 : Fn := ⟨(.cons (.ite (.cmp .eq (.loc 1) (.lit (.int 0))) (.cons (.ret (.lit .none)) .nil) .nil) (.cons (.asg 2 (.bin .mod (.bif .abs (.cons (.loc 0) .nil)) (.bif .abs (.cons (.loc 1) .nil)))) (.cons (.ret (.ite (.cmp .lt (.loc 0) (.lit (.int 0))) (.neg (.loc 2)) (.loc 2))) .nil))), 2, 3⟩
noncomputable def c10 : Fn := ⟨(.cons (.ite (.or (.cons (.cmp .eq (.loc 1) (.lit (.int 0))) (.cons (.cmp .ne (.bin .mod (.loc 0) (.loc 1)) (.lit (.int 0))) .nil))) (.cons (.ret (.lit .none)) .nil) .nil) (.cons (.ret (.bin .fdiv (.loc 0) (.loc 1))) .nil)), 2, 2⟩
noncomputable def c11 : Fn := ⟨(.cons (.ite (.cmp .eq (.loc 0) (.lit (.str [43]))) (.cons (.ret (.call 6 (.cons (.bin .add (.loc 1) (.loc 2)) .nil))) .nil) .nil) (.cons (.ite (.cmp .eq (.loc 0) (.lit (.str [45]))) (.cons (.ret (.call 6 (.cons (.bin .sub (.loc 1) (.loc 2)) .nil))) .nil) .nil) (.cons (.ite (.cmp .eq (.loc 0) (.lit (.str [42]))) (.cons (.ret (.call 6 (.cons (.bin .mul (.loc 1) (.loc 2)) .nil))) .nil) .nil) (.cons (.ite (.cmp .eq (.loc 0) (.lit (.str [47]))) (.cons (.ret (.call 10 (.cons (.loc 1) (.cons (.loc 2) .nil)))) .nil) .nil) (.cons (.ite (.cmp .eq (.loc 0) (.lit (.str [37]))) (.cons (.ret (.call 9 (.cons (.loc 1) (.cons (.loc 2) .nil)))) .nil) .nil) (.cons (.ite (.cmp .eq (.loc 0) (.lit (.str [42, 42]))) (.cons (.ret (.call 8 (.cons (.loc 1) (.cons (.loc 2) .nil)))) .nil) .nil) (.cons (.ite (.cmp .eq (.loc 0) (.lit (.str [38]))) (.cons (.ret (.call 7 (.cons (.bin .band (.call 7 (.cons (.loc 1) .nil)) (.call 7 (.cons (.loc 2) .nil))) .nil))) .nil) .nil) (.cons (.ite (.cmp .eq (.loc 0) (.lit (.str [124]))) (.cons (.ret (.call 7 (.cons (.bin .bor (.call 7 (.cons (.loc 1) .nil)) (.call 7 (.cons (.loc 2) .nil))) .nil))) .nil) .nil) (.cons (.ite (.cmp .eq (.loc 0) (.lit (.str [94]))) (.cons (.ret (.call 7 (.cons (.bin .bxor (.call 7 (.cons (.loc 1) .nil)) (.call 7 (.cons (.loc 2) .nil))) .nil))) .nil) .nil) (.cons (.ret (.lit .none)) .nil)))))))))), 3, 3⟩
noncomputable def c12 : Fn := ⟨(.cons (.asg 3 (.call 16 (.cons (.sub (.attr (.loc 0) 2) (.lit (.int 0))) (.cons (.loc 1) (.cons (.loc 2) .nil))))) (.cons (.asg 4 (.call 16 (.cons (.sub (.attr (.loc 0) 2) (.lit (.int 1))) (.cons (.loc 1) (.cons (.loc 2) .nil))))) (.cons (.ite (.or (.cons (.isN true (.loc 3)) (.cons (.isN true (.loc 4)) .nil))) (.cons (.ret (.lit .none)) .nil) .nil) (.cons (.ite (.or (.cons (.call 5 (.cons (.loc 3) .nil)) (.cons (.call 5 (.cons (.loc 4) .nil)) .nil))) (.cons (.ret (.ite (.cmp .eq (.attr (.loc 0) 1) (.lit (.str [43]))) (.bin .add (.bif .str (.cons (.loc 3) .nil)) (.bif .str (.cons (.loc 4) .nil))) (.lit .none))) .nil) .nil) (.cons (.ret (.call 11 (.cons (.attr (.loc 0) 1) (.cons (.loc 3) (.cons (.loc 4) .nil))))) .nil))))), 3, 5⟩
noncomputable def c13 : Fn := ⟨(.cons (.asg 3 (.call 16 (.cons (.sub (.attr (.loc 0) 2) (.lit (.int 0))) (.cons (.loc 1) (.cons (.loc 2) .nil))))) (.cons (.ite (.or (.cons (.isN true (.loc 3)) (.cons (.call 5 (.cons (.loc 3) .nil)) .nil))) (.cons (.ret (.lit .none)) .nil) .nil) (.cons (.ite (.cmp .eq (.attr (.loc 0) 1) (.lit (.str [45]))) (.cons (.ret (.neg (.loc 3))) .nil) .nil) (.cons (.ite (.cmp .eq (.attr (.loc 0) 1) (.lit (.str [43]))) (.cons (.ret (.loc 3)) .nil) .nil) (.cons (.ite (.cmp .eq (.attr (.loc 0) 1) (.lit (.str [126]))) (.cons (.ret (.call 7 (.cons (.bin .sub (.neg (.lit (.int 1))) (.call 7 (.cons (.loc 3) .nil))) .nil))) .nil) .nil) (.cons (.ret (.lit .none)) .nil)))))), 3, 4⟩
noncomputable def c14 : Fn := ⟨(.cons (.asg 3 (.sub (.attr (.loc 0) 1) (.lit (.int 0)))) (.cons (.forR 4 (.bif .len (.cons (.attr (.loc 0) 2) .nil)) (.cons (.asg 5 (.call 16 (.cons (.sub (.attr (.loc 0) 2) (.loc 4)) (.cons (.loc 1) (.cons (.loc 2) .nil))))) (.cons (.ite (.isN true (.loc 5)) (.cons (.ret (.lit .none)) .nil) .nil) (.cons (.asg 3 (.bin .add (.bin .add (.loc 3) (.bif .str (.cons (.loc 5) .nil))) (.sub (.attr (.loc 0) 1) (.bin .add (.loc 4) (.lit (.int 1)))))) .nil)))) (.cons (.ret (.loc 3)) .nil))), 3, 6⟩
noncomputable def c15 : Fn := ⟨(.cons (.ite (.or (.cons (.cmp .ne (.attr (.sub (.attr (.loc 0) 2) (.lit (.int 0))) 0) (.glob 6)) (.cons (.cmp .ne (.attr (.sub (.attr (.loc 0) 2) (.lit (.int 0))) 1) (.loc 1)) .nil))) (.cons (.ret (.lit .none)) .nil) .nil) (.cons (.ret (.call 4 (.cons (.loc 0) .nil))) .nil)), 2, 2⟩
noncomputable def c16 : Fn := ⟨(.cons (.asg 0 (.call 2 (.cons (.loc 0) .nil))) (.cons (.ite (.or (.cons (.cmp .eq (.attr (.loc 0) 0) (.glob 2)) (.cons (.cmp .eq (.attr (.loc 0) 0) (.glob 3)) .nil))) (.cons (.ret (.attr (.loc 0) 1)) .nil) .nil) (.cons (.ite (.cmp .eq (.attr (.loc 0) 0) (.glob 1)) (.cons (.ret (.call 14 (.cons (.loc 0) (.cons (.loc 1) (.cons (.loc 2) .nil))))) .nil) .nil) (.cons (.ite (.cmp .eq (.attr (.loc 0) 0) (.glob 9)) (.cons (.ret (.call 13 (.cons (.loc 0) (.cons (.loc 1) (.cons (.loc 2) .nil))))) .nil) .nil) (.cons (.ite (.cmp .eq (.attr (.loc 0) 0) (.glob 8)) (.cons (.ret (.call 12 (.cons (.loc 0) (.cons (.loc 1) (.cons (.loc 2) .nil))))) .nil) .nil) (.cons (.ite (.cmp .eq (.attr (.loc 0) 0) (.glob 6)) (.cons (.ret (.bmeth (.loc 1) .get1 (.cons (.attr (.loc 0) 1) .nil))) .nil) .nil) (.cons (.ite (.and (.cons (.or (.cons (.cmp .eq (.attr (.loc 0) 0) (.glob 4)) (.cons (.cmp .eq (.attr (.loc 0) 0) (.glob 7)) .nil))) (.cons (.cmp .nmem (.loc 2) (.loc 1)) .nil))) (.cons (.ret (.bmeth (.loc 1) .get1 (.cons (.call 15 (.cons (.loc 0) (.cons (.loc 2) .nil))) .nil))) .nil) .nil) (.cons (.ret (.lit .none)) .nil)))))))), 3, 3⟩
noncomputable def c17 : Fn := ⟨(.cons (.ret (.tup (.cons (.glob 10) (.cons (.lit (.int 0)) .nil)))) .nil), 0, 0⟩
noncomputable def c18 : Fn := ⟨(.cons (.ret (.tup (.cons (.glob 11) (.cons (.loc 0) .nil)))) .nil), 1, 1⟩
noncomputable def c19 : Fn := ⟨(.cons (.ite (.or (.cons (.cmp .gt (.loc 0) (.glob 13)) (.cons (.cmp .lt (.loc 0) (.bin .sub (.lit (.int 0)) (.glob 13))) .nil))) (.cons (.raise 15 (.cons (.lit (.str [116, 104, 101, 32, 110, 117, 109, 98, 101, 114, 32, 105, 115, 32, 116, 111, 111, 32, 108, 97, 114, 103, 101])) .nil)) .nil) .nil) (.cons (.ret (.tup (.cons (.glob 12) (.cons (.loc 0) .nil)))) .nil)), 1, 1⟩
noncomputable def c20 : Fn := ⟨(.cons (.while (.and (.cons (.cmp .lt (.loc 1) (.bif .len (.cons (.loc 0) .nil))) (.cons (.cmp .mem (.sub (.loc 0) (.loc 1)) (.lit (.str [48, 49, 50, 51, 52, 53, 54, 55, 56, 57]))) .nil))) (.cons (.aug 1 .add (.lit (.int 1))) .nil)) (.cons (.ret (.loc 1)) .nil)), 2, 2⟩
noncomputable def c21 : Fn := ⟨(.cons (.asg 3 (.sub (.loc 1) (.lit (.int 0)))) (.cons (.ite (.cmp .eq (.loc 3) (.glob 10)) (.cons (.ret (.lit (.str [117, 110, 100, 101, 102, 105, 110, 101, 100]))) .nil) .nil) (.cons (.ite (.cmp .eq (.loc 3) (.glob 16)) (.cons (.ret (.lit (.str [110, 117, 108, 108]))) .nil) .nil) (.cons (.ite (.cmp .eq (.loc 3) (.glob 15)) (.cons (.ret (.ite (.sub (.loc 1) (.lit (.int 1))) (.lit (.str [116, 114, 117, 101])) (.lit (.str [102, 97, 108, 115, 101])))) .nil) .nil) (.cons (.ite (.cmp .eq (.loc 3) (.glob 12)) (.cons (.ret (.bif .str (.cons (.sub (.loc 1) (.lit (.int 1))) .nil))) .nil) .nil) (.cons (.ite (.cmp .eq (.loc 3) (.glob 14)) (.cons (.ret (.lit (.str [78, 97, 78]))) .nil) .nil) (.cons (.ite (.cmp .eq (.loc 3) (.glob 11)) (.cons (.ret (.sub (.loc 1) (.lit (.int 1)))) .nil) .nil) (.cons (.ret .dead) .nil)))))))), 3, 4⟩
noncomputable def c22 : Fn := ⟨(.cons (.ret (.call 21 (.cons (.loc 0) (.cons (.loc 1) (.cons (.lst .nil) .nil))))) .nil), 2, 2⟩
noncomputable def c23 : Fn := ⟨(.cons (.asg 1 (.lit (.int 0))) (.cons (.asg 2 (.bif .len (.cons (.loc 0) .nil))) (.cons (.while (.and (.cons (.cmp .lt (.loc 1) (.loc 2)) (.cons (.cmp .mem (.sub (.loc 0) (.loc 1)) (.glob 17)) .nil))) (.cons (.aug 1 .add (.lit (.int 1))) .nil)) (.cons (.while (.and (.cons (.cmp .lt (.loc 1) (.loc 2)) (.cons (.cmp .mem (.sub (.loc 0) (.bin .sub (.loc 2) (.lit (.int 1)))) (.glob 17)) .nil))) (.cons (.aug 2 .sub (.lit (.int 1))) .nil)) (.cons (.ret (.slice (.loc 0) (.loc 1) (.loc 2))) .nil))))), 1, 3⟩
noncomputable def c24 : Fn := ⟨(.cons (.ite (.cmp .eq (.loc 0) (.lit (.str []))) (.cons (.ret (.neg (.lit (.int 1)))) .nil) .nil) (.cons (.asg 2 (.lit (.int 0))) (.cons (.forIn 3 (.bmeth (.loc 0) .lower .nil) (.cons (.asg 4 (.bmeth (.glob 18) .find (.cons (.loc 3) .nil))) (.cons (.ite (.or (.cons (.cmp .lt (.loc 4) (.lit (.int 0))) (.cons (.cmp .ge (.loc 4) (.loc 1)) .nil))) (.cons (.ret (.neg (.lit (.int 1)))) .nil) .nil) (.cons (.asg 2 (.bin .add (.bin .mul (.loc 2) (.loc 1)) (.loc 4))) (.cons (.ite (.cmp .gt (.loc 2) (.glob 13)) (.cons (.asg 2 (.bin .add (.glob 13) (.lit (.int 1)))) .nil) .nil) .nil))))) (.cons (.ret (.loc 2)) .nil)))), 2, 5⟩
noncomputable def c25 : Fn := ⟨(.cons (.ret (.pref (.bmeth (.slice (.loc 0) (.lit (.int 0)) (.lit (.int 2))) .lower .nil))) .nil), 1, 1⟩
noncomputable def c26 : Fn := ⟨(.cons (.ite (.cmp .eq (.loc 0) (.lit (.str [73, 110, 102, 105, 110, 105, 116, 121]))) (.cons (.ret (.lit (.bool true))) .nil) .nil) (.cons (.asg 1 (.call 20 (.cons (.loc 0) (.cons (.lit (.int 0)) .nil)))) (.cons (.asg 2 (.loc 1)) (.cons (.ite (.cmp .eq (.slice (.loc 0) (.loc 1) (.bin .add (.loc 1) (.lit (.int 1)))) (.lit (.str [46]))) (.cons (.asg 3 (.call 20 (.cons (.loc 0) (.cons (.bin .add (.loc 1) (.lit (.int 1))) .nil)))) (.cons (.aug 2 .add (.bin .sub (.bin .sub (.loc 3) (.loc 1)) (.lit (.int 1)))) (.cons (.asg 1 (.loc 3)) .nil))) .nil) (.cons (.ite (.cmp .eq (.loc 2) (.lit (.int 0))) (.cons (.ret (.lit (.bool false))) .nil) .nil) (.cons (.ite (.cmp .mem (.slice (.loc 0) (.loc 1) (.bin .add (.loc 1) (.lit (.int 1)))) (.tup (.cons (.lit (.str [101])) (.cons (.lit (.str [69])) .nil)))) (.cons (.asg 4 (.bin .add (.loc 1) (.lit (.int 1)))) (.cons (.ite (.cmp .mem (.slice (.loc 0) (.loc 4) (.bin .add (.loc 4) (.lit (.int 1)))) (.tup (.cons (.lit (.str [43])) (.cons (.lit (.str [45])) .nil)))) (.cons (.aug 4 .add (.lit (.int 1))) .nil) .nil) (.cons (.asg 1 (.call 20 (.cons (.loc 0) (.cons (.loc 4) .nil)))) (.cons (.ite (.cmp .eq (.loc 1) (.loc 4)) (.cons (.ret (.lit (.bool false))) .nil) .nil) .nil)))) .nil) (.cons (.ret (.cmp .eq (.loc 1) (.bif .len (.cons (.loc 0) .nil)))) .nil))))))), 1, 5⟩
noncomputable def c27 : Fn := ⟨(.cons (.asg 1 (.call 23 (.cons (.loc 0) .nil))) (.cons (.ite (.cmp .eq (.loc 1) (.lit (.str []))) (.cons (.ret (.tup (.cons (.glob 12) (.cons (.lit (.int 0)) .nil)))) .nil) .nil) (.cons (.asg 2 (.call 25 (.cons (.loc 1) .nil))) (.cons (.ite (.cmp .ne (.loc 2) (.lit (.int 10))) (.cons (.asg 3 (.call 24 (.cons (.slice (.loc 1) (.lit (.int 2)) (.lit .none)) (.cons (.loc 2) .nil)))) (.cons (.ret (.ite (.cmp .ge (.loc 3) (.lit (.int 0))) (.call 19 (.cons (.loc 3) .nil)) (.tup (.cons (.glob 14) (.cons (.lit (.int 0)) .nil))))) .nil)) .nil) (.cons (.asg 4 (.cmp .eq (.sub (.loc 1) (.lit (.int 0))) (.lit (.str [45])))) (.cons (.ite (.or (.cons (.loc 4) (.cons (.cmp .eq (.sub (.loc 1) (.lit (.int 0))) (.lit (.str [43]))) .nil))) (.cons (.asg 1 (.slice (.loc 1) (.lit (.int 1)) (.lit .none))) .nil) .nil) (.cons (.asg 3 (.call 24 (.cons (.loc 1) (.cons (.lit (.int 10)) .nil)))) (.cons (.ite (.cmp .lt (.loc 3) (.lit (.int 0))) (.cons (.ite (.call 26 (.cons (.loc 1) .nil)) (.cons (.raise 15 (.cons (.lit (.str [110, 111, 32, 119, 104, 111, 108, 101, 32, 110, 117, 109, 98, 101, 114])) .nil)) .nil) .nil) (.cons (.ret (.tup (.cons (.glob 14) (.cons (.lit (.int 0)) .nil)))) .nil)) .nil) (.cons (.ret (.call 19 (.cons (.ite (.loc 4) (.bin .sub (.lit (.int 0)) (.loc 3)) (.loc 3)) .nil))) .nil))))))))), 1, 5⟩
noncomputable def c28 : Fn := ⟨(.cons (.asg 1 (.sub (.loc 0) (.lit (.int 0)))) (.cons (.ite (.cmp .eq (.loc 1) (.glob 12)) (.cons (.ret (.loc 0)) .nil) .nil) (.cons (.ite (.cmp .eq (.loc 1) (.glob 15)) (.cons (.ret (.tup (.cons (.glob 12) (.cons (.sub (.loc 0) (.lit (.int 1))) .nil)))) .nil) .nil) (.cons (.ite (.cmp .eq (.loc 1) (.glob 11)) (.cons (.ret (.call 27 (.cons (.sub (.loc 0) (.lit (.int 1))) .nil))) .nil) .nil) (.cons (.ite (.cmp .eq (.loc 1) (.glob 16)) (.cons (.ret (.tup (.cons (.glob 12) (.cons (.lit (.int 0)) .nil)))) .nil) .nil) (.cons (.ret (.tup (.cons (.glob 14) (.cons (.lit (.int 0)) .nil)))) .nil)))))), 1, 2⟩
noncomputable def c29 : Fn := ⟨(.cons (.asg 2 (.bin .sub (.lit (.int 0)) (.bif .len (.cons (.loc 1) .nil)))) (.cons (.forIn 3 (.loc 0) (.cons (.aug 2 .add (.bin .add (.bif .len (.cons (.loc 3) .nil)) (.bif .len (.cons (.loc 1) .nil)))) .nil)) (.cons (.ite (.cmp .gt (.loc 2) (.glob 19)) (.cons .dead .nil) .nil) (.cons (.ret (.tup (.cons (.glob 11) (.cons (.bmeth (.loc 1) .join (.cons (.loc 0) .nil)) .nil)))) .nil)))), 2, 4⟩
noncomputable def c30 : Fn := ⟨(.cons (.augA (.loc 0) 9 .add (.lit (.int 1))) (.cons (.ite (.cmp .gt (.attr (.loc 0) 9) (.attr (.loc 0) 10)) (.cons .dead .nil) .nil) (.cons (.ite (.cmp .ge (.attr (.loc 0) 11) (.attr (.loc 0) 12)) (.cons .dead .nil) .nil) .nil))), 1, 1⟩
noncomputable def c31 : Fn := ⟨(.cons (.asg 2 (.bmeth (.attr (.loc 0) 7) .get1 (.cons (.attr (.loc 1) 0) .nil))) (.cons (.ite (.isN true (.loc 2)) (.cons (.raise 16 (.cons (.bin .add (.lit (.str [101, 120, 112, 114, 101, 115, 115, 105, 111, 110, 32])) (.bif .str (.cons (.attr (.loc 1) 0) .nil))) .nil)) .nil) .nil) (.cons (.expr (.call 30 (.cons (.loc 0) .nil))) (.cons (.augA (.loc 0) 11 .add (.lit (.int 1))) (.cons (.tryF 3 (.meth (.loc 2) 29 (.cons (.loc 0) (.cons (.loc 1) .nil))) (.cons (.augA (.loc 0) 11 .sub (.lit (.int 1))) .nil)) (.cons (.ite (.or (.cons (.cmp .eq (.attr (.loc 1) 0) (.glob 6)) (.cons (.cmp .eq (.attr (.loc 1) 0) (.glob 20)) .nil))) (.cons (.expr (.meth (.loc 0) 31 (.cons (.attr (.loc 1) 3) (.cons (.loc 3) .nil)))) .nil) .nil) (.cons (.ret (.loc 3)) .nil))))))), 2, 4⟩
noncomputable def c32 : Fn := ⟨(.cons (.ret (.ite (.cmp .eq (.sub (.loc 1) (.lit (.int 0))) (.glob 21)) (.tup (.cons (.glob 11) (.cons (.call 22 (.cons (.attr (.loc 0) 6) (.cons (.loc 1) .nil))) .nil))) (.loc 1))) .nil), 2, 2⟩
noncomputable def c33 : Fn := ⟨(.cons (.ite (.or (.cons (.cmp .eq (.loc 1) (.lit (.int 0))) (.cons (.cmp .ne (.bin .mod (.loc 0) (.loc 1)) (.lit (.int 0))) .nil))) (.cons (.raise 15 (.cons (.lit (.str [116, 104, 101, 32, 113, 117, 111, 116, 105, 101, 110, 116, 32, 105, 115, 32, 110, 111, 32, 119, 104, 111, 108, 101, 32, 110, 117, 109, 98, 101, 114])) .nil)) .nil) .nil) (.cons (.ret (.call 19 (.cons (.bin .fdiv (.loc 0) (.loc 1)) .nil))) .nil)), 2, 2⟩
noncomputable def c34 : Fn := ⟨(.cons (.ite (.cmp .eq (.loc 1) (.lit (.int 0))) (.cons (.ret (.glob 22)) .nil) .nil) (.cons (.asg 2 (.bin .mod (.bif .abs (.cons (.loc 0) .nil)) (.bif .abs (.cons (.loc 1) .nil)))) (.cons (.ret (.tup (.cons (.glob 12) (.cons (.ite (.cmp .lt (.loc 0) (.lit (.int 0))) (.bin .sub (.lit (.int 0)) (.loc 2)) (.loc 2)) .nil)))) .nil))), 2, 3⟩
noncomputable def c35 : Fn := ⟨(.cons (.ite (.cmp .eq (.bif .abs (.cons (.loc 0) .nil)) (.lit (.int 1))) (.cons (.ret (.tup (.cons (.glob 12) (.cons (.ite (.bin .mod (.loc 1) (.lit (.int 2))) (.loc 0) (.lit (.int 1))) .nil)))) .nil) .nil) (.cons (.ite (.or (.cons (.cmp .lt (.loc 1) (.lit (.int 0))) (.cons (.and (.cons (.cmp .gt (.loc 1) (.glob 23)) (.cons (.cmp .ne (.loc 0) (.lit (.int 0))) .nil))) .nil))) (.cons (.raise 15 (.cons (.lit (.str [116, 104, 101, 32, 112, 111, 119, 101, 114, 32, 105, 115, 32, 110, 111, 32, 119, 104, 111, 108, 101, 32, 110, 117, 109, 98, 101, 114, 32, 119, 105, 116, 104, 105, 110, 32, 116, 104, 101, 32, 98, 111, 117, 110, 100, 115])) .nil)) .nil) .nil) (.cons (.ret (.call 19 (.cons (.ite (.and (.cons (.cmp .eq (.loc 0) (.lit (.int 0))) (.cons (.cmp .gt (.loc 1) (.lit (.int 0))) .nil))) (.lit (.int 0)) (.bin .pow (.loc 0) (.loc 1))) .nil))) .nil))), 2, 2⟩
noncomputable def c36 : Fn := ⟨(.cons (.ite (.cmp .eq (.loc 0) (.lit (.str [43]))) (.cons (.ret (.call 19 (.cons (.bin .add (.loc 1) (.loc 2)) .nil))) .nil) .nil) (.cons (.ite (.cmp .eq (.loc 0) (.lit (.str [45]))) (.cons (.ret (.call 19 (.cons (.bin .sub (.loc 1) (.loc 2)) .nil))) .nil) .nil) (.cons (.ite (.cmp .eq (.loc 0) (.lit (.str [42]))) (.cons (.ret (.call 19 (.cons (.bin .mul (.loc 1) (.loc 2)) .nil))) .nil) .nil) (.cons (.ite (.cmp .eq (.loc 0) (.lit (.str [47]))) (.cons (.ret (.call 33 (.cons (.loc 1) (.cons (.loc 2) .nil)))) .nil) .nil) (.cons (.ite (.cmp .eq (.loc 0) (.lit (.str [37]))) (.cons (.ret (.call 34 (.cons (.loc 1) (.cons (.loc 2) .nil)))) .nil) .nil) (.cons (.ret (.call 35 (.cons (.loc 1) (.cons (.loc 2) .nil)))) .nil)))))), 3, 3⟩
noncomputable def c37 : Fn := ⟨(.cons (.ite (.and (.cons (.cmp .eq (.loc 0) (.lit (.str [42, 42]))) (.cons (.cmp .eq (.loc 2) (.tup (.cons (.glob 12) (.cons (.lit (.int 0)) .nil)))) .nil))) (.cons (.ret (.tup (.cons (.glob 12) (.cons (.lit (.int 1)) .nil)))) .nil) .nil) (.cons (.ite (.or (.cons (.cmp .eq (.sub (.loc 1) (.lit (.int 0))) (.glob 14)) (.cons (.cmp .eq (.sub (.loc 2) (.lit (.int 0))) (.glob 14)) .nil))) (.cons (.ret (.glob 22)) .nil) .nil) (.cons (.ret (.call 36 (.cons (.loc 0) (.cons (.sub (.loc 1) (.lit (.int 1))) (.cons (.sub (.loc 2) (.lit (.int 1))) .nil))))) .nil))), 3, 3⟩
noncomputable def c38 : Fn := ⟨(.cons (.asg 1 (.call 28 (.cons (.loc 0) .nil))) (.cons (.ite (.cmp .eq (.sub (.loc 1) (.lit (.int 0))) (.glob 14)) (.cons (.ret (.lit (.int 0))) .nil) .nil) (.cons (.asg 2 (.bin .mod (.sub (.loc 1) (.lit (.int 1))) (.glob 25))) (.cons (.ret (.ite (.cmp .ge (.loc 2) (.glob 24)) (.bin .sub (.loc 2) (.glob 25)) (.loc 2))) .nil)))), 1, 3⟩
noncomputable def c39 : Fn := ⟨(.cons (.ite (.bif .isStr (.cons (.loc 0) .nil)) (.cons (.ret (.call 0 (.cons (.glob 3) (.cons (.loc 0) (.cons (.loc 1) .nil))))) .nil) .nil) (.cons (.ite (.cmp .lt (.loc 0) (.lit (.int 0))) (.cons (.ret (.call 1 (.cons (.glob 9) (.cons (.lit (.str [45])) (.cons (.lst (.cons (.call 0 (.cons (.glob 2) (.cons (.neg (.loc 0)) (.cons (.loc 1) .nil)))) .nil)) (.cons (.loc 1) .nil)))))) .nil) .nil) (.cons (.ret (.call 0 (.cons (.glob 2) (.cons (.loc 0) (.cons (.loc 1) .nil))))) .nil))), 2, 2⟩
noncomputable def c40 : Fn := ⟨(.cons (.ite (.btw (.neg (.glob 26)) (.loc 0) (.glob 26)) (.cons (.ret (.loc 0)) .nil) .nil) (.cons (.ret (.lit .none)) .nil)), 1, 1⟩
noncomputable def c41 : Fn := ⟨(.cons (.asg 0 (.call 2 (.cons (.loc 0) .nil))) (.cons (.asg 3 (.attr (.loc 0) 0)) (.cons (.ite (.or (.cons (.cmp .eq (.loc 3) (.glob 2)) (.cons (.cmp .eq (.loc 3) (.glob 3)) .nil))) (.cons (.ret (.attr (.loc 0) 1)) .nil) .nil) (.cons (.ite (.cmp .eq (.loc 3) (.glob 1)) (.cons (.ret (.call 43 (.cons (.loc 0) (.cons (.loc 1) (.cons (.loc 2) .nil))))) .nil) .nil) (.cons (.ite (.cmp .eq (.loc 3) (.glob 9)) (.cons (.ret (.call 44 (.cons (.attr (.loc 0) 1) (.cons (.call 41 (.cons (.sub (.attr (.loc 0) 2) (.lit (.int 0))) (.cons (.loc 1) (.cons (.loc 2) .nil)))) .nil)))) .nil) .nil) (.cons (.ite (.cmp .eq (.loc 3) (.glob 8)) (.cons (.asg 4 (.call 41 (.cons (.sub (.attr (.loc 0) 2) (.lit (.int 0))) (.cons (.loc 1) (.cons (.loc 2) .nil))))) (.cons (.ret (.call 46 (.cons (.attr (.loc 0) 1) (.cons (.loc 4) (.cons (.call 41 (.cons (.sub (.attr (.loc 0) 2) (.lit (.int 1))) (.cons (.loc 1) (.cons (.loc 2) .nil)))) .nil))))) .nil)) .nil) (.cons (.asg 5 (.call 42 (.cons (.loc 0) (.cons (.loc 2) .nil)))) (.cons (.ite (.isN true (.loc 5)) (.cons (.ret (.lit .none)) .nil) .nil) (.cons (.ret (.bmeth (.loc 1) .get1 (.cons (.loc 5) .nil))) .nil))))))))), 3, 6⟩
noncomputable def c42 : Fn := ⟨(.cons (.ite (.cmp .eq (.attr (.loc 0) 0) (.glob 6)) (.cons (.ret (.attr (.loc 0) 1)) .nil) .nil) (.cons (.ite (.cmp .nmem (.attr (.loc 0) 0) (.tup (.cons (.glob 4) (.cons (.glob 7) .nil)))) (.cons (.ret (.lit .none)) .nil) .nil) (.cons (.asg 2 (.sub (.attr (.loc 0) 2) (.lit (.int 0)))) (.cons (.ite (.or (.cons (.cmp .ne (.attr (.loc 2) 0) (.glob 6)) (.cons (.cmp .ne (.attr (.loc 2) 1) (.loc 1)) .nil))) (.cons (.ret (.lit .none)) .nil) .nil) (.cons (.ite (.cmp .eq (.attr (.loc 0) 0) (.glob 4)) (.cons (.ret (.attr (.loc 0) 1)) .nil) .nil) (.cons (.ret (.call 3 (.cons (.sub (.attr (.loc 0) 2) (.lit (.int 1))) .nil))) .nil)))))), 2, 3⟩
noncomputable def c43 : Fn := ⟨(.cons (.asg 3 (.sub (.attr (.loc 0) 1) (.lit (.int 0)))) (.cons (.forR 4 (.bif .len (.cons (.attr (.loc 0) 2) .nil)) (.cons (.asg 5 (.call 41 (.cons (.sub (.attr (.loc 0) 2) (.loc 4)) (.cons (.loc 1) (.cons (.loc 2) .nil))))) (.cons (.ite (.isN true (.loc 5)) (.cons (.ret (.lit .none)) .nil) .nil) (.cons (.aug 3 .add (.bin .add (.bif .str (.cons (.loc 5) .nil)) (.sub (.attr (.loc 0) 1) (.bin .add (.loc 4) (.lit (.int 1)))))) .nil)))) (.cons (.ret (.loc 3)) .nil))), 3, 6⟩
noncomputable def c44 : Fn := ⟨(.cons (.ite (.or (.cons (.isN true (.loc 1)) (.cons (.bif .isStr (.cons (.loc 1) .nil)) .nil))) (.cons (.ret (.lit .none)) .nil) .nil) (.cons (.ite (.cmp .eq (.loc 0) (.lit (.str [45]))) (.cons (.ret (.neg (.loc 1))) .nil) .nil) (.cons (.ite (.cmp .eq (.loc 0) (.lit (.str [43]))) (.cons (.ret (.loc 1)) .nil) .nil) (.cons (.ite (.cmp .eq (.loc 0) (.lit (.str [126]))) (.cons (.ret (.bin .sub (.neg (.lit (.int 1))) (.call 45 (.cons (.loc 1) .nil)))) .nil) .nil) (.cons (.ret (.lit .none)) .nil))))), 2, 2⟩
noncomputable def c45 : Fn := ⟨(.cons (.asg 0 (.bin .mod (.loc 0) (.lit (.int 4294967296)))) (.cons (.ite (.cmp .ge (.loc 0) (.lit (.int 2147483648))) (.cons (.ret (.bin .sub (.loc 0) (.lit (.int 4294967296)))) .nil) .nil) (.cons (.ret (.loc 0)) .nil))), 1, 1⟩
noncomputable def c46 : Fn := ⟨(.cons (.ite (.or (.cons (.isN true (.loc 1)) (.cons (.isN true (.loc 2)) .nil))) (.cons (.ret (.lit .none)) .nil) .nil) (.cons (.ite (.or (.cons (.bif .isStr (.cons (.loc 1) .nil)) (.cons (.bif .isStr (.cons (.loc 2) .nil)) .nil))) (.cons (.ite (.cmp .eq (.loc 0) (.lit (.str [43]))) (.cons (.ret (.bin .add (.bif .str (.cons (.loc 1) .nil)) (.bif .str (.cons (.loc 2) .nil)))) .nil) .nil) (.cons (.ret (.lit .none)) .nil)) .nil) (.cons (.asg 3 (.call 47 (.cons (.loc 0) (.cons (.loc 1) (.cons (.loc 2) .nil))))) (.cons (.ite (.isN true (.loc 3)) (.cons (.ret (.lit .none)) .nil) .nil) (.cons (.ret (.call 40 (.cons (.loc 3) .nil))) .nil))))), 3, 4⟩
noncomputable def c47 : Fn := ⟨(.cons (.ite (.cmp .eq (.loc 0) (.lit (.str [43]))) (.cons (.ret (.bin .add (.loc 1) (.loc 2))) .nil) .nil) (.cons (.ite (.cmp .eq (.loc 0) (.lit (.str [45]))) (.cons (.ret (.bin .sub (.loc 1) (.loc 2))) .nil) .nil) (.cons (.ite (.cmp .eq (.loc 0) (.lit (.str [42]))) (.cons (.ret (.bin .mul (.loc 1) (.loc 2))) .nil) .nil) (.cons (.ite (.cmp .eq (.loc 0) (.lit (.str [38]))) (.cons (.ret (.call 45 (.cons (.bin .band (.call 45 (.cons (.loc 1) .nil)) (.call 45 (.cons (.loc 2) .nil))) .nil))) .nil) .nil) (.cons (.ite (.cmp .eq (.loc 0) (.lit (.str [124]))) (.cons (.ret (.call 45 (.cons (.bin .bor (.call 45 (.cons (.loc 1) .nil)) (.call 45 (.cons (.loc 2) .nil))) .nil))) .nil) .nil) (.cons (.ite (.cmp .eq (.loc 0) (.lit (.str [94]))) (.cons (.ret (.call 45 (.cons (.bin .bxor (.call 45 (.cons (.loc 1) .nil)) (.call 45 (.cons (.loc 2) .nil))) .nil))) .nil) .nil) (.cons (.ite (.cmp .eq (.loc 0) (.lit (.str [42, 42]))) (.cons (.ret (.call 48 (.cons (.loc 1) (.cons (.loc 2) .nil)))) .nil) .nil) (.cons (.ite (.cmp .eq (.loc 2) (.lit (.int 0))) (.cons (.ret (.lit .none)) .nil) .nil) (.cons (.ite (.cmp .eq (.loc 0) (.lit (.str [37]))) (.cons (.asg 3 (.bin .mod (.bif .abs (.cons (.loc 1) .nil)) (.bif .abs (.cons (.loc 2) .nil)))) (.cons (.ret (.ite (.cmp .lt (.loc 1) (.lit (.int 0))) (.neg (.loc 3)) (.loc 3))) .nil)) .nil) (.cons (.ite (.and (.cons (.cmp .eq (.loc 0) (.lit (.str [47]))) (.cons (.cmp .eq (.bin .mod (.loc 1) (.loc 2)) (.lit (.int 0))) .nil))) (.cons (.ret (.bin .fdiv (.loc 1) (.loc 2))) .nil) .nil) (.cons (.ret (.lit .none)) .nil))))))))))), 3, 4⟩
noncomputable def c48 : Fn := ⟨(.cons (.ite (.or (.cons (.cmp .eq (.loc 0) (.lit (.int 1))) (.cons (.cmp .eq (.loc 0) (.neg (.lit (.int 1)))) .nil))) (.cons (.ret (.ite (.cmp .eq (.bin .mod (.loc 1) (.lit (.int 2))) (.lit (.int 1))) (.loc 0) (.lit (.int 1)))) .nil) .nil) (.cons (.ite (.cmp .eq (.loc 0) (.lit (.int 0))) (.cons (.ret (.ite (.cmp .lt (.loc 1) (.lit (.int 0))) (.lit .none) (.ite (.cmp .eq (.loc 1) (.lit (.int 0))) (.lit (.int 1)) (.lit (.int 0))))) .nil) .nil) (.cons (.ite (.or (.cons (.cmp .lt (.loc 1) (.lit (.int 0))) (.cons (.cmp .gt (.loc 1) (.lit (.int 53))) .nil))) (.cons (.ret (.lit .none)) .nil) .nil) (.cons (.ret (.bin .pow (.loc 0) (.loc 1))) .nil)))), 2, 2⟩
noncomputable def c49 : Fn := ⟨(.cons (.ite (.cmp .ne (.sub (.loc 0) (.lit (.int 0))) (.lit (.int 5))) (.cons (.ret (.tup (.cons (.sub (.loc 0) (.lit (.int 0))) (.cons (.sub (.loc 0) (.lit (.int 1))) .nil)))) .nil) .nil) (.cons (.asg 1 (.bmeth (.sub (.loc 0) (.lit (.int 1))) .strip (.cons (.lit (.str [32])) .nil))) (.cons (.ite (.cmp .eq (.loc 1) (.lit (.str []))) (.cons (.ret (.tup (.cons (.lit (.int 3)) (.cons (.lit (.int 0)) .nil)))) .nil) .nil) (.cons (.asg 2 (.ite (.cmp .eq (.sub (.loc 1) (.lit (.int 0))) (.lit (.str [45]))) (.slice (.loc 1) (.lit (.int 1)) (.lit .none)) (.loc 1))) (.cons (.ite (.or (.cons (.cmp .eq (.loc 2) (.lit (.str []))) (.cons (.not (.bif .all (.cons (.cin (.loc 2) [48, 49, 50, 51, 52, 53, 54, 55, 56, 57]) .nil))) .nil))) (.cons (.ret (.tup (.cons (.lit (.int 4)) (.cons (.lit (.int 0)) .nil)))) .nil) .nil) (.cons (.asg 3 (.bif .int (.cons (.slice (.loc 2) (.neg (.lit (.int 16))) (.lit .none)) .nil))) (.cons (.ite (.or (.cons (.cmp .ne (.bmeth (.slice (.loc 2) (.lit .none) (.neg (.lit (.int 16)))) .strip (.cons (.lit (.str [48])) .nil)) (.lit (.str []))) (.cons (.cmp .gt (.loc 3) (.glob 27)) .nil))) (.cons (.ret (.tup (.cons (.neg (.lit (.int 1))) (.cons (.lit (.int 0)) .nil)))) .nil) .nil) (.cons (.ret (.tup (.cons (.lit (.int 3)) (.cons (.ite (.cmp .eq (.sub (.loc 1) (.lit (.int 0))) (.lit (.str [45]))) (.bin .sub (.lit (.int 0)) (.loc 3)) (.loc 3)) .nil)))) .nil)))))))), 1, 4⟩
noncomputable def c50 : Fn := ⟨(.cons (.ite (.cmp .eq (.sub (.loc 0) (.lit (.int 0))) (.lit (.int 4))) (.cons (.ret (.lit (.str [78, 97, 78]))) .nil) .nil) (.cons (.ret (.ite (.cmp .eq (.sub (.loc 0) (.lit (.int 0))) (.lit (.int 5))) (.sub (.loc 0) (.lit (.int 1))) (.bif .str (.cons (.sub (.loc 0) (.lit (.int 1))) .nil)))) .nil)), 1, 1⟩
noncomputable def c51 : Fn := ⟨(.cons (.ret (.ite (.cmp .lt (.loc 0) (.lit (.int 2147483648))) (.loc 0) (.bin .sub (.loc 0) (.lit (.int 4294967296))))) .nil), 1, 1⟩
noncomputable def c52 : Fn := ⟨(.cons (.ite (.cmp .lt (.loc 1) (.lit (.int 0))) (.cons (.ret (.ite (.cmp .eq (.bin .mul (.loc 0) (.loc 0)) (.lit (.int 1))) (.ite (.cmp .eq (.bin .mod (.loc 1) (.lit (.int 2))) (.lit (.int 1))) (.loc 0) (.lit (.int 1))) (.lit .none))) .nil) .nil) (.cons (.asg 2 (.lit (.int 1))) (.cons (.forR 3 (.ite (.cmp .lt (.loc 1) (.lit (.int 54))) (.loc 1) (.bin .add (.lit (.int 54)) (.bin .mod (.loc 1) (.lit (.int 2))))) (.cons (.asg 2 (.bin .mul (.loc 2) (.loc 0))) (.cons (.ite (.cmp .gt (.bif .abs (.cons (.loc 2) .nil)) (.glob 27)) (.cons (.ret (.lit .none)) .nil) .nil) .nil))) (.cons (.ret (.loc 2)) .nil)))), 2, 4⟩
noncomputable def c53 : Fn := ⟨(.cons (.ite (.or (.cons (.cmp .eq (.loc 0) (.lit (.str [43]))) (.cons (.cmp .eq (.loc 0) (.lit (.str [45]))) .nil))) (.cons (.asg 3 (.ite (.cmp .eq (.loc 0) (.lit (.str [43]))) (.bin .add (.loc 1) (.loc 2)) (.bin .sub (.loc 1) (.loc 2)))) .nil) (.cons (.ite (.cmp .eq (.loc 0) (.lit (.str [42]))) (.cons (.asg 3 (.bin .mul (.loc 1) (.loc 2))) .nil) (.cons (.ite (.cmp .eq (.loc 0) (.lit (.str [42, 42]))) (.cons (.asg 3 (.call 52 (.cons (.loc 1) (.cons (.loc 2) .nil)))) .nil) (.cons (.ite (.cmp .eq (.loc 0) (.lit (.str [47]))) (.cons (.asg2 3 4 (.ite (.cmp .ne (.loc 2) (.lit (.int 0))) (.bif .divmod (.cons (.loc 1) (.cons (.loc 2) .nil))) (.tup (.cons (.lit (.int 0)) (.cons (.lit (.int 1)) .nil))))) (.cons (.ite (.cmp .ne (.loc 4) (.lit (.int 0))) (.cons (.ret (.lit .none)) .nil) .nil) .nil)) (.cons (.asg 3 (.sub (.bif .divmod (.cons (.loc 1) (.cons (.loc 2) .nil))) (.lit (.int 1)))) (.cons (.ite (.and (.cons (.cmp .ne (.loc 3) (.lit (.int 0))) (.cons (.cmp .ne (.cmp .lt (.loc 3) (.lit (.int 0))) (.cmp .lt (.loc 1) (.lit (.int 0)))) .nil))) (.cons (.asg 3 (.bin .sub (.loc 3) (.loc 2))) .nil) .nil) .nil))) .nil)) .nil)) .nil)) (.cons (.ret (.ite (.or (.cons (.isN true (.loc 3)) (.cons (.cmp .gt (.bif .abs (.cons (.loc 3) .nil)) (.glob 27)) .nil))) (.lit .none) (.loc 3))) .nil)), 3, 5⟩
noncomputable def c54 : Fn := ⟨(.cons (.asg 3 (.bin .mod (.loc 1) (.lit (.int 4294967296)))) (.cons (.asg 4 (.bin .mod (.loc 2) (.lit (.int 4294967296)))) (.cons (.asg 5 (.bin .band (.loc 3) (.loc 4))) (.cons (.ite (.cmp .eq (.loc 0) (.lit (.str [38]))) (.cons (.ret (.call 51 (.cons (.loc 5) .nil))) .nil) .nil) (.cons (.ret (.call 51 (.cons (.ite (.cmp .eq (.loc 0) (.lit (.str [124]))) (.bin .sub (.bin .add (.loc 3) (.loc 4)) (.loc 5)) (.bin .sub (.bin .add (.loc 3) (.loc 4)) (.bin .mul (.lit (.int 2)) (.loc 5)))) .nil))) .nil))))), 3, 6⟩
noncomputable def c55 : Fn := ⟨(.cons (.ite (.or (.cons (.cmp .lt (.sub (.loc 1) (.lit (.int 0))) (.lit (.int 0))) (.cons (.cmp .lt (.sub (.loc 2) (.lit (.int 0))) (.lit (.int 0))) .nil))) (.cons (.ret (.ite (.cmp .lt (.sub (.loc 1) (.lit (.int 0))) (.lit (.int 0))) (.loc 1) (.loc 2))) .nil) .nil) (.cons (.ite (.cmp .eq (.loc 0) (.lit (.str [60]))) (.cons (.ret (.tup (.cons (.neg (.lit (.int 2))) (.cons (.lit (.int 0)) (.cons (.lit (.bool false)) .nil))))) .nil) .nil) (.cons (.asg 3 (.or (.cons (.cmp .eq (.sub (.loc 1) (.lit (.int 0))) (.lit (.int 5))) (.cons (.cmp .eq (.sub (.loc 2) (.lit (.int 0))) (.lit (.int 5))) .nil)))) (.cons (.ite (.and (.cons (.cmp .eq (.loc 0) (.lit (.str [43]))) (.cons (.loc 3) .nil))) (.cons (.ret (.tup (.cons (.lit (.int 5)) (.cons (.bin .add (.call 50 (.cons (.loc 1) .nil)) (.call 50 (.cons (.loc 2) .nil))) (.cons (.and (.cons (.sub (.loc 1) (.lit (.int 2))) (.cons (.sub (.loc 2) (.lit (.int 2))) .nil))) .nil))))) .nil) .nil) (.cons (.asg 4 (.and (.cons (.sub (.loc 1) (.lit (.int 2))) (.cons (.sub (.loc 2) (.lit (.int 2))) (.cons (.not (.loc 3)) .nil))))) (.cons (.asg 5 (.call 49 (.cons (.loc 1) .nil))) (.cons (.asg 6 (.call 49 (.cons (.loc 2) .nil))) (.cons (.ite (.or (.cons (.cmp .lt (.sub (.loc 5) (.lit (.int 0))) (.lit (.int 0))) (.cons (.cmp .lt (.sub (.loc 6) (.lit (.int 0))) (.lit (.int 0))) .nil))) (.cons (.ret (.tup (.cons (.neg (.lit (.int 1))) (.cons (.lit (.int 0)) (.cons (.lit (.bool false)) .nil))))) .nil) .nil) (.cons (.ite (.cmp .mem (.loc 0) (.tup (.cons (.lit (.str [38])) (.cons (.lit (.str [124])) (.cons (.lit (.str [94])) .nil))))) (.cons (.ret (.tup (.cons (.lit (.int 3)) (.cons (.call 54 (.cons (.loc 0) (.cons (.sub (.loc 5) (.lit (.int 1))) (.cons (.sub (.loc 6) (.lit (.int 1))) .nil)))) (.cons (.loc 4) .nil))))) .nil) .nil) (.cons (.ite (.and (.cons (.cmp .eq (.loc 0) (.lit (.str [42, 42]))) (.cons (.cmp .eq (.loc 6) (.tup (.cons (.lit (.int 3)) (.cons (.lit (.int 0)) .nil)))) .nil))) (.cons (.ret (.tup (.cons (.lit (.int 3)) (.cons (.lit (.int 1)) (.cons (.loc 4) .nil))))) .nil) .nil) (.cons (.ite (.or (.cons (.cmp .eq (.sub (.loc 5) (.lit (.int 0))) (.lit (.int 4))) (.cons (.cmp .eq (.sub (.loc 6) (.lit (.int 0))) (.lit (.int 4))) (.cons (.and (.cons (.cmp .eq (.loc 0) (.lit (.str [37]))) (.cons (.cmp .eq (.sub (.loc 6) (.lit (.int 1))) (.lit (.int 0))) .nil))) .nil)))) (.cons (.ret (.tup (.cons (.lit (.int 4)) (.cons (.lit (.int 0)) (.cons (.lit (.bool false)) .nil))))) .nil) .nil) (.cons (.asg 7 (.call 53 (.cons (.loc 0) (.cons (.sub (.loc 5) (.lit (.int 1))) (.cons (.sub (.loc 6) (.lit (.int 1))) .nil))))) (.cons (.ret (.ite (.isN true (.loc 7)) (.tup (.cons (.neg (.lit (.int 1))) (.cons (.lit (.int 0)) (.cons (.lit (.bool false)) .nil)))) (.tup (.cons (.lit (.int 3)) (.cons (.loc 7) (.cons (.loc 4) .nil)))))) .nil))))))))))))), 3, 8⟩
noncomputable def c56 : Fn := ⟨(.cons (.ite (.cmp .eq (.loc 0) (.lit (.str [33]))) (.cons (.ret (.tup (.cons (.neg (.lit (.int 2))) (.cons (.lit (.int 0)) (.cons (.lit (.bool false)) .nil))))) .nil) .nil) (.cons (.ite (.cmp .lt (.sub (.loc 1) (.lit (.int 0))) (.lit (.int 0))) (.cons (.ret (.loc 1)) .nil) .nil) (.cons (.asg 2 (.call 49 (.cons (.loc 1) .nil))) (.cons (.asg 3 (.and (.cons (.sub (.loc 1) (.lit (.int 2))) (.cons (.cmp .eq (.sub (.loc 1) (.lit (.int 0))) (.lit (.int 3))) .nil)))) (.cons (.ite (.cmp .lt (.sub (.loc 2) (.lit (.int 0))) (.lit (.int 0))) (.cons (.ret (.tup (.cons (.neg (.lit (.int 1))) (.cons (.lit (.int 0)) (.cons (.lit (.bool false)) .nil))))) .nil) .nil) (.cons (.ite (.cmp .eq (.loc 0) (.lit (.str [126]))) (.cons (.ret (.tup (.cons (.lit (.int 3)) (.cons (.call 51 (.cons (.bin .sub (.lit (.int 4294967295)) (.bin .mod (.sub (.loc 2) (.lit (.int 1))) (.lit (.int 4294967296)))) .nil)) (.cons (.loc 3) .nil))))) .nil) .nil) (.cons (.ret (.tup (.cons (.sub (.loc 2) (.lit (.int 0))) (.cons (.ite (.cmp .eq (.loc 0) (.lit (.str [45]))) (.bin .sub (.lit (.int 0)) (.sub (.loc 2) (.lit (.int 1)))) (.sub (.loc 2) (.lit (.int 1)))) (.cons (.loc 3) .nil))))) .nil))))))), 2, 4⟩
noncomputable def c57 : Fn := ⟨(.cons (.asg 2 (.sub (.loc 0) (.lit (.int 0)))) (.cons (.asg 3 (.lit (.bool true))) (.cons (.forR 4 (.bif .len (.cons (.loc 1) .nil)) (.cons (.ite (.cmp .lt (.sub (.sub (.loc 1) (.loc 4)) (.lit (.int 0))) (.lit (.int 0))) (.cons (.ret (.sub (.loc 1) (.loc 4))) .nil) .nil) (.cons (.asg 2 (.bin .add (.bin .add (.loc 2) (.call 50 (.cons (.sub (.loc 1) (.loc 4)) .nil))) (.sub (.loc 0) (.bin .add (.loc 4) (.lit (.int 1)))))) (.cons (.asg 3 (.and (.cons (.loc 3) (.cons (.sub (.sub (.loc 1) (.loc 4)) (.lit (.int 2))) .nil)))) .nil)))) (.cons (.ret (.tup (.cons (.lit (.int 5)) (.cons (.loc 2) (.cons (.loc 3) .nil))))) .nil)))), 2, 5⟩
noncomputable def c58 : Fn := ⟨(.cons (.ite (.bif .isStr (.cons (.loc 0) .nil)) (.cons (.ret (.call 0 (.cons (.glob 3) (.cons (.loc 0) (.cons (.lit (.int 0)) .nil))))) .nil) .nil) (.cons (.ite (.cmp .lt (.loc 0) (.lit (.int 0))) (.cons (.ret (.call 1 (.cons (.glob 9) (.cons (.lit (.str [45])) (.cons (.lst (.cons (.call 0 (.cons (.glob 2) (.cons (.bin .sub (.lit (.int 0)) (.loc 0)) (.cons (.lit (.int 0)) .nil)))) .nil)) (.cons (.lit (.int 0)) .nil)))))) .nil) .nil) (.cons (.ret (.call 0 (.cons (.glob 2) (.cons (.loc 0) (.cons (.lit (.int 0)) .nil))))) .nil))), 1, 1⟩
noncomputable def c59 : Fn := ⟨(.cons (.asg 2 (.bin .mod (.loc 1) (.bif .len (.cons (.sub (.loc 0) (.lit (.str [118, 97, 108, 117, 101, 115]))) .nil)))) (.cons (.asg 3 (.sub (.sub (.loc 0) (.lit (.str [118, 97, 108, 117, 101, 115]))) (.loc 2))) (.cons (.ite (.and (.cons (.bif .isStr (.cons (.loc 3) .nil)) (.cons (.cmp .gt (.bif .len (.cons (.loc 3) .nil)) (.lit (.int 20))) .nil))) (.cons (.ret (.call 60 (.cons (.loc 0) (.cons (.lit (.int 0)) (.cons (.loc 1) .nil))))) .nil) .nil) (.cons (.asg 4 (.bin .add (.lit (.str [65])) (.bif .str (.cons (.loc 2) .nil)))) (.cons (.asg 5 (.bin .mod (.bin .fdiv (.loc 1) (.bif .len (.cons (.sub (.loc 0) (.lit (.str [118, 97, 108, 117, 101, 115]))) .nil))) (.lit (.int 8)))) (.cons (.asg 6 (.call 0 (.cons (.glob 6) (.cons (.lit (.str [69])) (.cons (.lit (.int 0)) .nil))))) (.cons (.ite (.cmp .eq (.loc 5) (.lit (.int 3))) (.cons (.asg 7 (.call 1 (.cons (.glob 4) (.cons (.loc 4) (.cons (.lst (.cons (.loc 6) .nil)) (.cons (.lit (.int 0)) .nil)))))) .nil) (.cons (.ite (.cmp .eq (.loc 5) (.lit (.int 4))) (.cons (.asg 7 (.call 1 (.cons (.glob 7) (.cons (.lit (.str [])) (.cons (.lst (.cons (.loc 6) (.cons (.call 0 (.cons (.glob 3) (.cons (.loc 4) (.cons (.lit (.int 0)) .nil)))) .nil))) (.cons (.lit (.int 0)) .nil)))))) .nil) (.cons (.ite (.cmp .eq (.loc 5) (.lit (.int 5))) (.cons (.asg 7 (.call 1 (.cons (.glob 7) (.cons (.lit (.str [])) (.cons (.lst (.cons (.loc 6) (.cons (.call 0 (.cons (.glob 1) (.cons (.tup (.cons (.loc 4) .nil)) (.cons (.lit (.int 0)) .nil)))) .nil))) (.cons (.lit (.int 0)) .nil)))))) .nil) (.cons (.ite (.cmp .eq (.loc 5) (.lit (.int 6))) (.cons (.asg 7 (.call 1 (.cons (.glob 4) (.cons (.loc 4) (.cons (.lst (.cons (.call 0 (.cons (.glob 6) (.cons (.lit (.str [70])) (.cons (.lit (.int 0)) .nil)))) .nil)) (.cons (.lit (.int 0)) .nil)))))) .nil) (.cons (.asg 7 (.call 0 (.cons (.glob 6) (.cons (.ite (.cmp .eq (.loc 5) (.lit (.int 7))) (.lit (.str [90])) (.loc 4)) (.cons (.lit (.int 0)) .nil))))) .nil)) .nil)) .nil)) .nil)) (.cons (.ite (.or (.cons (.isN true (.loc 3)) (.cons (.cmp .gt (.loc 5) (.lit (.int 5))) .nil))) (.cons (.ret (.tup (.cons (.loc 7) (.cons (.loc 7) (.cons (.tup (.cons (.neg (.lit (.int 2))) (.cons (.lit (.int 0)) (.cons (.lit (.bool false)) .nil)))) (.cons (.lit (.int 1)) .nil)))))) .nil) .nil) (.cons (.ret (.tup (.cons (.loc 7) (.cons (.call 58 (.cons (.loc 3) .nil)) (.cons (.tup (.cons (.ite (.bif .isStr (.cons (.loc 3) .nil)) (.lit (.int 5)) (.lit (.int 3))) (.cons (.loc 3) (.cons (.lit (.bool true)) .nil)))) (.cons (.lit (.int 1)) .nil)))))) .nil))))))))), 2, 8⟩
noncomputable def c60 : Fn := ⟨(.cons (.ite (.and (.cons (.cmp .eq (.loc 1) (.lit (.int 5))) (.cons (.cmp .gt (.bif .len (.cons (.sub (.loc 0) (.lit (.str [118, 97, 108, 117, 101, 115]))) .nil)) (.lit (.int 0))) .nil))) (.cons (.ret (.call 59 (.cons (.loc 0) (.cons (.loc 2) .nil)))) .nil) .nil) (.cons (.ite (.cmp .eq (.loc 1) (.lit (.int 4))) (.cons (.asg 3 (.sub (.glob 29) (.bin .mod (.loc 2) (.lit (.int 10))))) (.cons (.asg 4 (.ite (.cmp .eq (.bin .mod (.bin .fdiv (.loc 2) (.lit (.int 10))) (.lit (.int 4))) (.lit (.int 1))) (.call 0 (.cons (.glob 1) (.cons (.tup (.cons (.loc 3) .nil)) (.cons (.lit (.int 0)) .nil)))) (.call 0 (.cons (.glob 3) (.cons (.loc 3) (.cons (.lit (.int 0)) .nil)))))) (.cons (.ret (.tup (.cons (.loc 4) (.cons (.loc 4) (.cons (.tup (.cons (.lit (.int 5)) (.cons (.loc 3) (.cons (.lit (.bool true)) .nil)))) (.cons (.lit (.int 1)) .nil)))))) .nil))) .nil) (.cons (.asg 5 (.ite (.cmp .eq (.loc 1) (.lit (.int 3))) (.bin .mod (.loc 2) (.lit (.int 4096))) (.sub (.glob 28) (.bin .mod (.loc 2) (.lit (.int 24)))))) (.cons (.asg 4 (.call 0 (.cons (.glob 2) (.cons (.loc 5) (.cons (.lit (.int 0)) .nil))))) (.cons (.ret (.tup (.cons (.loc 4) (.cons (.loc 4) (.cons (.tup (.cons (.lit (.int 3)) (.cons (.loc 5) (.cons (.lit (.bool true)) .nil)))) (.cons (.lit (.int 1)) .nil)))))) .nil))))), 3, 6⟩
noncomputable def c61 : Fn := ⟨(.cons (.asg 3 (.call 49 (.cons (.loc 1) .nil))) (.cons (.asg 4 (.call 49 (.cons (.loc 2) .nil))) (.cons (.ret (.ite (.and (.cons (.cmp .eq (.loc 0) (.lit (.str [42, 42]))) (.cons (.cmp .gt (.bif .abs (.cons (.sub (.loc 3) (.lit (.int 1))) .nil)) (.lit (.int 99))) (.cons (.cmp .gt (.sub (.loc 4) (.lit (.int 1))) (.lit (.int 9))) .nil)))) (.lit (.str [45])) (.loc 0))) .nil))), 3, 5⟩
noncomputable def c62 : Fn := ⟨(.cons (.asg 3 (.csub (.loc 2) 2)) (.cons (.ite (.cmp .eq (.loc 0) (.lit (.int 6))) (.cons (.asg 4 (.glob 9)) (.cons (.asg 5 (.sub (.glob 30) (.bin .mod (.loc 1) (.lit (.int 6))))) (.cons (.asg 6 (.call 56 (.cons (.loc 5) (.cons (.sub (.loc 3) (.lit (.int 0))) .nil)))) .nil))) (.cons (.ite (.cmp .eq (.loc 0) (.lit (.int 7))) (.cons (.asg 4 (.glob 0)) (.cons (.asg 5 (.lit (.str []))) (.cons (.asg 6 (.sub (.loc 3) (.lit (.int 0)))) .nil))) (.cons (.ite (.cmp .eq (.loc 0) (.lit (.int 8))) (.cons (.asg 4 (.glob 1)) (.cons (.asg 5 (.slice (.tup (.cons (.sub (.glob 31) (.bin .mod (.bin .fdiv (.loc 1) (.lit (.int 2))) (.lit (.int 4)))) (.cons (.sub (.glob 31) (.bin .mod (.bin .fdiv (.loc 1) (.lit (.int 8))) (.lit (.int 4)))) (.cons (.sub (.glob 31) (.bin .mod (.bin .fdiv (.loc 1) (.lit (.int 32))) (.lit (.int 4)))) .nil)))) (.lit .none) (.bin .add (.bif .len (.cons (.loc 2) .nil)) (.lit (.int 1))))) (.cons (.asg 6 (.call 57 (.cons (.loc 5) (.cons (.loc 3) .nil)))) .nil))) (.cons (.asg 4 (.glob 8)) (.cons (.asg 5 (.call 61 (.cons (.sub (.glob 32) (.bin .mod (.loc 1) (.lit (.int 12)))) (.cons (.sub (.loc 3) (.lit (.int 0))) (.cons (.sub (.loc 3) (.lit (.int 1))) .nil))))) (.cons (.asg 6 (.call 55 (.cons (.loc 5) (.cons (.sub (.loc 3) (.lit (.int 0))) (.cons (.sub (.loc 3) (.lit (.int 1))) .nil))))) .nil)))) .nil)) .nil)) (.cons (.asg 7 (.call 1 (.cons (.loc 4) (.cons (.loc 5) (.cons (.csub (.loc 2) 0) (.cons (.lit (.int 0)) .nil)))))) (.cons (.ret (.tup (.cons (.loc 7) (.cons (.call 1 (.cons (.loc 4) (.cons (.loc 5) (.cons (.csub (.loc 2) 1) (.cons (.lit (.int 0)) .nil))))) (.cons (.loc 6) (.cons (.bin .add (.lit (.int 1)) (.bif .max (.cons (.csub (.loc 2) 3) .nil))) .nil)))))) .nil)))), 3, 8⟩
noncomputable def c63 : Fn := ⟨(.cons (.tryX (.meth (.loc 0) 29 (.cons (.loc 1) .nil)) 15 16 (-1) 0 (-2) 0) .nil), 2, 2⟩
noncomputable def c64 : Fn := ⟨(.cons (.for4 1 2 3 4 (.sub (.loc 0) (.lit (.str [115, 116, 97, 99, 107]))) (.cons (.asg 5 (.ite (.sub (.loc 3) (.lit (.int 2))) (.sub (.loc 3) (.lit (.int 1))) (.lit .none))) (.cons (.ite (.or (.cons (.cmp .ne (.call 16 (.cons (.loc 1) (.cons (.sub (.loc 0) (.lit (.str [107, 110, 111, 119, 110]))) (.cons (.lit (.str [69])) .nil)))) (.loc 5)) (.cons (.cmp .ne (.call 41 (.cons (.loc 1) (.cons (.sub (.loc 0) (.lit (.str [107, 110, 111, 119, 110]))) (.cons (.lit (.str [69])) .nil)))) (.loc 5)) .nil))) (.cons (.ret (.lit (.bool false))) .nil) .nil) (.cons (.ite (.cmp .ne (.call 63 (.cons (.sub (.loc 0) (.lit (.str [109]))) (.cons (.loc 2) .nil))) (.tup (.cons (.sub (.loc 3) (.lit (.int 0))) (.cons (.sub (.loc 3) (.lit (.int 1))) .nil)))) (.cons (.ret (.lit (.bool false))) .nil) .nil) (.cons (.ite (.isN false (.loc 5)) (.cons (.asgI (.sub (.loc 0) (.lit (.str [107, 110, 111, 119, 110]))) (.bin .add (.lit (.str [65])) (.bif .str (.cons (.bif .len (.cons (.sub (.loc 0) (.lit (.str [118, 97, 108, 117, 101, 115]))) .nil)) .nil))) (.loc 5)) (.cons (.ite (.cmp .ne (.call 63 (.cons (.sub (.loc 0) (.lit (.str [109]))) (.cons (.call 39 (.cons (.loc 5) (.cons (.lit (.int 0)) .nil))) .nil))) (.tup (.cons (.sub (.loc 3) (.lit (.int 0))) (.cons (.sub (.loc 3) (.lit (.int 1))) .nil)))) (.cons (.ret (.lit (.bool false))) .nil) .nil) .nil)) .nil) (.cons (.expr (.bmeth (.sub (.loc 0) (.lit (.str [118, 97, 108, 117, 101, 115]))) .append (.cons (.loc 5) .nil))) .nil)))))) (.cons (.asgI (.loc 0) (.lit (.str [115, 116, 97, 99, 107])) (.mlist .nil)) (.cons (.ret (.lit (.bool true))) .nil))), 1, 6⟩
noncomputable def c65 : Fn := ⟨(.cons (.asg 2 (.bin .mod (.loc 1) (.lit (.int 16)))) (.cons (.asg 3 (.bin .fdiv (.loc 1) (.lit (.int 16)))) (.cons (.ite (.cmp .eq (.loc 2) (.lit (.int 15))) (.cons (.ret (.call 64 (.cons (.loc 0) .nil))) .nil) .nil) (.cons (.asg 4 (.ite (.or (.cons (.cmp .gt (.loc 2) (.lit (.int 8))) (.cons (.and (.cons (.cmp .eq (.loc 2) (.lit (.int 8))) (.cons (.cmp .eq (.bin .mod (.loc 3) (.lit (.int 2))) (.lit (.int 1))) .nil))) .nil))) (.lit (.int 2)) (.lit (.int 1)))) (.cons (.asg 5 (.slice (.sub (.loc 0) (.lit (.str [115, 116, 97, 99, 107]))) (.neg (.loc 4)) (.lit .none))) (.cons (.ite (.or (.cons (.cmp .lt (.loc 2) (.lit (.int 6))) (.cons (.cmp .lt (.bif .len (.cons (.loc 5) .nil)) (.loc 4)) (.cons (.cmp .gt (.bif .max (.cons (.csub (.loc 5) 3) .nil)) (.lit (.int 3))) .nil)))) (.cons (.expr (.bmeth (.sub (.loc 0) (.lit (.str [115, 116, 97, 99, 107]))) .append (.cons (.call 60 (.cons (.loc 0) (.cons (.ite (.cmp .lt (.loc 2) (.lit (.int 6))) (.loc 2) (.lit (.int 0))) (.cons (.loc 3) .nil)))) .nil))) .nil) (.cons (.asgI (.loc 0) (.lit (.str [115, 116, 97, 99, 107])) (.mcat (.slice (.sub (.loc 0) (.lit (.str [115, 116, 97, 99, 107]))) (.lit .none) (.neg (.loc 4))) (.lst (.cons (.call 62 (.cons (.loc 2) (.cons (.loc 3) (.cons (.loc 5) .nil)))) .nil)))) .nil)) (.cons (.ret (.lit (.bool true))) .nil))))))), 2, 6⟩
noncomputable def c66 : Fn := ⟨(.cons (.asg 0 (.slice (.loc 0) (.lit .none) (.lit (.int 40)))) (.cons (.asg 1 (.cmod (.loc 0) 1048576)) (.cons (.asg 1 (.bin .add (.loc 1) (.slice (.lst (.cons (.lit (.int 16)) (.cons (.lit (.int 6)) (.cons (.lit (.int 48)) (.cons (.lit (.int 89)) .nil))))) (.bif .len (.cons (.loc 1) .nil)) (.lit .none)))) (.cons (.asg 2 (.mk 1 (.cons (.lit (.int 2000)) .nil))) (.cons (.asgA (.loc 2) 7 (.mdict true (.cons (.glob 2) (.cons (.glob 3) (.cons (.glob 1) (.cons (.glob 0) .nil)))) (.cons (.mk 6 .nil) (.cons (.mk 7 .nil) (.cons (.mk 8 .nil) (.cons (.mk 9 .nil) .nil)))))) (.cons (.asgI (.attr (.loc 2) 7) (.glob 8) (.mk 10 .nil)) (.cons (.asgI (.attr (.loc 2) 7) (.glob 9) (.mk 11 .nil)) (.cons (.asg 3 (.mk 12 .nil)) (.cons (.asg 4 (.mk 13 .nil)) (.cons (.asg 5 (.mk 14 .nil)) (.cons (.forIn 6 (.tup (.cons (.lit (.str [43])) (.cons (.lit (.str [45])) (.cons (.lit (.str [42])) (.cons (.lit (.str [47])) (.cons (.lit (.str [37])) (.cons (.lit (.str [42, 42])) .nil))))))) (.cons (.asgI (.attr (.sub (.attr (.loc 2) 7) (.glob 8)) 28) (.loc 6) (.loc 3)) .nil)) (.cons (.forIn 6 (.tup (.cons (.lit (.str [38])) (.cons (.lit (.str [124])) (.cons (.lit (.str [94])) .nil)))) (.cons (.asgI (.attr (.sub (.attr (.loc 2) 7) (.glob 8)) 28) (.loc 6) (.loc 4)) .nil)) (.cons (.forIn 6 (.tup (.cons (.lit (.str [45])) (.cons (.lit (.str [43])) (.cons (.lit (.str [126])) .nil)))) (.cons (.asgI (.attr (.sub (.attr (.loc 2) 7) (.glob 9)) 28) (.loc 6) (.loc 5)) .nil)) (.cons (.asg 7 (.mdict false (.cons (.lit (.str [109])) (.cons (.lit (.str [115, 116, 97, 99, 107])) (.cons (.lit (.str [118, 97, 108, 117, 101, 115])) (.cons (.lit (.str [107, 110, 111, 119, 110])) .nil)))) (.cons (.loc 2) (.cons (.mlist .nil) (.cons (.mlist .nil) (.cons (.mdict false .nil .nil) .nil)))))) (.cons (.forIn 8 (.loc 1) (.cons (.ite (.not (.call 65 (.cons (.loc 7) (.cons (.loc 8) .nil)))) (.cons (.ret (.lit (.bool false))) .nil) .nil) .nil)) (.cons (.ite (.cmp .eq (.bin .add (.bif .len (.cons (.sub (.loc 7) (.lit (.str [118, 97, 108, 117, 101, 115]))) .nil)) (.bif .len (.cons (.sub (.loc 7) (.lit (.str [115, 116, 97, 99, 107]))) .nil))) (.lit (.int 0))) (.cons (.expr (.bmeth (.sub (.loc 7) (.lit (.str [115, 116, 97, 99, 107]))) .append (.cons (.call 60 (.cons (.loc 7) (.cons (.lit (.int 0)) (.cons (.lit (.int 1)) .nil)))) .nil))) .nil) .nil) (.cons (.ite (.not (.call 64 (.cons (.loc 7) .nil))) (.cons (.ret (.lit (.bool false))) .nil) .nil) (.cons (.ret (.and (.cons (.cmp .eq (.attr (.loc 2) 18) (.lst .nil)) (.cons (.cmp .eq (.attr (.attr (.loc 2) 6) 26) (.lst .nil)) (.cons (.cmp .eq (.attr (.loc 2) 11) (.lit (.int 0))) .nil))))) .nil)))))))))))))))))), 1, 9⟩
noncomputable def c67 : Fn := ⟨(.cons (.asgA (.loc 0) 26 (.mlist .nil)) (.cons (.asgA (.loc 0) 27 (.mdict false .nil .nil)) .nil)), 1, 1⟩
noncomputable def c68 : Fn := ⟨(.cons (.asgA (.loc 0) 6 (.mk 0 .nil)) (.cons (.asgA (.loc 0) 7 (.mdict true .nil .nil)) (.cons (.asgA (.loc 0) 8 (.mdict true .nil .nil)) (.cons (.asgA (.loc 0) 9 (.lit (.int 0))) (.cons (.asgA (.loc 0) 10 (.loc 1)) (.cons (.asgA (.loc 0) 11 (.lit (.int 0))) (.cons (.asgA (.loc 0) 12 (.glob 33)) (.cons (.asgA (.loc 0) 13 (.mlist .nil)) (.cons (.asgA (.loc 0) 14 (.lit .none)) (.cons (.asgA (.loc 0) 15 (.lit .none)) (.cons (.asgA (.loc 0) 16 (.call 17 .nil)) (.cons (.asgA (.loc 0) 17 (.neg (.lit (.int 1)))) (.cons (.asgA (.loc 0) 18 (.mlist .nil)) (.cons (.asgA (.loc 0) 19 (.mk 2 .nil)) (.cons (.asgA (.loc 0) 20 (.mdict false .nil .nil)) (.cons (.asgA (.loc 0) 21 (.mdict false .nil .nil)) (.cons (.asgA (.loc 0) 22 (.mk 3 .nil)) (.cons (.asgA (.loc 0) 23 (.mk 4 .nil)) (.cons (.asgA (.loc 0) 24 (.mk 5 .nil)) (.cons (.asgA (.loc 0) 25 (.lit .none)) .nil)))))))))))))))))))), 2, 2⟩
noncomputable def c69 : Fn := ⟨(.cons (.ret (.call 31 (.cons (.loc 0) (.cons (.loc 1) .nil)))) .nil), 2, 2⟩
noncomputable def c70 : Fn := ⟨(.cons (.ret (.call 19 (.cons (.attr (.loc 2) 1) .nil))) .nil), 3, 3⟩
noncomputable def c71 : Fn := ⟨(.cons (.ret (.call 18 (.cons (.attr (.loc 2) 1) .nil))) .nil), 3, 3⟩
noncomputable def c72 : Fn := ⟨(.cons (.asg 3 (.mlist (.cons (.sub (.attr (.loc 2) 1) (.lit (.int 0))) .nil))) (.cons (.forR 4 (.bif .len (.cons (.attr (.loc 2) 2) .nil)) (.cons (.expr (.bmeth (.loc 3) .append (.cons (.call 22 (.cons (.attr (.loc 1) 6) (.cons (.meth (.loc 1) 29 (.cons (.sub (.attr (.loc 2) 2) (.loc 4)) .nil)) .nil))) .nil))) (.cons (.expr (.bmeth (.loc 3) .append (.cons (.sub (.attr (.loc 2) 1) (.bin .add (.loc 4) (.lit (.int 1)))) .nil))) .nil))) (.cons (.ret (.call 29 (.cons (.loc 3) (.cons (.lit (.str [])) .nil)))) .nil))), 3, 5⟩
noncomputable def c73 : Fn := ⟨(.cons (.ret (.meth (.loc 1) 29 (.cons (.sub (.attr (.loc 2) 2) (.lit (.int 0))) .nil))) .nil), 3, 3⟩
noncomputable def c74 : Fn := ⟨(.cons (.asgA (.loc 0) 28 (.mdict false .nil .nil)) .nil), 1, 1⟩
noncomputable def c75 : Fn := ⟨(.cons (.asg 3 (.meth (.loc 1) 29 (.cons (.sub (.attr (.loc 2) 2) (.lit (.int 0))) .nil))) (.cons (.asg 4 (.meth (.loc 1) 29 (.cons (.sub (.attr (.loc 2) 2) (.lit (.int 1))) .nil))) (.cons (.ret (.meth (.loc 0) 30 (.cons (.loc 1) (.cons (.attr (.loc 2) 1) (.cons (.loc 3) (.cons (.loc 4) (.cons (.attr (.loc 2) 3) .nil))))))) .nil))), 3, 5⟩
noncomputable def c76 : Fn := ⟨(.cons (.asg 6 (.bmeth (.attr (.loc 0) 28) .get1 (.cons (.loc 2) .nil))) (.cons (.ite (.isN true (.loc 6)) (.cons (.raise 16 (.cons (.bin .add (.lit (.str [111, 112, 101, 114, 97, 116, 111, 114, 32])) (.loc 2)) .nil)) .nil) .nil) (.cons (.ret (.meth (.loc 6) 30 (.cons (.loc 1) (.cons (.loc 2) (.cons (.loc 3) (.cons (.loc 4) (.cons (.loc 5) .nil))))))) .nil))), 6, 7⟩
noncomputable def c77 : Fn := ⟨(.cons (.asgA (.loc 0) 28 (.mdict false .nil .nil)) .nil), 1, 1⟩
noncomputable def c78 : Fn := ⟨(.cons (.asg 3 (.bmeth (.attr (.loc 0) 28) .get1 (.cons (.attr (.loc 2) 1) .nil))) (.cons (.ite (.isN true (.loc 3)) (.cons (.raise 16 (.cons (.bin .add (.lit (.str [111, 112, 101, 114, 97, 116, 111, 114, 32])) (.attr (.loc 2) 1)) .nil)) .nil) .nil) (.cons (.ret (.meth (.loc 3) 30 (.cons (.loc 1) (.cons (.loc 2) .nil)))) .nil))), 3, 4⟩
noncomputable def c79 : Fn := ⟨(.cons (.asg 6 (.call 32 (.cons (.loc 1) (.cons (.loc 3) .nil)))) (.cons (.asg 7 (.call 32 (.cons (.loc 1) (.cons (.loc 4) .nil)))) (.cons (.ite (.and (.cons (.cmp .eq (.loc 2) (.lit (.str [43]))) (.cons (.or (.cons (.cmp .eq (.sub (.loc 6) (.lit (.int 0))) (.glob 11)) (.cons (.cmp .eq (.sub (.loc 7) (.lit (.int 0))) (.glob 11)) .nil))) .nil))) (.cons (.ret (.call 29 (.cons (.lst (.cons (.call 22 (.cons (.attr (.loc 1) 6) (.cons (.loc 6) .nil))) (.cons (.call 22 (.cons (.attr (.loc 1) 6) (.cons (.loc 7) .nil))) .nil))) (.cons (.lit (.str [])) .nil)))) .nil) .nil) (.cons (.ret (.call 37 (.cons (.loc 2) (.cons (.call 28 (.cons (.loc 6) .nil)) (.cons (.call 28 (.cons (.loc 7) .nil)) .nil))))) .nil)))), 6, 8⟩
noncomputable def c80 : Fn := ⟨(.cons (.asg 6 (.call 38 (.cons (.call 32 (.cons (.loc 1) (.cons (.loc 3) .nil))) .nil))) (.cons (.asg 7 (.call 38 (.cons (.call 32 (.cons (.loc 1) (.cons (.loc 4) .nil))) .nil))) (.cons (.ite (.cmp .eq (.loc 2) (.lit (.str [38]))) (.cons (.ret (.tup (.cons (.glob 12) (.cons (.bin .band (.loc 6) (.loc 7)) .nil)))) .nil) .nil) (.cons (.ite (.cmp .eq (.loc 2) (.lit (.str [124]))) (.cons (.ret (.tup (.cons (.glob 12) (.cons (.bin .bor (.loc 6) (.loc 7)) .nil)))) .nil) .nil) (.cons (.ret (.tup (.cons (.glob 12) (.cons (.bin .bxor (.loc 6) (.loc 7)) .nil)))) .nil))))), 6, 8⟩
noncomputable def c81 : Fn := ⟨(.cons (.asg 3 (.call 32 (.cons (.loc 1) (.cons (.meth (.loc 1) 29 (.cons (.sub (.attr (.loc 2) 2) (.lit (.int 0))) .nil)) .nil)))) (.cons (.ite (.cmp .eq (.attr (.loc 2) 1) (.lit (.str [126]))) (.cons (.ret (.tup (.cons (.glob 12) (.cons (.bin .sub (.neg (.lit (.int 1))) (.call 38 (.cons (.loc 3) .nil))) .nil)))) .nil) .nil) (.cons (.asg 4 (.call 28 (.cons (.loc 3) .nil))) (.cons (.ite (.or (.cons (.cmp .eq (.attr (.loc 2) 1) (.lit (.str [43]))) (.cons (.cmp .eq (.sub (.loc 4) (.lit (.int 0))) (.glob 14)) .nil))) (.cons (.ret (.loc 4)) .nil) .nil) (.cons (.ret (.tup (.cons (.glob 12) (.cons (.bin .sub (.lit (.int 0)) (.sub (.loc 4) (.lit (.int 1)))) .nil)))) .nil))))), 3, 5⟩
noncomputable def fnL : List Fn := [c0, c1, c2, c3, c4, c5, c6, c7, c8, c9, c10, c11, c12, c13, c14, c15, c16, c17, c18, c19, c20, c21, c22, c23, c24, c25, c26, c27, c28, c29, c30, c31, c32, c33, c34, c35, c36, c37, c38, c39, c40, c41, c42, c43, c44, c45, c46, c47, c48, c49, c50, c51, c52, c53, c54, c55, c56, c57, c58, c59, c60, c61, c62, c63, c64, c65, c66, c67, c68, c69, c70, c71, c72, c73, c74, c75, c76, c77, c78, c79, c80, c81]
noncomputable def fns (f : Nat) : Option Fn := fnL[f]?
noncomputable def gloL : List D := [(.int 33),
  (.int 3),
  (.int 1),
  (.int 2),
  (.int 16),
  (.int 9007199254740991),
  (.int 8),
  (.int 17),
  (.int 23),
  (.int 21),
  (.int 0),
  (.int 5),
  (.int 3),
  (.int 9007199254740991),
  (.int 4),
  (.int 2),
  (.int 1),
  (.str [32, 9, 10, 13, 11, 12, 160, 5760, 8192, 8193, 8194, 8195, 8196, 8197, 8198, 8199, 8200, 8201, 8202, 8232, 8233, 8239, 8287, 12288, 65279]),
  (.str [48, 49, 50, 51, 52, 53, 54, 55, 56, 57, 97, 98, 99, 100, 101, 102]),
  (.int 1048576),
  (.int 18),
  (.int 6),
  (.tup [(.int 4), (.int 0)]),
  (.int 64),
  (.int 2147483648),
  (.int 4294967296),
  (.int 9007199254740992),
  (.int 9007199254740991),
  (.tup [(.int 0), (.int 1), (.int 2), (.int 3), (.int 5), (.int 7), (.int 10), (.int 31), (.int 32), (.int 52), (.int 53), (.int 54), (.int 60), (.int 64), (.int 65), (.int 4), (.int 2147483647), (.int 2147483648), (.int 4294967295), (.int 4294967296), (.int 94906265), (.int 94906266), (.int 9007199254740991), (.int 6)]),
  (.tup [(.str []), (.str [113]), (.str [55]), (.str [45, 51]), (.str [32, 49, 50]), (.str [48]), (.str [45]), (.str [48, 48, 55]), (.str [57, 48, 48, 55, 49, 57, 57, 50, 53, 52, 55, 52, 48, 57, 57, 49]), (.str [56, 32])]),
  (.tup [(.str [45]), (.str [126]), (.str [43]), (.str [45]), (.str [126]), (.str [33])]),
  (.tup [(.str []), (.str [55]), (.str [113]), (.str [45])]),
  (.tup [(.str [43]), (.str [45]), (.str [42]), (.str [47]), (.str [37]), (.str [42, 42]), (.str [38]), (.str [124]), (.str [94]), (.str [43]), (.str [42, 42]), (.str [60])]),
  (.int 44)]
noncomputable def metL : List (List (Option Nat)) := [[none, none, none], [some 69, none, none], [none, none, none], [none, none, none], [none, none, none], [none, none, none], [some 70, none, none], [some 71, none, none], [some 72, none, none], [some 73, none, none], [some 75, some 76, none], [some 78, none, none], [none, some 79, none], [none, some 80, none], [none, some 81, none]]
noncomputable def iniL : List (Option Nat) := [some 67, some 68, none, none, none, none, none, none, none, none, some 74, some 77, none, none, none]
noncomputable def tab : Tab := ⟨fun g => gloL.getD g .none, fun c i => if 29 ≤ i then (metL.getD c []).getD (i - 29) none else none, fun c => iniL.getD c none⟩
end
set_option genCtorIdx false
set_option genSizeOf false
set_option genInjectivity false

theorem le_of {a b m : Nat} (h : b ≤ m) (e : Nat.ble a b = true) : a ≤ m := Nat.le_trans (Nat.le_of_ble_eq_true e) h
section
variable {P Q p : Prop}
theorem brd {d : Decidable p} (h : p → P) (h' : ¬ p → Q) : Bool.rec (motive := fun _ => Prop) Q P (@decide p d) := br0 (fun e => h (of_decide_eq_true e)) fun e => h' (of_decide_eq_false e)
theorem brn {t : Bool} (h : t = false → P) (h' : t = true → Q) : Bool.rec (motive := fun _ => Prop) Q P (!t) := by cases t; exact h rfl; exact h' rfl
theorem brnd {d : Decidable p} (h : ¬ p → P) (h' : p → Q) : Bool.rec (motive := fun _ => Prop) Q P (!@decide p d) := brn (fun e => h (of_decide_eq_false e)) fun e => h' (of_decide_eq_true e)
theorem brs {a b : Tx} (h : a = b → P) (h' : ¬ a = b → Q) : Bool.rec (motive := fun _ => Prop) Q P (a == b) := br0 (fun e => h (beq_iff_eq.mp e)) fun e => h' (beq_eq_false_iff_ne.mp e)
theorem brns {a b : Tx} (h : ¬ a = b → P) (h' : a = b → Q) : Bool.rec (motive := fun _ => Prop) Q P (!(a == b)) := brn (fun e => h (beq_eq_false_iff_ne.mp e)) fun e => h' (beq_iff_eq.mp e)
theorem bri {a b : Int} (h : a = b → P) (h' : ¬ a = b → Q) : Bool.rec (motive := fun _ => Prop) Q P (a == b) := br0 (fun e => h (eq_of_beq e)) fun e => h' (beq_eq_false_iff_ne.mp e)
theorem brni {a b : Int} (h : ¬ a = b → P) (h' : a = b → Q) : Bool.rec (motive := fun _ => Prop) Q P (!(a == b)) := brn (fun e => h (beq_eq_false_iff_ne.mp e)) fun e => h' (eq_of_beq e)
theorem brq {a b c : Int} (h : b = c → P) (h' : ¬ b = c → Q) : Bool.rec (motive := fun _ => Prop) Q P (a == a && b == c) := by rw [beq_self_eq_true]; exact bri h h'
theorem brc {a b : Nat} (h : a = b → P) (h' : ¬ a = b → Q) : Bool.rec (motive := fun _ => Prop) Q P ([a] == [b]) := brs (fun e => h (List.cons.inj e).1) fun e => h' fun q => e (q ▸ rfl)
theorem brnc {a b : Nat} (h : ¬ a = b → P) (h' : a = b → Q) : Bool.rec (motive := fun _ => Prop) Q P (!([a] == [b])) := brns (fun e => h fun q => e (q ▸ rfl)) fun e => h' (List.cons.inj e).1
end
theorem ex_if {T : Tab} {C : Calls} {loc : Loc} {σ : Sto} {K : KF} {x : KX} {t : CE} {a r : CS} {P : Prop} (H : ∀ k : KV, (P → k (.bool true) σ) → (¬ P → k (.bool false) σ) → ev T C loc t .b σ k x)
    (h1 : P → ex T C a loc σ (sqF (fun l s => ex T C r l s K x) K) x) (h2 : ¬ P → ex T C r loc σ K x) : ex T C (.cons (.ite t a .nil) r) loc σ K x := H _ h1 h2
theorem ex_no {T : Tab} {C : Calls} {loc : Loc} {σ : Sto} {K : KF} {x : KX} {t : CE} {a r : CS} (H : ∀ k : KV, k (.bool false) σ → ev T C loc t .b σ k x) (h : ex T C r loc σ K x) : ex T C (.cons (.ite t a .nil) r) loc σ K x := H _ h
theorem kb {k : KV} {σ : Sto} {P : Prop} {b : Bool} (h1 : P → k (.bool true) σ) (h2 : ¬ P → k (.bool false) σ) (e : b = true ↔ P) : k (.bool b) σ := by
  cases b
  · exact h2 fun p => Bool.false_ne_true (e.mpr p)
  · exact h1 (e.mp rfl)
theorem ex_set {T : Tab} {C : Calls} {loc : Loc} {σ σ' : Sto} {K : KF} {x : KX} {e : CE} {r : CS} {i : Nat} {v : D} (H : ∀ k : KV, k v σ' → ev T C loc e .v σ k x) (h : ex T C r (loc.set i (some v)) σ' K x) : ex T C (.cons (.asg i e) r) loc σ K x := H _ h
theorem wf_go {N n f : Nat} {F : Fn} {args : List D} {σ : Sto} {k : KV} {x : KX} (hn : N + 1 ≤ n) (h : fns f = some F) (hl : args.length = F.np)
    (e : ∀ m, N ≤ m → ex tab (wf tab fns m) F.code (args.map some ++ List.replicate (F.nl - F.np) none) σ (fun fl _ σ₁ => match fl with | .next => k .none σ₁ | .ret d => k d σ₁) x) : wf tab fns n f args σ k x := by
  cases n with
  | zero => exact absurd hn (Nat.not_succ_le_zero _)
  | succ m => show onO (fns f) _; rw [h]; exact ⟨hl, e m (Nat.le_of_succ_le_succ hn)⟩


set_option compiler.extract_closed false
local macro_rules | `(tactic| walk_at "h") => `(tactic| ((refine (?_ : Bool.rec (motive := fun _ => Prop) _ _ _); with_reducible first | apply brd | apply bri | apply brc | apply brs | apply brnd | apply brni | apply brnc | apply brns | apply brn | apply brq | apply br0) <;> intro hb))
local macro_rules | `(tactic| walk_at "c") => `(tactic| first | exact trivial | (unfold Sz; lia) | exact ⟨by lia, by lia⟩ | exact ⟨⟨by lia, by lia⟩, by lia⟩ | exact jOk_of (by lia) (by lia) | ((with_reducible show (0 : Int) ≤ _); lia) | fail)
local macro_rules | `(tactic| walk_at "s") => `(tactic| repeat' first | walk_at "h" | (refine ckI ?_ ?_; · walk_at "c") | (refine And.intro ?_ ?_; · walk_at "c") | fail)

theorem g0 : tab.glob 0 = (.int 33) := rfl
theorem g1 : tab.glob 1 = (.int 3) := rfl
theorem g2 : tab.glob 2 = (.int 1) := rfl
theorem g3 : tab.glob 3 = (.int 2) := rfl
theorem g4 : tab.glob 4 = (.int 16) := rfl
theorem g5 : tab.glob 5 = (.int 9007199254740991) := rfl
theorem g6 : tab.glob 6 = (.int 8) := rfl
theorem g7 : tab.glob 7 = (.int 17) := rfl
theorem g8 : tab.glob 8 = (.int 23) := rfl
theorem g9 : tab.glob 9 = (.int 21) := rfl
theorem g10 : tab.glob 10 = (.int 0) := rfl
theorem g11 : tab.glob 11 = (.int 5) := rfl
theorem g12 : tab.glob 12 = (.int 3) := rfl
theorem g13 : tab.glob 13 = (.int 9007199254740991) := rfl
theorem g14 : tab.glob 14 = (.int 4) := rfl
theorem g15 : tab.glob 15 = (.int 2) := rfl
theorem g16 : tab.glob 16 = (.int 1) := rfl
theorem g17 : tab.glob 17 = (.str [32, 9, 10, 13, 11, 12, 160, 5760, 8192, 8193, 8194, 8195, 8196, 8197, 8198, 8199, 8200, 8201, 8202, 8232, 8233, 8239, 8287, 12288, 65279]) := rfl
theorem g18 : tab.glob 18 = (.str [48, 49, 50, 51, 52, 53, 54, 55, 56, 57, 97, 98, 99, 100, 101, 102]) := rfl
theorem g19 : tab.glob 19 = (.int 1048576) := rfl
theorem g20 : tab.glob 20 = (.int 18) := rfl
theorem g21 : tab.glob 21 = (.int 6) := rfl
theorem g22 : tab.glob 22 = (.tup [(.int 4), (.int 0)]) := rfl
theorem g23 : tab.glob 23 = (.int 64) := rfl
theorem g24 : tab.glob 24 = (.int 2147483648) := rfl
theorem g25 : tab.glob 25 = (.int 4294967296) := rfl
theorem g26 : tab.glob 26 = (.int 9007199254740992) := rfl
theorem g27 : tab.glob 27 = (.int 9007199254740991) := rfl
theorem g30 : tab.glob 30 = (.tup [(.str [45]), (.str [126]), (.str [43]), (.str [45]), (.str [126]), (.str [33])]) := rfl
theorem g31 : tab.glob 31 = (.tup [(.str []), (.str [55]), (.str [113]), (.str [45])]) := rfl
theorem g32 : tab.glob 32 = (.tup [(.str [43]), (.str [45]), (.str [42]), (.str [47]), (.str [37]), (.str [42, 42]), (.str [38]), (.str [124]), (.str [94]), (.str [43]), (.str [42, 42]), (.str [60])]) := rfl
theorem g33 : tab.glob 33 = (.int 44) := rfl

noncomputable def top : Int := 9007199254740991
noncomputable def wi (n : Int) : Option Int := if top < n ∨ n < -top then none else some n
noncomputable def oi : Option Int → D
  | none => .none
  | some n => .int n
noncomputable def sg (w : Int) : Int := if w < 2147483648 then w else w - 4294967296
noncomputable def s32 (n : Int) : Int := sg (n % 4294967296)

section
variable {n : Nat} {σ : Sto} {k : KV} {x : KX} {i j l r : Int}

theorem s6 (hn : 1 ≤ n) (h : k (oi (wi i)) σ) : wf tab fns n 6 [.int i] σ k x := by
  refine wf_go (N := 0) hn (F := c6) rfl rfl fun m hm => ?_
  unfold wi top at h
  walk_at "s"
  · rwa [if_pos (by lia)] at h
  · rwa [if_pos (by lia)] at h
  · rwa [if_neg (by lia)] at h
theorem s7 (hn : 1 ≤ n) (h : k (.int (s32 i)) σ) : wf tab fns n 7 [.int i] σ k x := by
  refine wf_go (N := 0) hn (F := c7) rfl rfl fun m hm => ?_
  unfold s32 sg at h
  walk_at "s"
  · rw [bitAnd_m32] at *
    rwa [if_neg (by lia)] at h
  · rw [bitAnd_m32] at *
    rwa [if_pos (by lia)] at h
theorem kk {a b : D} (h : k a σ) (e : a = b) : k b σ := e ▸ h
noncomputable def ab (l : Int) : Int := if l < 0 then -l else l
noncomputable def par (l r : Int) : Int := if r % 2 = 1 then l else 1
noncomputable def pw (l r : Int) : Option Int := if ab l = 1 then some (par l r) else if r < 0 then none else if l = 0 then some (if r = 0 then 1 else 0) else if r ≤ 60 then wi (l ^ r.toNat) else none
noncomputable def rem (l r : Int) : Int := if l < 0 then -((ab l).fmod (ab r)) else (ab l).fmod (ab r)
noncomputable def rm (l r : Int) : Option Int := if r = 0 then none else some (rem l r)
noncomputable def qt (l r : Int) : Option Int := if r = 0 then none else if l.fmod r = 0 then some (l.fdiv r) else none
theorem fmod2 (r : Int) : r.fmod 2 = r % 2 := Int.fmod_eq_emod_of_nonneg _ (by decide)
theorem ab_B {l : Int} (h : B64 l) : B64 (if l < 0 then -l else l) := by unfold B64 at *; split <;> lia
theorem s8 (hn : 2 ≤ n) (hl : B64 l) (h : k (oi (pw l r)) σ) : wf tab fns n 8 [.int l, .int r] σ k x := by
  refine wf_go (N := 1) hn (F := c8) rfl rfl fun m hm => ?_
  unfold pw par ab at h
  walk_at "s"
  all_goals (try simp only [fmod2] at *)
  · refine kk h ?_; simp [*, oi]
  · refine kk h ?_; simp [*, oi]
  · refine kk h ?_; simp [*, oi]
  · refine kk h ?_; simp [*, oi]
  · refine kk h ?_; simp [*, oi]
  · refine ⟨hl, by lia, by lia, ?_⟩
    refine s6 (le_of hm rfl) ?_
    refine kk h ?_; simp [*, oi]
  · refine kk h ?_; simp [*, oi]
theorem s9 (hn : 1 ≤ n) (hr : B64 r) (h : k (oi (rm l r)) σ) : wf tab fns n 9 [.int l, .int r] σ k x := by
  refine wf_go (N := 0) hn (F := c9) rfl rfl fun m hm => ?_
  unfold rm rem ab at h
  walk_at "s"
  · refine kk h ?_; simp [*, oi]
  · refine ckI ⟨ab_B hr, by split <;> lia⟩ ?_
    walk_at "s"
    · refine kk h ?_; simp [*, oi]
    · refine kk h ?_; simp [*, oi]
theorem s10 (hn : 1 ≤ n) (hr : B64 r) (h : k (oi (qt l r)) σ) : wf tab fns n 10 [.int l, .int r] σ k x := by
  refine wf_go (N := 0) hn (F := c10) rfl rfl fun m hm => ?_
  unfold qt at h
  have hr' := hr.1; have hr'' := hr.2
  walk_at "s"
  all_goals (refine kk h ?_; simp [*, oi])

set_option genCtorIdx true in
inductive Op where | add | sub | mul | div | rem | pow | and | or | xor | lt
noncomputable def Op.tx : Op → Tx
  | .add => [43] | .sub => [45] | .mul => [42] | .div => [47] | .rem => [37] | .pow => [42, 42] | .and => [38] | .or => [124] | .xor => [94] | .lt => [60]
noncomputable def Op.isPow : Op → Bool | .pow => true | _ => false
noncomputable def Op.isRem : Op → Bool | .rem => true | _ => false
noncomputable def Op.isBit : Op → Bool | .and => true | .or => true | .xor => true | _ => false
noncomputable def Op.isAdd : Op → Bool | .add => true | _ => false
noncomputable def Op.isLt : Op → Bool | .lt => true | _ => false
noncomputable def rk (o : Op) (l r : Int) : Option Int := match o with
  | .add => wi (l + r) | .sub => wi (l - r) | .mul => wi (l * r) | .div => qt l r | .rem => rm l r | .pow => pw l r
  | .and => some (s32 (Builtin.bitAnd (s32 l) (s32 r))) | .or => some (s32 (Builtin.bitOr (s32 l) (s32 r))) | .xor => some (s32 (Builtin.bitXor (s32 l) (s32 r)))
  | .lt => none
theorem s11 {o : Op} (hn : 3 ≤ n) (hl : B64 l) (hr : B64 r) (h : k (oi (rk o l r)) σ) : wf tab fns n 11 [.str o.tx, .int l, .int r] σ k x := by
  refine wf_go (N := 2) hn (F := c11) rfl rfl fun m hm => ?_
  cases o
  all_goals (walk_at "s")
  · refine s6 (le_of hm rfl) ?_; exact h
  · refine s6 (le_of hm rfl) ?_; exact h
  · refine ⟨hl, hr, ?_⟩
    refine s6 (le_of hm rfl) ?_; exact h
  · refine s10 (le_of hm rfl) hr ?_; exact h
  · refine s9 (le_of hm rfl) hr ?_; exact h
  · refine s8 (le_of hm rfl) hl ?_; exact h
  · refine s7 (le_of hm rfl) ?_
    refine s7 (le_of hm rfl) ?_
    refine s7 (le_of hm rfl) ?_; exact h
  · refine s7 (le_of hm rfl) ?_
    refine s7 (le_of hm rfl) ?_
    refine s7 (le_of hm rfl) ?_; exact h
  · refine s7 (le_of hm rfl) ?_
    refine s7 (le_of hm rfl) ?_
    refine s7 (le_of hm rfl) ?_; exact h
  · exact h
end
section
theorem Tp_iff {n : Int} : n.natAbs ≤ 9007199254740991 ↔ -9007199254740991 ≤ n ∧ n ≤ 9007199254740991 := by omega
theorem out_iff {n : Int} : (9007199254740991 < n ∨ n < -9007199254740991) ↔ 9007199254740991 < n.natAbs := by
  rw [← Nat.not_le, Tp_iff]
  exact ⟨fun h z => h.elim (Int.not_lt.mpr z.2) (Int.not_lt.mpr z.1), fun h => if q : 9007199254740991 < n then .inl q else .inr (Int.not_le.mp fun r => h ⟨r, Int.not_lt.mp q⟩)⟩
theorem wi_none {n : Int} (h : 9007199254740991 < n.natAbs) : wi n = none := if_pos (out_iff.mpr h)
theorem wi_some {n : Int} (h : n.natAbs ≤ 9007199254740991) : wi n = some n := if_neg fun z => Nat.not_le.mpr (out_iff.mp z) h
theorem wi_le {n m : Int} (h : wi n = some m) : m = n ∧ n.natAbs ≤ 9007199254740991 := by
  by_cases q : n.natAbs ≤ 9007199254740991
  · rw [wi_some q] at h; exact ⟨(Option.some.inj h).symm, q⟩
  · rw [wi_none (Nat.not_le.mp q)] at h; cases h
theorem big {x : Int} {m : Nat} (hx : 2 ≤ x.natAbs) (hm : 53 ≤ m) : wi (x ^ m) = none := by
  refine wi_none ?_
  rw [Int.natAbs_pow]
  have h1 : 2 ^ m ≤ x.natAbs ^ m := Nat.pow_le_pow_left hx m
  have h2 : 2 ^ 53 ≤ 2 ^ m := Nat.pow_le_pow_right (by decide) hm
  exact Nat.lt_of_lt_of_le (show 9007199254740991 < 2 ^ 53 by decide) (Nat.le_trans h2 h1)
theorem m1pow : ∀ m : Nat, (-1 : Int) ^ m = if m % 2 = 1 then -1 else 1
  | 0 => rfl
  | m + 1 => by
    rw [Int.pow_succ, m1pow m]
    by_cases h : m % 2 = 1
    · rw [if_pos h, if_neg (by lia)]; rfl
    · rw [if_neg h, if_pos (by lia)]; rfl
theorem pow1 {x : Int} (hx : x.natAbs = 1) (m : Nat) : x ^ m = par x m := by
  have : x = 1 ∨ x = -1 := by lia
  unfold par
  rcases this with rfl | rfl
  · rw [Int.one_pow]; split <;> rfl
  · rw [m1pow]
    by_cases h : m % 2 = 1
    · rw [if_pos h, if_pos (by lia)]
    · rw [if_neg h, if_neg (by lia)]
theorem par_abs {x r : Int} (hx : x.natAbs = 1) : (par x r).natAbs = 1 := by unfold par; split <;> simp [hx]
theorem zpow {m : Nat} (h : m ≠ 0) : (0 : Int) ^ m = 0 := by
  cases m with
  | zero => exact absurd rfl h
  | succ j => rw [Int.pow_succ, Int.mul_zero]
noncomputable def pwl (x y : Int) : Option Int := if y < 0 then (if x * x = 1 then some (par x y) else none) else wi (x ^ y.toNat)
theorem sq1 {x : Int} : x * x = 1 ↔ x.natAbs = 1 := by
  rw [← Int.natAbs_mul_self]
  constructor
  · intro h
    have h : x.natAbs * x.natAbs = 1 := by exact_mod_cast h
    exact Nat.eq_one_of_mul_eq_one_right h
  · intro h; rw [h]; rfl
theorem par_nat {x y : Int} (hy : 0 ≤ y) : par x (y.toNat : Nat) = par x y := by rw [Int.toNat_of_nonneg hy]
theorem ab_nat (x : Int) : ab x = x.natAbs := by
  unfold ab
  by_cases h : x < 0
  · rw [if_pos h]; exact (Int.ofNat_natAbs_of_nonpos (Int.le_of_lt h)).symm
  · rw [if_neg h]; exact (Int.natAbs_of_nonneg (Int.not_lt.mp h)).symm
theorem tn {n : Int} {m : Nat} (h : (m : Int) ≤ n) : m ≤ n.toNat := (Int.le_toNat (Int.le_trans (Int.natCast_nonneg m) h)).mpr h
theorem pw_pwl (x y : Int) : pw x y = pwl x y := by
  unfold pw pwl
  rw [ab_nat]
  by_cases h1 : x.natAbs = 1
  · rw [if_pos (by lia)]
    by_cases hy : y < 0
    · rw [if_pos hy, if_pos (sq1.mpr h1)]
    · rw [if_neg hy, pow1 h1, par_nat (by lia), wi_some (by rw [par_abs h1]; decide)]
  · rw [if_neg (by lia)]
    by_cases hy : y < 0
    · rw [if_pos hy, if_pos hy, if_neg (fun h => h1 (sq1.mp h))]
    · rw [if_neg hy, if_neg hy]
      by_cases h0 : x = 0
      · subst h0
        rw [if_pos rfl]
        by_cases hy0 : y = 0
        · subst hy0; rfl
        · rw [if_neg hy0, zpow (by lia)]; rfl
      · rw [if_neg h0]
        by_cases hr : y ≤ 60
        · rw [if_pos hr]
        · rw [if_neg hr, big (by lia) (by lia)]
noncomputable def fp (l r : Int) : Option Int := if l = 1 ∨ l = -1 then some (par l r) else if l = 0 then (if r < 0 then none else if r = 0 then some 1 else some 0) else if r < 0 ∨ r > 53 then none else some (l ^ r.toNat)
theorem fp_pwl (x y : Int) : (fp x y).bind wi = pwl x y := by
  rw [← pw_pwl]
  unfold fp pw
  rw [ab_nat]
  by_cases h1 : x.natAbs = 1
  · rw [if_pos (show x = 1 ∨ x = -1 by lia), if_pos (show (x.natAbs : Int) = 1 by lia)]
    exact wi_some (by rw [par_abs h1]; decide)
  · rw [if_neg (show ¬ (x = 1 ∨ x = -1) by lia), if_neg (show ¬ (x.natAbs : Int) = 1 by lia)]
    by_cases h0 : x = 0
    · subst h0
      rw [if_pos rfl, if_pos rfl]
      by_cases hy : y < 0
      · rw [if_pos hy, if_pos hy]; rfl
      · rw [if_neg hy, if_neg hy]
        by_cases hy0 : y = 0
        · rw [if_pos hy0, if_pos hy0]; rfl
        · rw [if_neg hy0, if_neg hy0]; rfl
    · rw [if_neg h0, if_neg h0]
      by_cases hy : y < 0
      · rw [if_pos (show y < 0 ∨ y > 53 from .inl hy), if_pos hy]; rfl
      · rw [if_neg hy]
        by_cases hr : y ≤ 60
        · rw [if_pos hr]
          by_cases hr' : y > 53
          · rw [if_pos (show y < 0 ∨ y > 53 from .inr hr'), big (by lia) (by lia)]; rfl
          · rw [if_neg (show ¬ (y < 0 ∨ y > 53) by lia)]; rfl
        · rw [if_neg hr, if_pos (show y < 0 ∨ y > 53 by lia)]; rfl

noncomputable def lp (x : Int) : Nat → Int → Option Int
  | 0, t => some t
  | j + 1, t => if ab (t * x) > 9007199254740991 then none else lp x j (t * x)
theorem lp_wi (x : Int) : ∀ (j : Nat) (t : Int), t.natAbs ≤ 9007199254740991 → lp x j t = wi (t * x ^ j)
  | 0, t, h => by unfold lp; rw [show t * x ^ 0 = t by simp, wi_some h]
  | j + 1, t, h => by
    unfold lp
    rw [ab_nat]
    have e : t * x ^ (j + 1) = t * x * x ^ j := by rw [Int.pow_succ, Int.mul_comm (x ^ j) x, Int.mul_assoc]
    by_cases hb : ((t * x).natAbs : Int) > 9007199254740991
    · rw [if_pos hb, e, wi_none]
      have hx : x ≠ 0 := fun q => by subst q; simp at hb
      have h1 : 1 ≤ x.natAbs ^ j := Nat.one_le_pow _ _ (by lia)
      rw [Int.natAbs_mul (t * x), Int.natAbs_pow]
      have := Nat.mul_le_mul_left (t * x).natAbs h1
      lia
    · rw [if_neg hb, e, lp_wi x j (t * x) (by lia)]
noncomputable def cnt (y : Int) : Int := if y < 54 then y else 54 + y % 2
theorem lp_pwl {x y : Int} (hy : ¬ y < 0) : lp x (cnt y).toNat 1 = pwl x y := by
  rw [lp_wi x _ 1 (by decide), Int.one_mul]
  unfold pwl cnt
  rw [if_neg hy]
  by_cases h : y < 54
  · rw [if_pos h]
  · rw [if_neg h]
    by_cases h2 : 2 ≤ x.natAbs
    · rw [big h2 (tn (by lia)), big h2 (tn (by lia))]
    · by_cases h0 : x = 0
      · subst h0; rw [zpow (Nat.ne_of_gt (tn (m := 1) (by lia))), zpow (Nat.ne_of_gt (tn (m := 1) (by lia)))]
      · have h1 : x.natAbs = 1 := by lia
        rw [pow1 h1, pow1 h1]
        unfold par
        congr 1
        rw [Int.toNat_of_nonneg (show 0 ≤ 54 + y % 2 by lia), Int.toNat_of_nonneg (Int.not_lt.mp hy), show (54 + y % 2) % 2 = y % 2 by lia]

-- bits of 32
theorem nat_split (a b : Nat) (ha : a < 4294967296) (hb : b < 4294967296) : (a &&& (4294967296 - (b + 1))) + (a &&& b) = a := by
  have h1 : (a &&& (4294967296 - (b + 1))) &&& (a &&& b) = 0 := by
    apply Nat.eq_of_testBit_eq
    intro i
    have := Nat.testBit_two_pow_sub_succ (n := 32) (x := b) hb i
    have e : (2 : Nat) ^ 32 = 4294967296 := by decide
    rw [e] at this
    simp only [Nat.testBit_and, this, Nat.zero_testBit]
    cases a.testBit i <;> cases b.testBit i <;> simp
  have h2 : (a &&& (4294967296 - (b + 1))) ||| (a &&& b) = a := by
    apply Nat.eq_of_testBit_eq
    intro i
    have := Nat.testBit_two_pow_sub_succ (n := 32) (x := b) hb i
    have e : (2 : Nat) ^ 32 = 4294967296 := by decide
    rw [e] at this
    simp only [Nat.testBit_and, Nat.testBit_or, this]
    by_cases hi : i < 32
    · cases a.testBit i <;> cases b.testBit i <;> simp [hi]
    · have : a.testBit i = false := Nat.testBit_lt_two_pow (Nat.lt_of_lt_of_le ha (by rw [← e]; exact Nat.pow_le_pow_right (by decide) (by lia)))
      simp [this]
  have := nat_or_add_and (a &&& (4294967296 - (b + 1))) (a &&& b)
  lia
theorem nat_nor (a b : Nat) (ha : a < 4294967296) (hb : b < 4294967296) : ((4294967296 - (a + 1)) ||| (4294967296 - (b + 1))) + (a &&& b) + 1 = 4294967296 := by
  have ea : 4294967296 - (a + 1) + (a + 1) = 4294967296 := Nat.sub_add_cancel ha
  have eb : 4294967296 - (b + 1) + (b + 1) = 4294967296 := Nat.sub_add_cancel hb
  have h3 := nat_split b a hb ha
  rw [Nat.and_comm b a] at h3
  generalize 4294967296 - (a + 1) = c at ea h3 ⊢
  have h1 := nat_or_add_and c (4294967296 - (b + 1))
  have h2 := nat_split c b (Nat.lt_of_lt_of_eq (Nat.lt_add_of_pos_right (Nat.succ_pos a)) ea) hb
  rw [Nat.and_comm c b] at h2
  generalize 4294967296 - (b + 1) = d at eb h1 h2 ⊢
  lia
theorem bnot {b : Int} (hb : 0 ≤ b) (hb' : b < 4294967296) : (Builtin.bitNot (b - 4294967296)).toNat = 4294967296 - (b.toNat + 1) := by
  obtain ⟨n, rfl⟩ := Int.eq_ofNat_of_zero_le hb
  unfold Builtin.bitNot
  rw [show -((n : Int) - 4294967296) - 1 = ((4294967296 - (n + 1) : Nat) : Int) by rw [Int.ofNat_sub (Int.ofNat_lt.mp hb')]; lia]
  rfl
theorem nat_hi {a b : Nat} (ha : 2147483648 ≤ a) (hb : 2147483648 ≤ b) (ha' : a < 4294967296) (hb' : b < 4294967296) : 2147483648 ≤ a &&& b := by
  have e : (2 : Nat) ^ 31 = 2147483648 := by decide
  rw [← e]
  apply Nat.ge_two_pow_of_testBit
  have t : ∀ c : Nat, 2147483648 ≤ c → c < 4294967296 → c.testBit 31 = true := fun c h1 h2 => by
    rw [Nat.testBit_eq_decide_div_mod_eq, e]
    have : c / 2147483648 = 1 := by lia
    rw [this]; rfl
  rw [Nat.testBit_and, t a ha ha', t b hb hb']; rfl
theorem nat_lo {a b : Nat} (ha : a < 2147483648) (hb : 2147483648 ≤ b) (hb' : b < 4294967296) : (a &&& b) + 2147483648 ≤ b := by
  have e : (2 : Nat) ^ 31 = 2147483648 := by decide
  have t : b.testBit 31 = true := by
    rw [Nat.testBit_eq_decide_div_mod_eq, e]
    have : b / 2147483648 = 1 := by lia
    rw [this]; rfl
  have t' : a.testBit 31 = false := Nat.testBit_lt_two_pow (by lia)
  have h1 : (a &&& b) &&& 2 ^ 31 = 0 := by
    apply Nat.eq_of_testBit_eq
    intro i
    simp only [Nat.testBit_and, Nat.testBit_two_pow, Nat.zero_testBit]
    by_cases hi : 31 = i
    · subst hi; simp [t']
    · simp [hi]
  have h2 : ((a &&& b) ||| 2 ^ 31) &&& b = (a &&& b) ||| 2 ^ 31 := by
    apply Nat.eq_of_testBit_eq
    intro i
    simp only [Nat.testBit_and, Nat.testBit_or, Nat.testBit_two_pow]
    by_cases hi : 31 = i
    · subst hi; simp [t]
    · cases a.testBit i <;> cases b.testBit i <;> simp [hi]
  have h3 := nat_or_add_and (a &&& b) (2 ^ 31)
  have h4 : (a &&& b) ||| 2 ^ 31 ≤ b := by rw [← h2]; exact Nat.and_le_right
  lia
theorem and_sg {a b : Int} (ha : 0 ≤ a) (ha' : a < 4294967296) (hb : 0 ≤ b) (hb' : b < 4294967296) : Builtin.bitAnd (sg a) (sg b) = sg (Builtin.bitAnd a b) := by
  rw [bitAnd_pp ha hb]
  have la : a.toNat &&& b.toNat ≤ a.toNat := Nat.and_le_left
  have lb : a.toNat &&& b.toNat ≤ b.toNat := Nat.and_le_right
  unfold sg
  by_cases h1 : a < 2147483648 <;> by_cases h2 : b < 2147483648
  · rw [if_pos h1, if_pos h2, if_pos (by lia), bitAnd_pp ha hb]
  · rw [if_pos h1, if_neg h2, if_pos (by lia), bitAnd_pn ha (by lia)]
    have := nat_split a.toNat b.toNat (by lia) (by lia)
    rw [bnot hb hb']; lia
  · rw [if_neg h1, if_pos h2, if_pos (by lia), bitAnd_np (by lia) hb]
    have := nat_split b.toNat a.toNat (by lia) (by lia)
    rw [Nat.and_comm b.toNat a.toNat] at this
    rw [bnot ha ha']; lia
  · have := nat_hi (a := a.toNat) (b := b.toNat) (by lia) (by lia) (by lia) (by lia)
    rw [if_neg h1, if_neg h2, if_neg (by lia), bitAnd_nn (by lia) (by lia)]
    have h3 := nat_nor a.toNat b.toNat (by lia) (by lia)
    rw [bnot ha ha', bnot hb hb']; unfold Builtin.bitNot; lia
theorem and_bounds {a b : Int} (ha : 0 ≤ a) (ha' : a < 4294967296) (hb : 0 ≤ b) (hb' : b < 4294967296) : 0 ≤ Builtin.bitAnd a b ∧ Builtin.bitAnd a b ≤ a ∧ Builtin.bitAnd a b ≤ b ∧ a + b - Builtin.bitAnd a b < 4294967296 ∧ (2147483648 ≤ a → 2147483648 ≤ b → 2147483648 ≤ Builtin.bitAnd a b) ∧ (a < 2147483648 → b < 2147483648 → a + b - Builtin.bitAnd a b < 2147483648) ∧ (a < 2147483648 → 2147483648 ≤ b → Builtin.bitAnd a b + 2147483648 ≤ b) ∧ (2147483648 ≤ a → b < 2147483648 → Builtin.bitAnd a b + 2147483648 ≤ a) := by
  rw [bitAnd_pp ha hb]
  have la : a.toNat &&& b.toNat ≤ a.toNat := Nat.and_le_left
  have lb : a.toNat &&& b.toNat ≤ b.toNat := Nat.and_le_right
  have h1 := nat_or_add_and a.toNat b.toNat
  have h2 : a.toNat ||| b.toNat < 2 ^ 32 := Nat.or_lt_two_pow (by lia) (by lia)
  have e : (2 : Nat) ^ 32 = 4294967296 := by decide
  refine ⟨by lia, by lia, by lia, by lia, fun q1 q2 => ?_, fun q1 q2 => ?_, fun q1 q2 => ?_, fun q1 q2 => ?_⟩
  · have := nat_hi (a := a.toNat) (b := b.toNat) (by lia) (by lia) (by lia) (by lia); lia
  · have h3 : a.toNat ||| b.toNat < 2 ^ 31 := Nat.or_lt_two_pow (by lia) (by lia)
    have e : (2 : Nat) ^ 31 = 2147483648 := by decide
    lia
  · have := nat_lo (a := a.toNat) (b := b.toNat) (by lia) (by lia) (by lia); lia
  · have := nat_lo (a := b.toNat) (b := a.toNat) (by lia) (by lia) (by lia)
    rw [Nat.and_comm] at this; lia
noncomputable def lb (o : Op) (x y : Int) : Int :=
  let a := x % 4294967296
  let b := y % 4294967296
  let both := Builtin.bitAnd a b
  sg (match o with | .and => both | .or => a + b - both | _ => a + b - 2 * both)
noncomputable def bop : Op → Int → Int → Int
  | .and => Builtin.bitAnd | .or => Builtin.bitOr | _ => Builtin.bitXor
theorem bop_lb {o : Op} {x y : Int} (h : o = .and ∨ o = .or ∨ o = .xor) : bop o (s32 x) (s32 y) = lb o x y := by
  have a1 : 0 ≤ x % 4294967296 := by lia
  have a2 : x % 4294967296 < 4294967296 := by lia
  have b1 : 0 ≤ y % 4294967296 := by lia
  have b2 : y % 4294967296 < 4294967296 := by lia
  have h1 := and_sg a1 a2 b1 b2
  obtain ⟨c1, c2, c3, c4, c5, c6, c7, c8⟩ := and_bounds a1 a2 b1 b2
  unfold lb s32
  generalize x % 4294967296 = a at *
  generalize y % 4294967296 = b at *
  rcases h with rfl | rfl | rfl
  · exact h1
  · show Builtin.bitOr _ _ = sg (a + b - Builtin.bitAnd a b)
    rw [bitOr_and, h1]
    unfold sg
    by_cases q1 : a < 2147483648 <;> by_cases q2 : b < 2147483648 <;> simp only [q1, q2, if_true, if_false]
    · rw [if_pos (by lia), if_pos (by lia)]
    · rw [if_pos (by lia), if_neg (by lia)]; lia
    · rw [if_pos (by lia), if_neg (by lia)]; lia
    · have := c5 (by lia) (by lia); rw [if_neg (by lia), if_neg (by lia)]; lia
  · show Builtin.bitXor _ _ = sg (a + b - 2 * Builtin.bitAnd a b)
    rw [bitXor_and, h1]
    unfold sg
    by_cases q1 : a < 2147483648 <;> by_cases q2 : b < 2147483648 <;> simp only [q1, q2, if_true, if_false]
    · have := c6 q1 q2; rw [if_pos (by lia), if_pos (by lia)]
    · have := c7 (by lia) (by lia); rw [if_pos (by lia), if_neg (by lia)]; lia
    · have := c8 (by lia) (by lia); rw [if_pos (by lia), if_neg (by lia)]; lia
    · have := c5 (by lia) (by lia); rw [if_neg (by lia), if_pos (by lia)]; lia
theorem sg_bounds {w : Int} (h : 0 ≤ w) (h' : w < 4294967296) : -2147483648 ≤ sg w ∧ sg w < 2147483648 := by unfold sg; split <;> lia
theorem s32_id {n : Int} (h : -2147483648 ≤ n) (h' : n < 2147483648) : s32 n = n := by unfold s32 sg; split <;> lia
theorem lb_bounds (o : Op) (x y : Int) : -2147483648 ≤ lb o x y ∧ lb o x y < 2147483648 := by
  obtain ⟨c1, c2, c3, c4, _⟩ := and_bounds (a := x % 4294967296) (b := y % 4294967296) (by lia) (by lia) (by lia) (by lia)
  unfold lb
  cases o <;> exact sg_bounds (by dsimp only; lia) (by dsimp only; lia)
theorem s32_lb (o : Op) (x y : Int) : s32 (lb o x y) = lb o x y := s32_id (lb_bounds o x y).1 (lb_bounds o x y).2

noncomputable def ln (o : Op) (x y : Int) : Option Int := match o with
  | .add => wi (x + y) | .sub => wi (x - y) | .mul => wi (x * y) | .div => qt x y | .rem => rm x y | .pow => pwl x y
  | .and => some (lb .and x y) | .or => some (lb .or x y) | .xor => some (lb .xor x y) | .lt => none
theorem rk_ln (o : Op) (x y : Int) : rk o x y = ln o x y := by
  cases o <;> unfold rk ln <;> dsimp only
  · exact pw_pwl x y
  · rw [show Builtin.bitAnd (s32 x) (s32 y) = lb .and x y from bop_lb (.inl rfl), s32_lb]
  · rw [show Builtin.bitOr (s32 x) (s32 y) = lb .or x y from bop_lb (.inr (.inl rfl)), s32_lb]
  · rw [show Builtin.bitXor (s32 x) (s32 y) = lb .xor x y from bop_lb (.inr (.inr rfl)), s32_lb]
noncomputable def Tp (n : Int) : Prop := n.natAbs ≤ 9007199254740991
theorem Tp.B {n : Int} (h : Tp n) : B64 n := ⟨Int.lt_of_lt_of_le (by decide) (Tp_iff.mp h).1, Int.lt_of_le_of_lt (Tp_iff.mp h).2 (by decide)⟩
theorem fdiv_abs {x y : Int} (h : Tp x) (hy : y ≠ 0) (h0 : x.fmod y = 0) : Tp (x.fdiv y) := by
  unfold Tp at *
  have h1 := Int.mul_fdiv_add_fmod x y
  rw [h0, Int.add_zero] at h1
  have h2 : x.natAbs = y.natAbs * (x.fdiv y).natAbs := by rw [← Int.natAbs_mul, h1]
  exact Nat.le_trans (Nat.le_mul_of_pos_left _ (Int.natAbs_pos.mpr hy)) (h2 ▸ h)
theorem rem_abs {x y : Int} (h : Tp y) (hy : y ≠ 0) : Tp (rem x y) := by
  unfold Tp rem at *
  rw [ab_nat, ab_nat, Int.fmod_eq_emod_of_nonneg _ (Int.natCast_nonneg _), ← Int.natCast_emod]
  have h1 : (((x.natAbs % y.natAbs : Nat) : Int)).natAbs ≤ 9007199254740991 := Nat.le_trans (Nat.le_of_lt (Nat.mod_lt _ (Int.natAbs_pos.mpr hy))) h
  by_cases q : x < 0
  · rw [if_pos q, Int.natAbs_neg]; exact h1
  · rw [if_neg q]; exact h1
theorem Tp31 {n : Int} (h : -2147483648 ≤ n ∧ n < 2147483648) : Tp n := Tp_iff.mpr ⟨Int.le_trans (by decide) h.1, Int.le_trans (Int.le_of_lt h.2) (by decide)⟩
theorem lb_Tp (o : Op) (x y : Int) : Tp (lb o x y) := Tp31 (lb_bounds o x y)
theorem wi_Tp {n m : Int} (h : wi n = some m) : Tp m := by obtain ⟨rfl, h⟩ := wi_le h; exact h
theorem ln_Tp {o : Op} {x y m : Int} (hx : Tp x) (hy : Tp y) (h : ln o x y = some m) : Tp m := by
  cases o <;> unfold ln at h <;> dsimp only at h
  · exact wi_Tp h
  · exact wi_Tp h
  · exact wi_Tp h
  · unfold qt at h
    split at h
    · cases h
    · split at h
      · cases h; exact fdiv_abs hx (by assumption) (by assumption)
      · cases h
  · unfold rm at h
    split at h
    · cases h
    · cases h; exact rem_abs hy (by assumption)
  · unfold pwl at h
    split at h
    · split at h
      · cases h; unfold Tp; rw [par_abs (sq1.mp (by assumption))]; decide
      · cases h
    · exact wi_Tp h
  · cases h; exact lb_Tp _ _ _
  · cases h; exact lb_Tp _ _ _
  · cases h; exact lb_Tp _ _ _
  · cases h
theorem s32_Tp (x : Int) : Tp (s32 x) := Tp31 (sg_bounds (Int.emod_nonneg _ (by decide)) (Int.emod_lt_of_pos _ (by decide)))
noncomputable def inv (x : Int) : Int := sg (4294967295 - x % 4294967296)
theorem inv_s32 (x : Int) : -1 - s32 x = inv x := by unfold inv s32 sg; split <;> split <;> lia
theorem s32_inv (x : Int) : s32 (inv x) = inv x := by
  have := sg_bounds (w := 4294967295 - x % 4294967296) (by lia) (by lia)
  exact s32_id this.1 this.2
theorem inv_Tp (x : Int) : Tp (inv x) := Tp31 (sg_bounds (by lia) (by lia))
theorem neg_Tp {x : Int} (h : Tp x) : Tp (-x) := by unfold Tp; rw [Int.natAbs_neg]; exact h
end
section
set_option genCtorIdx false
set_option genSizeOf false
set_option genInjectivity false

noncomputable def num (n : Int) : D := .tup [.int 3, .int n]
noncomputable def nanD : D := .tup [.int 4, .int 0]
noncomputable def onum (o : Option Int) (k : KV) (x : KX) (σ : Sto) : Prop := match o with
  | some n => k (num n) σ
  | none => x 15 σ
section
variable {n : Nat} {σ : Sto} {k : KV} {x : KX} {i j l r : Int}
theorem s19 (hn : 1 ≤ n) (h : onum (wi i) k x σ) : wf tab fns n 19 [.int i] σ k x := by
  refine wf_go (N := 0) hn (F := c19) rfl rfl fun m hm => ?_
  unfold onum wi top at h
  walk_at "s"
  · rwa [if_pos (by lia)] at h
  · rwa [if_pos (by lia)] at h
  · rwa [if_neg (by lia)] at h
theorem s33 (hn : 2 ≤ n) (hl : Tp l) (hr : Tp r) (h : onum (qt l r) k x σ) : wf tab fns n 33 [.int l, .int r] σ k x := by
  refine wf_go (N := 1) hn (F := c33) rfl rfl fun m hm => ?_
  have hr' := hr.B.1; have hr'' := hr.B.2
  unfold onum qt at h
  walk_at "s"
  · rwa [if_pos (by lia)] at h
  · rw [if_neg (by lia)] at h
    rwa [if_neg (by assumption)] at h
  · rw [if_neg (by lia)] at h
    rw [if_pos (by lia)] at h
    refine s19 (le_of hm rfl) ?_
    rw [wi_some (fdiv_abs hl (by lia) (by lia))]
    exact h
theorem s34 (hn : 1 ≤ n) (hr : Tp r) (h : k (if r = 0 then nanD else num (rem l r)) σ) : wf tab fns n 34 [.int l, .int r] σ k x := by
  refine wf_go (N := 0) hn (F := c34) rfl rfl fun m hm => ?_
  unfold rem ab at h
  walk_at "s"
  · rwa [if_pos (by lia)] at h
  · rw [if_neg (by lia)] at h
    refine ckI ⟨ab_B hr.B, by split <;> lia⟩ ?_
    walk_at "s"
    · refine kk h ?_; simp [*, num, g12]
    · refine kk h ?_; simp [*, num, g12]
theorem pwl_one (h : l.natAbs = 1) : pwl l r = some (par l r) := by rw [← pw_pwl]; unfold pw; rw [ab_nat, if_pos (by lia)]
theorem pwl_lt (h : l.natAbs ≠ 1) (hr : r < 0) : pwl l r = none := by rw [← pw_pwl]; unfold pw; rw [ab_nat, if_neg (by lia), if_pos hr]
theorem pwl_ge (hr : ¬ r < 0) : pwl l r = wi (l ^ r.toNat) := by unfold pwl; rw [if_neg hr]
theorem s35 (hn : 2 ≤ n) (hl : Tp l) (h : onum (pwl l r) k x σ) : wf tab fns n 35 [.int l, .int r] σ k x := by
  refine wf_go (N := 1) hn (F := c35) rfl rfl fun m hm => ?_
  have h' : ∀ o, pwl l r = o → onum o k x σ := fun o e => e ▸ h
  have pz : ∀ j : Int, 0 < j → (0 : Int) ^ j.toNat = 0 := fun j hj => zpow (by lia)
  walk_at "s"
  · rename_i h1 h2
    rw [fmod2] at h2
    exact h' (some l) (by rw [pwl_one (by split at h1 <;> lia)]; unfold par; rw [if_pos (by lia)])
  · rename_i h1 h2
    rw [fmod2] at h2
    exact h' (some 1) (by rw [pwl_one (by split at h1 <;> lia)]; unfold par; rw [if_neg (by lia)])
  · rename_i h1 h2
    exact h' none (pwl_lt (by split at h1 <;> lia) h2)
  · rename_i h1 h2 h3 h4
    exact h' none (by rw [pwl_ge h2, big (by split at h1 <;> lia) (by lia)])
  all_goals first
    | (exfalso; lia)
    | (refine s19 (le_of hm rfl) ?_
       exact h' (wi 0) (by rw [pwl_ge (by lia)]; rw [show l = 0 by lia, pz _ (by lia)]))
    | (refine And.intro hl.B (And.intro (by lia) (And.intro (by lia) ?_))
       refine s19 (le_of hm rfl) ?_
       exact h' _ (pwl_ge (by lia)))
    | (refine And.intro (by lia) ?_
       refine s19 (le_of hm rfl) ?_
       exact h' _ (pwl_ge (by lia)))
theorem s36 {o : Op} (ho : o = .add ∨ o = .sub ∨ o = .mul ∨ o = .div ∨ o = .rem ∨ o = .pow) (hn : 3 ≤ n) (hl : Tp l) (hr : Tp r) (h : if o.isRem = true ∧ r = 0 then k nanD σ else onum (ln o l r) k x σ) : wf tab fns n 36 [.str o.tx, .int l, .int r] σ k x := by
  refine wf_go (N := 2) hn (F := c36) rfl rfl fun m hm => ?_
  cases o <;> (try (exfalso; simp at ho; done)) <;> walk_at "s"
  · rw [if_neg (by simp [Op.isRem])] at h; refine s19 (le_of hm rfl) ?_; exact h
  · rw [if_neg (by simp [Op.isRem])] at h; refine s19 (le_of hm rfl) ?_; exact h
  · rw [if_neg (by simp [Op.isRem])] at h; refine ⟨hl.B, hr.B, ?_⟩; refine s19 (le_of hm rfl) ?_; exact h
  · rw [if_neg (by simp [Op.isRem])] at h; refine s33 (le_of hm rfl) hl hr ?_; exact h
  · refine s34 (le_of hm rfl) hr ?_
    unfold ln rm at h
    by_cases h0 : r = 0
    · rw [if_pos ⟨rfl, h0⟩] at h; rw [if_pos h0]; exact h
    · rw [if_neg (fun q => h0 q.2)] at h; dsimp only at h; rw [if_neg h0] at h; rw [if_neg h0]; exact h
  · rw [if_neg (by simp [Op.isRem])] at h; refine s35 (le_of hm rfl) hl ?_; exact h
set_option genCtorIdx true in
inductive Nm where | num (n : Int) | nan
noncomputable def Nm.d : Nm → D
  | .num n => Mine.num n
  | .nan => nanD
noncomputable def Nm.Ok : Nm → Prop
  | .num n => Tp n
  | .nan => True
noncomputable def sm (o : Op) : Nm → Nm → Option Nm
  | .num a, .num b => if o.isPow = true ∧ b = 0 then some (.num 1) else if o.isRem = true ∧ b = 0 then some .nan else (ln o a b).map .num
  | .nan, .num b => if o.isPow = true ∧ b = 0 then some (.num 1) else some .nan
  | _, .nan => some .nan
noncomputable def onm (o : Option Nm) (k : KV) (x : KX) (σ : Sto) : Prop := match o with
  | some n => k n.d σ
  | none => x 15 σ
theorem ln_pow0 {a : Int} : ln .pow a 0 = some 1 := by unfold ln pwl; simp; rfl
theorem tx_pow {o : Op} : o.tx = [42, 42] ↔ o.isPow = true := by cases o <;> simp [Op.tx, Op.isPow]
theorem s37 {o : Op} {a b : Nm} (ho : o.isBit = false ∧ o.isLt = false) (hn : 4 ≤ n) (ha : a.Ok) (hb : b.Ok) (h : onm (sm o a b) k x σ) : wf tab fns n 37 [.str o.tx, a.d, b.d] σ k x := by
  refine wf_go (N := 3) hn (F := c37) rfl rfl fun m hm => ?_
  cases a with
  | nan =>
    cases b with
    | nan =>
      walk_at "s"
      all_goals exact h
    | num b =>
      simp only [sm, ← tx_pow] at h
      walk_at "s"
      · rw [if_pos ⟨by assumption, by assumption⟩] at h; exact h
      · rw [if_neg (fun z => absurd z.2 (by assumption))] at h; exact h
      · rw [if_neg (fun z => absurd z.1 (by assumption))] at h; exact h
  | num a =>
    cases b with
    | nan =>
      walk_at "s"
      all_goals exact h
    | num b =>
      simp only [sm, ← tx_pow] at h
      have fin : ¬ (o.tx = [42, 42] ∧ b = 0) → (if o.isRem = true ∧ b = 0 then k nanD σ else onum (ln o a b) k x σ) := fun q => by
        rw [if_neg q] at h
        by_cases q' : o.isRem = true ∧ b = 0
        · rw [if_pos q'] at h; rw [if_pos q']; exact h
        · rw [if_neg q'] at h; rw [if_neg q']
          cases e : ln o a b with
          | none => rw [e] at h; exact h
          | some c => rw [e] at h; exact h
      have hop : o = .add ∨ o = .sub ∨ o = .mul ∨ o = .div ∨ o = .rem ∨ o = .pow := by cases o <;> simp [Op.isBit, Op.isLt] at ho <;> simp
      walk_at "s"
      · rw [if_pos ⟨by assumption, by assumption⟩] at h; exact h
      · refine s36 hop (le_of hm rfl) ha hb ?_; exact fin (fun z => absurd z.2 (by assumption))
      · refine s36 hop (le_of hm rfl) ha hb ?_; exact fin (fun z => absurd z.1 (by assumption))
end
end
section
set_option genCtorIdx false
set_option genSizeOf false
set_option genInjectivity false


noncomputable def okc (c : Nat) : Bool := c == 32 || c == 45 || isDig c || c == 78 || c == 97 || c == 113
theorem intTx_list (n : Int) : intTx n = (toString n).toList.map Char.toNat := by
  unfold intTx
  rw [PySem.Str.ofString_eq_toList]
theorem intTx_len {n : Int} (h : Tp n) : (intTx n).length ≤ 17 := by
  rw [intTx_list, List.length_map]
  have := int_text_length_le10 (a := n) (k := 16) (by decide) (by unfold Tp at h; have : (10 : Nat) ^ 16 = 10000000000000000 := by decide
                                                                  lia)
  exact this
theorem digs_ok (m : Nat) : ∀ c ∈ (Nat.repr m).toList.map Char.toNat, okc c = true := by
  intro c hc
  obtain ⟨d, hd, rfl⟩ := List.mem_map.mp hc
  have hd' : d ∈ Nat.toDigits 10 m := by simpa [Nat.repr] using hd
  have := Nat.isDigit_of_mem_toDigits (by decide) (by decide) hd'
  unfold Char.isDigit at this
  simp only [Bool.and_eq_true, decide_eq_true_eq, ge_iff_le] at this
  have h1 : 48 ≤ d.toNat := this.1
  have h2 : d.toNat ≤ 57 := this.2
  unfold okc isDig
  simp [h1, h2]
theorem intTx_ok (n : Int) : ∀ c ∈ intTx n, okc c = true := by
  rw [intTx_list]
  cases n with
  | ofNat m => exact digs_ok m
  | negSucc m =>
    have e : toString (Int.negSucc m) = "-" ++ Nat.repr (m + 1) := rfl
    rw [e, String.toList_append, List.map_append]
    intro c hc
    rcases List.mem_append.mp hc with h | h
    · have : c = 45 := by simpa using h
      subst this; rfl
    · exact digs_ok _ c h

set_option genCtorIdx true in
inductive Cv where | i (n : Int) | s (x : Tx)
noncomputable def Cv.d : Cv → D | .i n => .int n | .s x => .str x
noncomputable def od : Option Cv → D | none => .none | some c => c.d
noncomputable def Cv.str : Cv → Tx | .i n => intTx n | .s x => x
noncomputable def Cv.Ok : Cv → Prop | .i n => Tp n | .s x => x.length ≤ 10000
noncomputable def OkO (o : Option Cv) : Prop := ∀ c, o = some c → c.Ok
theorem Cv.str_len {c : Cv} (h : c.Ok) : c.str.length ≤ 10000 := by
  cases c with
  | i n => have := intTx_len h; exact Nat.le_trans this (by decide)
  | s x => exact h
set_option genCtorIdx true in
inductive Un where | neg | inv | pos | bang
noncomputable def Un.tx : Un → Tx | .neg => [45] | .inv => [126] | .pos => [43] | .bang => [33]
noncomputable def bv (o : Op) : Option Cv → Option Cv → Option Cv
  | some (.i a), some (.i b) => (ln o a b).map .i
  | some a, some b => if o.isAdd = true then some (.s (a.str ++ b.str)) else none
  | _, _ => none
noncomputable def uv (u : Un) : Option Cv → Option Cv
  | some (.i n) => (match u with | .neg => some (.i (-n)) | .pos => some (.i n) | .inv => some (.i (Mine.inv n)) | .bang => none)
  | _ => none
theorem tx_add {o : Op} : o.tx = [43] ↔ o.isAdd = true := by cases o <;> simp [Op.tx, Op.isAdd]

section
variable {n : Nat} {σ : Sto} {k : KV} {x : KX} {i j l r : Int}
theorem s40 (hn : 1 ≤ n) (h : k (oi (wi i)) σ) : wf tab fns n 40 [.int i] σ k x := by
  refine wf_go (N := 0) hn (F := c40) rfl rfl fun m hm => ?_
  unfold wi top at h
  walk_at "s"
  · rwa [if_neg (by lia)] at h
  · rwa [if_pos (by lia)] at h
  · rwa [if_pos (by lia)] at h
theorem s45 (hn : 1 ≤ n) (h : k (.int (s32 i)) σ) : wf tab fns n 45 [.int i] σ k x := by
  refine wf_go (N := 0) hn (F := c45) rfl rfl fun m hm => ?_
  unfold s32 sg at h
  have e : i.fmod 4294967296 = i % 4294967296 := Int.fmod_eq_emod_of_nonneg _ (by decide)
  walk_at "s"
  · rw [e] at *; rwa [if_neg (by lia)] at h
  · rw [e] at *; rwa [if_pos (by lia)] at h
theorem s48 (hn : 1 ≤ n) (hl : B64 l) (h : k (oi (fp l r)) σ) : wf tab fns n 48 [.int l, .int r] σ k x := by
  refine wf_go (N := 0) hn (F := c48) rfl rfl fun m hm => ?_
  unfold fp par at h
  walk_at "s"
  all_goals (try simp only [fmod2] at *)
  all_goals first
    | (refine kk h ?_; simp [*, oi]; done)
    | (refine kk h ?_; rw [if_pos (by lia), if_pos (by lia)]; rfl)
    | (refine kk h ?_; rw [if_pos (by lia), if_neg (by lia)]; rfl)
    | (refine And.intro hl (And.intro (by lia) (And.intro (by lia) ?_)); refine kk h ?_; simp [*, oi]; done)
noncomputable def fnr (o : Op) (l r : Int) : Option Int := match o with
  | .add => some (l + r) | .sub => some (l - r) | .mul => some (l * r)
  | .and => some (s32 (Builtin.bitAnd (s32 l) (s32 r))) | .or => some (s32 (Builtin.bitOr (s32 l) (s32 r))) | .xor => some (s32 (Builtin.bitXor (s32 l) (s32 r)))
  | .pow => fp l r | .rem => rm l r | .div => qt l r | .lt => none
theorem fnr_ln {o : Op} (hl : Tp l) (hr : Tp r) : (fnr o l r).bind wi = ln o l r := by
  cases o <;> unfold fnr ln <;> dsimp only
  · rfl
  · rfl
  · rfl
  · cases e : qt l r with
    | none => rfl
    | some m => exact wi_some (ln_Tp (o := .div) hl hr e)
  · cases e : rm l r with
    | none => rfl
    | some m => exact wi_some (ln_Tp (o := .rem) hl hr e)
  · exact fp_pwl l r
  · rw [show Builtin.bitAnd (s32 l) (s32 r) = lb .and l r from bop_lb (.inl rfl), s32_lb]; exact wi_some (lb_Tp _ _ _)
  · rw [show Builtin.bitOr (s32 l) (s32 r) = lb .or l r from bop_lb (.inr (.inl rfl)), s32_lb]; exact wi_some (lb_Tp _ _ _)
  · rw [show Builtin.bitXor (s32 l) (s32 r) = lb .xor l r from bop_lb (.inr (.inr rfl)), s32_lb]; exact wi_some (lb_Tp _ _ _)
  · rfl
theorem s47 {o : Op} (hn : 2 ≤ n) (hl : Tp l) (hr : Tp r) (h : k (oi (fnr o l r)) σ) : wf tab fns n 47 [.str o.tx, .int l, .int r] σ k x := by
  refine wf_go (N := 1) hn (F := c47) rfl rfl fun m hm => ?_
  have hr' := hr.B.1; have hr'' := hr.B.2
  cases o
  all_goals (walk_at "s")
  all_goals first
    | (refine kk h ?_; rfl)
    | (refine And.intro hl.B (And.intro hr.B ?_); exact h)
    | (refine s45 (le_of hm rfl) ?_; refine s45 (le_of hm rfl) ?_; refine s45 (le_of hm rfl) ?_; exact h)
    | (refine s48 (le_of hm rfl) hl.B ?_; exact h)
    | (refine kk h ?_; simp only [fnr, rm, rem, qt, ab]; simp [*, oi]; done)
    | (refine ckI ⟨ab_B hr.B, by split <;> lia⟩ ?_; walk_at "s" <;> (refine kk h ?_; simp only [fnr, rm, rem, qt, ab]; simp [*, oi]; done))
theorem s46 {o : Op} {a b : Option Cv} (hn : 3 ≤ n) (ha : OkO a) (hb : OkO b) (h : k (od (bv o a b)) σ) : wf tab fns n 46 [.str o.tx, od a, od b] σ k x := by
  refine wf_go (N := 2) hn (F := c46) rfl rfl fun m hm => ?_
  cases a with
  | none => walk_at "s"; exact h
  | some a =>
    cases b with
    | none => cases a <;> (walk_at "s"; exact h)
    | some b =>
      have la := Cv.str_len (ha _ rfl)
      have lb := Cv.str_len (hb _ rfl)
      cases a with
      | i a =>
        have ha := ha _ rfl
        cases b with
        | i b =>
          have hb := hb _ rfl
          walk_at "s"
          refine s47 (le_of hm rfl) ha hb ?_
          have h' : ∀ o', ln o a b = o' → k (oi o') σ := fun o' e => by
            refine kk h ?_
            show od ((ln o a b).map .i) = _
            rw [e]; cases o' <;> rfl
          have e := fnr_ln (o := o) ha hb
          cases q : fnr o a b with
          | none => walk_at "s"; rw [q] at e; exact h' _ e.symm
          | some c => rw [q] at e; walk_at "s"; refine s40 (le_of hm rfl) ?_; exact h' _ e.symm
        | s b =>
          simp only [bv, ← tx_add] at h
          walk_at "s"
          · rw [if_pos (by assumption)] at h
            refine ckI ha.B ?_
            walk_at "s"
            exact ckI (show Sz _ from Nat.le_trans (Nat.add_le_add la lb) (by decide)) h
          · rw [if_neg (by assumption)] at h; exact h
      | s a =>
        simp only [bv, ← tx_add] at h
        cases b with
        | i b =>
          have hb := hb _ rfl
          walk_at "s"
          · rw [if_pos (by assumption)] at h
            refine ckI hb.B ?_
            walk_at "s"
            exact ckI (show Sz _ from Nat.le_trans (Nat.add_le_add la lb) (by decide)) h
          · rw [if_neg (by assumption)] at h; exact h
        | s b =>
          walk_at "s"
          · rw [if_pos (by assumption)] at h
            exact ckI (show Sz _ from Nat.le_trans (Nat.add_le_add la lb) (by decide)) h
          · rw [if_neg (by assumption)] at h; exact h
theorem s44 {u : Un} {a : Option Cv} (hn : 2 ≤ n) (h : k (od (uv u a)) σ) : wf tab fns n 44 [.str u.tx, od a] σ k x := by
  refine wf_go (N := 1) hn (F := c44) rfl rfl fun m hm => ?_
  cases a with
  | none => walk_at "s"; exact h
  | some a =>
    cases a with
    | s a => walk_at "s"; exact h
    | i a =>
      cases u <;> walk_at "s"
      · exact h
      · refine s45 (le_of hm rfl) ?_
        refine kk h ?_
        show D.int (Mine.inv a) = D.int (-1 - s32 a)
        rw [inv_s32]
      · exact h
      · exact h
end
end
section
section
variable {n : Nat} {σ : Sto} {k : KV} {x : KX} {i j l r : Int}
theorem s51 (hn : 1 ≤ n) (h : k (.int (sg i)) σ) : wf tab fns n 51 [.int i] σ k x := by
  refine wf_go (N := 0) hn (F := c51) rfl rfl fun m hm => ?_
  unfold sg at h
  walk_at "s" <;> (refine kk h ?_; simp [*])
theorem loop52 {m : Nat} {x0 y0 : Int} {C : Calls} (hx : Tp x0) : ∀ (ds : List D) (t : Int) (g : Option D) (K : KF), Tp t →
    (match lp x0 ds.length t with | some u => ∀ g, K .next [some (.int x0), some (.int y0), some (.int u), g] σ | none => ∀ u g, K (.ret .none) [some (.int x0), some (.int y0), some (.int u), g] σ) →
    fo (fun _ => True) (fun d loc => ex tab C (.cons (.asg 2 (.bin .mul (.loc 2) (.loc 0))) (.cons (.ite (.cmp .gt (.bif .abs (.cons (.loc 2) .nil)) (.glob 27)) (.cons (.ret (.lit .none)) .nil) .nil) .nil)) (loc.set 3 (some d))) ds [some (.int x0), some (.int y0), some (.int t), g] σ K x
  | [], t, g, K, ht, h => by
    simp only [List.length_nil, lp] at h
    exact ⟨trivial, h g⟩
  | d :: ds, t, g, K, ht, h => by
    simp only [List.length_cons, lp] at h
    refine ⟨trivial, ?_⟩
    refine ⟨ht.B, hx.B, ?_⟩
    walk_at "s"
    · rename_i q
      rw [if_pos (by unfold ab; exact q)] at h
      exact h _ _
    · rename_i q
      rw [if_neg (by unfold ab; exact q)] at h
      refine loop52 (m := m) hx ds _ _ K ?_ h
      unfold Tp; split at q <;> lia
theorem s52 (hn : 1 ≤ n) (hl : Tp l) (hr : Tp r) (h : k (oi (pwl l r)) σ) : wf tab fns n 52 [.int l, .int r] σ k x := by
  refine wf_go (N := 0) hn (F := c52) rfl rfl fun m hm => ?_
  have e1 : ¬ r < 0 → r < 54 → lp l (rangeL r).length 1 = pwl l r := fun h1 h2 => by
    rw [← lp_pwl h1]; unfold cnt; rw [if_pos h2]; simp [rangeL]
  have e2 : ¬ r < 0 → ¬ r < 54 → lp l (rangeL (54 + r.fmod 2)).length 1 = pwl l r := fun h1 h2 => by
    rw [← lp_pwl h1]; unfold cnt; rw [if_neg h2, fmod2]; simp [rangeL]
  have fin : ∀ (ds : List D), lp l ds.length 1 = pwl l r → (match lp l ds.length 1 with | some u => ∀ g : Option D, (fun (fl : Fl) (_ : Loc) (σ₁ : Sto) => match fl with | .next => k (.int u) σ₁ | .ret d => k d σ₁) .next [some (.int l), some (.int r), some (.int u), g] σ | none => ∀ (u : Int) (g : Option D), k .none σ) := fun ds e => by
    rw [e]
    cases q : pwl l r with
    | none => rw [q] at h; exact fun _ _ => h
    | some u => rw [q] at h; exact fun _ => h
  walk_at "s"
  · rename_i h1
    refine And.intro hl.B (And.intro hl.B ?_)
    walk_at "s"
    all_goals (refine kk h ?_; unfold pwl par; rw [if_pos h1]; simp only [fmod2] at *; simp [*, oi])
  · rename_i h1 h2
    refine ckI (rOk_of (by lia) (by lia)) ?_
    refine loop52 (m := m) hl _ _ _ _ (by unfold Tp; decide) ?_
    have := fin _ (e1 h1 h2)
    split at this
    · intro g; exact this g
    · intro u g; exact this u g
  · rename_i h1 h2
    have hf := fmod2 r
    refine ckI (rOk_of (by lia) (by lia)) ?_
    refine loop52 (m := m) hl _ _ _ _ (by unfold Tp; decide) ?_
    have := fin _ (e2 h1 h2)
    split at this
    · intro g; exact this g
    · intro u g; exact this u g
theorem s54 {o : Op} (ho : o.isBit = true) (hn : 2 ≤ n) (h : k (.int (lb o l r)) σ) : wf tab fns n 54 [.str o.tx, .int l, .int r] σ k x := by
  refine wf_go (N := 1) hn (F := c54) rfl rfl fun m hm => ?_
  have e : ∀ i : Int, i.fmod 4294967296 = i % 4294967296 := fun i => Int.fmod_eq_emod_of_nonneg _ (by decide)
  unfold lb at h
  cases o <;> simp [Op.isBit] at ho
  · walk_at "s"
    refine s51 (le_of hm rfl) ?_
    rw [e, e]; exact h
  · walk_at "s"
    refine s51 (le_of hm rfl) ?_
    rw [e, e]; exact h
  · walk_at "s"
    rw [e, e]
    obtain ⟨c1, c2, c3, c4, _⟩ := and_bounds (a := l % 4294967296) (b := r % 4294967296) (by lia) (by lia) (by lia) (by lia)
    refine And.intro (by unfold B64; lia) ?_
    refine s51 (le_of hm rfl) ?_
    exact h
theorem rem_law {x y : Int} (hy : y ≠ 0) : rem x y = if x.fmod y ≠ 0 ∧ ¬ (x.fmod y < 0 ↔ x < 0) then x.fmod y - y else x.fmod y := by
  unfold rem
  rw [ab_nat, ab_nat, Int.fmod_eq_emod_of_nonneg _ (by lia), Int.fmod_eq_emod]
  have hyabs : (y.natAbs : Int) = y ∨ (y.natAbs : Int) = -y := by lia
  have e1 : x % (y.natAbs : Int) = x % y := by
    rcases hyabs with h | h <;> rw [h]
    exact Int.emod_neg _ _
  have m0 : 0 ≤ x % y := Int.emod_nonneg _ hy
  have m1 : x % y < (y.natAbs : Int) := by rw [← e1]; exact Int.emod_lt_of_pos _ (by lia)
  have e2 : (x.natAbs : Int) % (y.natAbs : Int) = if 0 ≤ x then x % y else if x % y = 0 then 0 else (y.natAbs : Int) - x % y := by
    by_cases hx : 0 ≤ x
    · rw [if_pos hx, show (x.natAbs : Int) = x by lia, e1]
    · rw [if_neg hx, show (x.natAbs : Int) = -x by lia, Int.neg_emod, e1]
      by_cases hm : x % y = 0
      · rw [if_pos hm, if_pos (Int.dvd_iff_emod_eq_zero.mpr (by rw [e1]; exact hm))]
      · rw [if_neg hm, if_neg (fun q => hm (by rw [← e1]; exact Int.dvd_iff_emod_eq_zero.mp q)), Int.natAbs_natCast]
  rw [e2]
  have e3 : (if 0 ≤ y ∨ y ∣ x then (0 : Int) else y) = if 0 ≤ y ∨ x % y = 0 then 0 else y := by simp only [Int.dvd_iff_emod_eq_zero]
  rw [e3]
  generalize x % y = q at *
  clear e1 e2 e3
  generalize (y.natAbs : Int) = Y at *
  by_cases h1 : 0 ≤ x <;> by_cases h2 : 0 ≤ y <;> by_cases h3 : q = 0 <;> simp only [h1, h2, h3, if_true, if_false, or_true, true_or, or_false, false_or] <;> split <;> (try split) <;> lia
theorem s53 {o : Op} (ho : o.isBit = false ∧ o.isLt = false) (hr0 : o.isRem = true → r ≠ 0) (hn : 3 ≤ n) (hl : Tp l) (hr : Tp r) (h : k (oi (ln o l r)) σ) : wf tab fns n 53 [.str o.tx, .int l, .int r] σ k x := by
  refine wf_go (N := 2) hn (F := c53) rfl rfl fun m hm => ?_
  have hr' := hr.B.1; have hr'' := hr.B.2
  have w1 : ∀ {i : Int}, (if i < 0 then -i else i) > 9007199254740991 → wi i = none := fun {i} q => wi_none (by split at q <;> lia)
  have w2 : ∀ {i : Int}, ¬ (if i < 0 then -i else i) > 9007199254740991 → wi i = some i := fun {i} q => wi_some (by split at q <;> lia)
  have w3 : ∀ {i : Int}, Tp i → (if i < 0 then -i else i) > 9007199254740991 → False := fun {i} q1 q2 => by unfold Tp at q1; split at q2 <;> lia
  cases o <;> simp [Op.isBit, Op.isLt] at ho
  · walk_at "s" <;> unfold ln at h <;> dsimp only at h
    · rw [w1 (by assumption)] at h; exact h
    · rw [w2 (by assumption)] at h; exact h
  · walk_at "s" <;> unfold ln at h <;> dsimp only at h
    · rw [w1 (by assumption)] at h; exact h
    · rw [w2 (by assumption)] at h; exact h
  · walk_at "s"
    refine And.intro hl.B (And.intro hr.B ?_)
    walk_at "s" <;> unfold ln at h <;> dsimp only at h
    · rw [w1 (by assumption)] at h; exact h
    · rw [w2 (by assumption)] at h; exact h
  · have hq : r ≠ 0 → l.fmod r = 0 → qt l r = some (l.fdiv r) := fun h1 h2 => by unfold qt; rw [if_neg h1, if_pos h2]
    unfold ln at h; dsimp only at h
    walk_at "s"
    all_goals first
      | (unfold qt at h; rw [if_neg (by assumption), if_neg (by assumption)] at h; exact h)
      | (rw [hq (by assumption) (by assumption)] at h; exact h)
      | (exact absurd (by assumption) (w3 (fdiv_abs hl (by assumption) (by assumption))))
      | (unfold qt at h; rw [if_pos (by lia)] at h; exact h)
  · have hr1 := hr0 rfl
    have hq : ln .rem l r = some (rem l r) := by unfold ln rm; dsimp only; rw [if_neg hr1]
    rw [hq, rem_law hr1] at h
    have ht := rem_abs (x := l) hr hr1
    rw [rem_law hr1] at ht
    by_cases c : l.fmod r ≠ 0 ∧ ¬(l.fmod r < 0 ↔ l < 0)
    · rw [if_pos c] at h ht
      walk_at "s"
      all_goals first | exact h | exact (w3 ht (by assumption)).elim | (exfalso; lia)
    · rw [if_neg c] at h ht
      walk_at "s"
      all_goals first | exact h | exact (w3 ht (by assumption)).elim | (exfalso; lia)
  · walk_at "s"
    refine s52 (le_of hm rfl) hl hr ?_
    unfold ln at h; dsimp only at h
    cases q : pwl l r with
    | none => rw [q] at h; walk_at "s"; exact h
    | some p =>
      rw [q] at h
      have := ln_Tp (o := .pow) hl hr q
      walk_at "s"
      · exact (w3 this (by assumption)).elim
      · exact h
end
end
section
theorem dvf (x : Tx) : ∀ m : Int, x.foldl (fun (n : Int) (c : Nat) => n * 10 + ((c : Int) - 48)) m = m * 10 ^ x.length + decVal x := by
  induction x with
  | nil => intro m; simp [decVal]
  | cons c r ih =>
    intro m
    unfold decVal
    rw [List.foldl_cons, List.foldl_cons, ih, ih (0 * 10 + ((c : Int) - 48)), List.length_cons, Int.pow_succ]
    simp only [Int.add_mul, Int.zero_mul, Int.zero_add, Int.mul_assoc, Int.mul_comm (10 : Int)]
    lia
theorem dv_app (a b : Tx) : decVal (a ++ b) = decVal a * 10 ^ b.length + decVal b := by
  unfold decVal
  rw [List.foldl_append, dvf]
  rfl
theorem dv_cons (c : Nat) (r : Tx) : decVal (c :: r) = ((c : Int) - 48) * 10 ^ r.length + decVal r := by
  have := dv_app [c] r
  simpa [decVal] using this
theorem dig_le {c : Nat} (h : isDig c = true) : 48 ≤ c ∧ c ≤ 57 := by unfold isDig at h; simpa using h
theorem p10 (n : Nat) : 0 < (10 : Int) ^ n := Int.pow_pos (by decide)
theorem dv_nonneg : ∀ {x : Tx}, x.all isDig = true → 0 ≤ decVal x
  | [], _ => by simp [decVal]
  | c :: r, h => by
    simp only [List.all_cons, Bool.and_eq_true] at h
    rw [dv_cons]
    have := dv_nonneg h.2
    have h1 := (dig_le h.1).1
    have := Int.mul_nonneg (show (0 : Int) ≤ (c : Int) - 48 by lia) (Int.le_of_lt (p10 r.length))
    lia
theorem dv_zero : ∀ {x : Tx}, (∀ c ∈ x, c = 48) → decVal x = 0
  | [], _ => by simp [decVal]
  | c :: r, h => by
    rw [dv_cons, dv_zero (fun d hd => h d (.tail _ hd)), h c (.head _)]; simp
theorem dv_pos : ∀ {x : Tx}, x.all isDig = true → (∃ c ∈ x, c ≠ 48) → 1 ≤ decVal x
  | [], _, ⟨_, h, _⟩ => nomatch h
  | c :: r, h, hc => by
    simp only [List.all_cons, Bool.and_eq_true] at h
    rw [dv_cons]
    have h0 := dv_nonneg h.2
    have h1 := (dig_le h.1).1
    by_cases hz : c = 48
    · subst hz
      obtain ⟨d, hd, hd'⟩ := hc
      rcases List.mem_cons.mp hd with e | hd
      · exact absurd e hd'
      · have := dv_pos h.2 ⟨d, hd, hd'⟩
        simpa using this
    · have := Int.mul_le_mul_of_nonneg_right (show (1 : Int) ≤ (c : Int) - 48 by lia) (Int.le_of_lt (p10 r.length))
      have := p10 r.length
      lia
theorem dw_nil {p : Nat → Bool} : ∀ {x : Tx}, x.dropWhile p = [] ↔ ∀ c ∈ x, p c = true
  | [] => by simp
  | c :: r => by
    rw [List.dropWhile_cons]
    by_cases h : p c = true
    · rw [if_pos h, dw_nil]; simp [h]
    · rw [if_neg h]; simp [h]
theorem dw_head {p : Nat → Bool} : ∀ {x : Tx} {a : Nat} {r : Tx}, x.dropWhile p = a :: r → p a = false
  | [], _, _, h => by simp at h
  | c :: x, a, r, h => by
    rw [List.dropWhile_cons] at h
    by_cases q : p c = true
    · rw [if_pos q] at h; exact dw_head h
    · rw [if_neg q] at h; cases h; simpa using q
theorem strip_nil {x : Tx} {d : Nat} : stripL x [d] = [] ↔ ∀ c ∈ x, c = d := by
  unfold stripL
  rw [List.reverse_eq_nil_iff, dw_nil]
  simp only [List.mem_reverse]
  have hp : ∀ c, [d].contains c = true ↔ c = d := fun c => by simp
  constructor
  · intro h c hc
    by_cases hd : ∀ c ∈ x, c = d
    · exact hd c hc
    · exfalso
      cases e : x.dropWhile (fun c => [d].contains c) with
      | nil => rw [dw_nil] at e; exact hd (fun c hc => (hp c).mp (e c hc))
      | cons a r =>
        have h1 := h a (by rw [e]; exact .head _)
        have h2 := dw_head e
        rw [h1] at h2; cases h2
  · intro h c hc
    exact (hp c).mpr (h c ((List.dropWhile_sublist _).subset hc))
theorem dv_split {ds : Tx} (h : ds.all isDig = true) :
    ((stripL (ds.take (ds.length - 16)) [48] ≠ [] ∨ decVal (ds.drop (ds.length - 16)) > 9007199254740991) → decVal ds > 9007199254740991) ∧
    (¬ (stripL (ds.take (ds.length - 16)) [48] ≠ [] ∨ decVal (ds.drop (ds.length - 16)) > 9007199254740991) → decVal (ds.drop (ds.length - 16)) = decVal ds ∧ decVal ds ≤ 9007199254740991) := by
  have e := dv_app (ds.take (ds.length - 16)) (ds.drop (ds.length - 16))
  rw [List.take_append_drop] at e
  have hA : (ds.take (ds.length - 16)).all isDig = true := by
    rw [List.all_eq_true] at h ⊢; exact fun c hc => h c (List.mem_of_mem_take hc)
  have hB : (ds.drop (ds.length - 16)).all isDig = true := by
    rw [List.all_eq_true] at h ⊢; exact fun c hc => h c (List.mem_of_mem_drop hc)
  have nA := dv_nonneg hA
  have nB := dv_nonneg hB
  by_cases hs : stripL (ds.take (ds.length - 16)) [48] = []
  · have := dv_zero (strip_nil.mp hs)
    rw [this, Int.zero_mul, Int.zero_add] at e
    exact ⟨fun q => by rcases q with q | q; exact absurd hs q; lia, fun q => ⟨e.symm, by have := fun z => q (.inr z); lia⟩⟩
  · have hp : ∃ c ∈ ds.take (ds.length - 16), c ≠ 48 := by
      by_cases q : ∃ c ∈ ds.take (ds.length - 16), c ≠ 48
      · exact q
      · exact absurd (strip_nil.mpr (fun c hc => by by_cases z : c = 48; exact z; exact absurd ⟨c, hc, z⟩ q)) hs
    have h1 := dv_pos hA hp
    have hl : (ds.drop (ds.length - 16)).length = 16 := by
      obtain ⟨c, hc, _⟩ := hp
      have : 0 < (ds.take (ds.length - 16)).length := List.length_pos_of_mem hc
      rw [List.length_drop]; exact Nat.sub_sub_self (Nat.le_of_lt (Nat.lt_of_sub_pos (Nat.lt_of_lt_of_le this (List.length_take_le _ _))))
    rw [hl] at e
    have e16 : (10 : Int) ^ 16 = 10000000000000000 := by decide
    rw [e16] at e
    exact ⟨fun _ => by lia, fun q => absurd (.inl hs) q⟩

noncomputable def tnum (x : Tx) : Option Nm :=
  match stripL x [32] with
  | [] => some (.num 0)
  | c :: r =>
    let ds := if c = 45 then r else c :: r
    if ds = [] ∨ ¬ ds.all isDig = true then some .nan
    else if decVal ds > 9007199254740991 then none else some (.num (if c = 45 then 0 - decVal ds else decVal ds))
theorem allL_map (f : Nat → Bool) : ∀ x : Tx, allL (x.map fun c => .bool (f c)) = some (x.all f)
  | [] => rfl
  | c :: r => congrArg (Option.map (f c && ·)) (allL_map f r)
theorem le_all : ∀ (l : List Nat) (c b : Nat), (∀ x ∈ l, x ≤ b) → b < c → l.contains c = false := by
  intro l c b h hc
  rw [List.contains_eq_any_beq, List.any_eq_false]
  intro x hx e
  exact Nat.lt_irrefl _ (Nat.lt_of_le_of_lt (h x hx) (eq_of_beq e ▸ hc))
theorem dig_cont (c : Nat) : [48, 49, 50, 51, 52, 53, 54, 55, 56, 57].contains c = isDig c := by
  by_cases h : 57 < c
  · exact (le_all _ c 57 (by decide) h).trans (by unfold isDig; rw [decide_eq_false (Nat.not_le.mpr h), Bool.and_false])
  · have : ∀ c < 58, [48, 49, 50, 51, 52, 53, 54, 55, 56, 57].contains c = isDig c := by decide
    exact this c (Nat.lt_succ_of_le (Nat.not_lt.mp h))
end
section
set_option genCtorIdx false
set_option genSizeOf false
set_option genInjectivity false


set_option genCtorIdx true in
inductive V where | num (n : Int) (p : Bool) | txt (x : Tx) (p : Bool) | nan | out | left
noncomputable def V.tag : V → Int | .num .. => 3 | .txt .. => 5 | .nan => 4 | .out => -1 | .left => -2
noncomputable def V.pay : V → D | .num n _ => .int n | .txt x _ => .str x | _ => .int 0
noncomputable def V.pu : V → Bool | .num _ p => p | .txt _ p => p | _ => false
noncomputable def V.d (v : V) : D := .tup [.int v.tag, v.pay, .bool v.pu]
noncomputable def V.bad : V → Bool | .out => true | .left => true | _ => false
noncomputable def V.isT : V → Bool | .txt .. => true | _ => false
noncomputable def V.tx : V → Tx | .num n _ => intTx n | .txt x _ => x | .nan => [78, 97, 78] | _ => []
noncomputable def V.nm : V → Option Nm | .num n _ => some (.num n) | .txt x _ => tnum x | .nan => some .nan | _ => none
noncomputable def V.Ok : V → Prop | .num n _ => Tp n | .txt x _ => (∀ c ∈ x, okc c = true) ∧ x.length ≤ 2000 | _ => True
noncomputable def Nm.pay : Nm → Int | .num n => n | .nan => 0
noncomputable def Nm.tag : Nm → Int | .num _ => 3 | .nan => 4
noncomputable def V.nt (v : V) : Int := if v.bad = true then v.tag else match v.nm with | some n => n.tag | none => -1
noncomputable def V.np (v : V) : Int := match v.nm with | some n => n.pay | none => 0

theorem clamp16 (n : Nat) : clampI n (-16) = n - 16 := by
  show ((-16 : Int) + n).toNat = n - 16
  rw [Int.add_comm]; exact Int.toNat_sub n 16
theorem cutR (ds : Tx) : cutL ds (clampI ds.length (-16)) ds.length = ds.drop (ds.length - 16) := by rw [clamp16]; simp [cutL]
theorem cutT (ds : Tx) : cutL ds 0 (clampI ds.length (-16)) = ds.take (ds.length - 16) := by rw [clamp16]; simp [cutL]
section
variable {n : Nat} {σ : Sto} {k : KV} {x : KX} {i j l r : Int}
theorem int_of {x y : Tx} {k : D → Prop} (e : x = y) (h1 : y ≠ []) (h2 : y.all isDig = true) (h3 : y.length ≤ 600) (h : k (.int (decVal y))) : x ≠ [] ∧ x.all isDig = true ∧ x.length ≤ 600 ∧ k (.int (decVal x)) := by
  cases e; exact ⟨h1, h2, h3, h⟩
theorem all_dig {ds : Tx} {k : Bool → Prop} (h : k (ds.all isDig)) : onO (allL (ds.map fun c => .bool ([48, 49, 50, 51, 52, 53, 54, 55, 56, 57].contains c))) k := by
  rw [allL_map, show List.contains [48, 49, 50, 51, 52, 53, 54, 55, 56, 57] = isDig from funext dig_cont]; exact h
theorem drop_all {ds : Tx} (n : Nat) (h : ds.all isDig = true) : (ds.drop n).all isDig = true := by
  rw [List.all_eq_true] at h ⊢; exact fun c hc => h c (List.mem_of_mem_drop hc)
theorem drop16_ne {ds : Tx} (h : ds ≠ []) : ds.drop (ds.length - 16) ≠ [] := fun z =>
  Nat.lt_irrefl _ (Nat.lt_of_lt_of_le (Nat.sub_lt (List.length_pos_iff.mpr h) (by decide)) (List.drop_eq_nil_iff.mp z))
theorem len16 (ds : Tx) : (ds.drop (ds.length - 16)).length ≤ 16 := by rw [List.length_drop]; exact Nat.sub_le_iff_le_add.mpr (Nat.sub_le_iff_le_add'.mp (Nat.le_refl _))
theorem strip_len (t : Tx) (d : Nat) : (stripL t [d]).length ≤ t.length := by
  unfold stripL
  rw [List.length_reverse]
  refine Nat.le_trans ((List.dropWhile_sublist _).length_le) ?_
  rw [List.length_reverse]
  exact (List.dropWhile_sublist _).length_le
theorem cut1 (c : Nat) (ds : Tx) : cutL (c :: ds) (clampI (c :: ds).length 1) (c :: ds).length = ds := by
  rw [show clampI (c :: ds).length 1 = 1 from show min 1 (ds.length + 1) = 1 from Nat.min_eq_left (Nat.succ_le_succ (Nat.zero_le _))]; exact List.take_length
theorem s49 {v : V} (hn : 1 ≤ n) (hv : v.Ok) (h : k (.tup [.int v.nt, .int v.np]) σ) : wf tab fns n 49 [v.d] σ k x := by
  refine wf_go (N := 0) hn (F := c49) rfl rfl fun m hm => ?_
  cases v with
  | num a p => exact h
  | nan => exact h
  | out => exact h
  | left => exact h
  | txt t p =>
    have hl : Sz t.length := Nat.le_trans hv.2 (by decide)
    have hsub : (stripL t [32]).length ≤ 2000 := Nat.le_trans (strip_len t 32) hv.2
    have h : k (.tup [.int (match tnum t with | some n => n.tag | none => -1), .int (match tnum t with | some n => n.pay | none => 0)]) σ := h
    unfold tnum at h
    refine ckI hl ?_
    cases q : stripL t [32] with
    | nil => rw [q] at h; exact h
    | cons c ds =>
      rw [q] at h hsub
      dsimp only at h
      have hr' : Sz (c :: ds).length := Nat.le_trans hsub (by decide)
      have h2 : (if c = 45 then ds else c :: ds).length ≤ 2000 := by split; exact Nat.le_of_succ_le hsub; exact hsub
      refine ex_set (σ' := σ) (v := .str (if c = 45 then ds else c :: ds)) (fun k hk => ?_) ?_
      · refine brc (fun hb => ckI hr' ?_) fun hb => ?_
        · rw [if_pos hb] at hk
          show k (.str (cutL _ _ _)) σ
          rw [cut1]; exact hk
        · rw [if_neg hb] at hk; exact hk
      generalize (if c = 45 then ds else c :: ds) = ds at h h2
      have z2 : Sz ds.length := Nat.le_trans h2 (by decide)
      refine ex_if (P := ds = [] ∨ ¬ ds.all isDig = true) (fun k hk1 hk2 => ?_) (fun c => ?_) fun c => ?_
      · refine brs (fun hb => hk1 (.inl hb)) fun hb => ckI z2 (ckI (show Sz _ by rw [List.length_map]; exact z2) (all_dig ?_))
        exact brn (fun h => hk1 (.inr fun z => Bool.false_ne_true (h.symm.trans z))) fun h => hk2 fun z => z.elim hb fun z => z h
      · rw [if_pos c] at h; exact h
      have hne : ds ≠ [] := fun z => c (.inl z)
      have hall : ds.all isDig = true := Decidable.not_not.mp fun z => c (.inr z)
      obtain ⟨ds1, ds2⟩ := dv_split hall
      rw [if_neg c] at h
      refine ex_set (σ' := σ) (v := .int (decVal (ds.drop (ds.length - 16)))) (fun k hk => ?_) ?_
      · exact ckI z2 (int_of (k := fun d => k d σ) (cutR ds) (drop16_ne hne) (drop_all _ hall) (Nat.le_trans (len16 ds) (by decide)) hk)
      refine ex_if (P := stripL (ds.take (ds.length - 16)) [48] ≠ [] ∨ decVal (ds.drop (ds.length - 16)) > 9007199254740991) (fun k hk1 hk2 => ?_) (fun c => ?_) fun c => ?_
      · rw [← cutT] at hk1 hk2
        refine ckI z2 (ckI (show Sz _ from Nat.le_trans (by rw [cutT]; exact List.length_take_le' _ _) z2) ?_)
        exact brns (fun hb => hk1 (.inl hb)) fun hb => brd (fun h => hk1 (.inr h)) fun h => hk2 fun z => z.elim (fun z => z hb) h
      · rw [if_pos (ds1 c)] at h; exact h
      obtain ⟨d1, d2⟩ := ds2 c
      rw [if_neg (Int.not_lt.mpr d2)] at h
      rw [d1]
      refine brc (fun hb => ?_) fun hb => ?_
      · rw [if_pos hb] at h; exact h
      · rw [if_neg hb] at h; exact h
end
end
section
noncomputable def CS.take : Nat → CS → CS
  | 0, _ => .nil
  | n + 1, .cons s r => .cons s (CS.take n r)
  | _, c => c
noncomputable def CS.drop : Nat → CS → CS
  | 0, c => c
  | n + 1, .cons s r => CS.drop n r
  | _, _ => .nil
theorem sq_id {K : KF} : sqF (fun l s => K .next l s) K = K := funext fun f => by cases f <;> rfl
theorem sq_sq {g h : Loc → Sto → Prop} {K : KF} : sqF g (sqF h K) = sqF g K := funext fun f => by cases f <;> rfl
theorem ex_split {T : Tab} {C : Calls} {x : KX} {K : KF} : ∀ (i : Nat) (c : CS) (loc : Loc) (σ : Sto), ex T C (c.take i) loc σ (sqF (fun l s => ex T C (c.drop i) l s K x) K) x = ex T C c loc σ K x := by
  intro i
  induction i with
  | zero => exact fun c loc σ => rfl
  | succ i ih =>
    intro c loc σ
    cases c with
    | cons s r =>
      show ex T C s loc σ (sqF (fun l s => ex T C (r.take i) l s (sqF (fun l s => ex T C (r.drop i) l s K x) K) x) (sqF _ K)) x = ex T C s loc σ (sqF (fun l s => ex T C r l s K x) K) x
      rw [show (fun l s => ex T C (r.take i) l s (sqF (fun l s => ex T C (r.drop i) l s K x) K) x) = fun l s => ex T C r l s K x from funext fun l => funext fun s => ih r l s, sq_sq]
    | _ => exact congrArg (fun K => ex T C _ loc σ K x) sq_id
theorem ex_cut {T : Tab} {C : Calls} {x : KX} {K : KF} (P : Loc → Sto → Prop) (i : Nat) {c : CS} {loc : Loc} {σ : Sto}
    (h1 : ∀ K' : KF, (∀ l s, P l s → K' .next l s) → (∀ d l s, K (.ret d) l s → K' (.ret d) l s) → ex T C (c.take i) loc σ K' x) (h2 : ∀ l s, P l s → ex T C (c.drop i) l s K x) : ex T C c loc σ K x := by
  rw [← ex_split i c]
  exact h1 _ (fun l s h => h2 l s h) (fun d l s h => h)

noncomputable def meet (o : Op) (l r : V) : V :=
  if l.bad = true then l else if r.bad = true then r else if o.isLt = true then .left else
  if o.isAdd = true ∧ (l.isT || r.isT) = true then .txt (l.tx ++ r.tx) (l.pu && r.pu)
  else
    let p := l.pu && r.pu && !(l.isT || r.isT)
    match l.nm, r.nm with
    | some a, some b => if o.isBit = true then .num (lb o a.pay b.pay) p else (match sm o a b with | some (.num c) => .num c p | some .nan => .nan | none => .out)
    | _, _ => .out
theorem bad_iff {v : V} : v.bad = true ↔ v.tag < 0 := by cases v <;> simp [V.bad, V.tag]
theorem isT_iff {v : V} : v.isT = (v.tag == 5) := by cases v <;> rfl
theorem tnum_Tp {x : Tx} {a : Int} (h : tnum x = some (.num a)) : Tp a := by
  have key : ∀ (ds : Tx) (c : Nat), (if ds = [] ∨ ¬ ds.all isDig = true then some Nm.nan else if decVal ds > 9007199254740991 then none else some (Nm.num (if c = 45 then 0 - decVal ds else decVal ds))) = some (Nm.num a) → Tp a := by
    intro ds c h
    by_cases q1 : ds = [] ∨ ¬ ds.all isDig = true
    · rw [if_pos q1] at h; cases h
    · rw [if_neg q1] at h
      by_cases q2 : decVal ds > 9007199254740991
      · rw [if_pos q2] at h; cases h
      · rw [if_neg q2] at h
        have h0 := dv_nonneg (x := ds) (by by_cases z : ds.all isDig = true; exact z; exact absurd (.inr z) q1)
        injection h with h; injection h with h
        subst h
        unfold Tp
        split <;> lia
  unfold tnum at h
  split at h
  · cases h; unfold Tp; decide
  · exact key _ _ h
theorem nm_Ok {v : V} (hv : v.Ok) {a : Nm} (h : v.nm = some a) : a.Ok := by
  cases v with
  | num n p => cases h; exact hv
  | txt x p => cases a with
    | num c => exact tnum_Tp h
    | nan => trivial
  | nan => cases h; trivial
  | out => cases h
  | left => cases h
theorem tx_len {v : V} (hv : v.Ok) : v.tx.length ≤ 2000 := by
  cases v with
  | num n p => have := intTx_len hv; exact Nat.le_trans this (by decide)
  | txt x p => exact hv.2
  | _ => decide
theorem tx_lt {o : Op} : o.tx = [60] ↔ o.isLt = true := by cases o <;> simp [Op.tx, Op.isLt]
theorem tx_rem {o : Op} : o.tx = [37] ↔ o.isRem = true := by cases o <;> simp [Op.tx, Op.isRem]
theorem bit_iff {o : Op} : (o.tx == [38] || (o.tx == [124] || (o.tx == [94] || false))) = true ↔ o.isBit = true := by cases o <;> exact Iff.rfl
theorem nt_some {v : V} {a : Nm} (b : v.bad = false) (e : v.nm = some a) : v.nt = a.tag := by unfold V.nt; rw [if_neg (by rw [b]; decide), e]
theorem nt_none {v : V} (b : v.bad = false) (e : v.nm = none) : v.nt = -1 := by unfold V.nt; rw [if_neg (by rw [b]; decide), e]
theorem np_some {v : V} {a : Nm} (e : v.nm = some a) : v.np = a.pay := by unfold V.np; rw [e]
theorem sm_nan (o : Op) (a : Nm) : sm o a .nan = some .nan := by cases a <;> rfl
theorem sm_pow {o : Op} (a : Nm) {b : Int} (h : o.tx = [42, 42]) (hb : b = 0) : sm o a (.num b) = some (.num 1) := by
  cases a <;> (unfold sm; dsimp only; rw [if_pos ⟨tx_pow.mp h, hb⟩])
theorem sm_n {o : Op} {b : Int} (h : ¬ (o.tx = [42, 42] ∧ b = 0)) : sm o .nan (.num b) = some .nan := by
  unfold sm; dsimp only; rw [if_neg (fun z => h ⟨tx_pow.mpr z.1, z.2⟩)]
theorem sm_rem {o : Op} {a b : Int} (h : ¬ (o.tx = [42, 42] ∧ b = 0)) (h' : o.tx = [37] ∧ b = 0) : sm o (.num a) (.num b) = some .nan := by
  unfold sm; dsimp only; rw [if_neg (fun z => h ⟨tx_pow.mpr z.1, z.2⟩), if_pos ⟨tx_rem.mp h'.1, h'.2⟩]
theorem sm_ln {o : Op} {a b : Int} (h : ¬ (o.tx = [42, 42] ∧ b = 0)) (h' : ¬ (o.tx = [37] ∧ b = 0)) : sm o (.num a) (.num b) = (ln o a b).map .num := by
  unfold sm; dsimp only; rw [if_neg (fun z => h ⟨tx_pow.mpr z.1, z.2⟩), if_neg (fun z => h' ⟨tx_rem.mpr z.1, z.2⟩)]
theorem pbq {b : Int} {t : Bool} (h : ((Nm.num b).tag == 3 && (Nm.num b).pay == 0) = t) : b = 0 ↔ t = true := by subst h; simp [Nm.tag, Nm.pay]
section
variable {n : Nat} {σ : Sto} {k : KV} {x : KX} {i j l r : Int}
theorem s50 {v : V} (hn : 1 ≤ n) (hv : v.Ok) (hb : v.bad = false) (h : k (.str v.tx) σ) : wf tab fns n 50 [v.d] σ k x := by
  refine wf_go (N := 0) hn (F := c50) rfl rfl fun m hm => ?_
  cases v with
  | num a p => walk_at "s"; exact ckI (Tp.B hv) h
  | nan => walk_at "s"; exact h
  | out => cases hb
  | left => cases hb
  | txt t p => walk_at "s"; exact h
theorem meet_l {o : Op} {l r : V} (p : l.bad = true) : meet o l r = l := by unfold meet; rw [if_pos p]
theorem meet_r {o : Op} {l r : V} (p : ¬ l.bad = true) (q : r.bad = true) : meet o l r = r := by unfold meet; rw [if_neg p, if_pos q]
theorem meet_lt {o : Op} {l r : V} (p : ¬ (l.bad = true ∨ r.bad = true)) (q : o.isLt = true) : meet o l r = .left := by
  unfold meet; rw [if_neg fun z => p (.inl z), if_neg fun z => p (.inr z), if_pos q]
theorem meet_tx {o : Op} {l r : V} (p : ¬ (l.bad = true ∨ r.bad = true)) (q : ¬ o.isLt = true) (w : o.isAdd = true ∧ (l.isT || r.isT) = true) : meet o l r = .txt (l.tx ++ r.tx) (l.pu && r.pu) := by
  unfold meet; rw [if_neg fun z => p (.inl z), if_neg fun z => p (.inr z), if_neg q, if_pos w]
noncomputable def meetN (o : Op) (l r : V) : V := match l.nm with
  | some a => (match r.nm with
    | some b => if o.isBit = true then .num (lb o a.pay b.pay) (l.pu && r.pu && !(l.isT || r.isT)) else (match sm o a b with | some (.num c) => .num c (l.pu && r.pu && !(l.isT || r.isT)) | some .nan => .nan | none => .out)
    | none => .out)
  | none => .out
theorem meet_n {o : Op} {l r : V} (p : ¬ (l.bad = true ∨ r.bad = true)) (q : ¬ o.isLt = true) (w : ¬ (o.isAdd = true ∧ (l.isT || r.isT) = true)) : meet o l r = meetN o l r := by
  unfold meet meetN; rw [if_neg fun z => p (.inl z), if_neg fun z => p (.inr z), if_neg q, if_neg w]
  cases l.nm <;> cases r.nm <;> rfl
theorem nt_neg {v : V} (b : v.bad = false) : v.nt < 0 ↔ v.nm = none := by
  cases e : v.nm with
  | none => rw [nt_none b e]; decide
  | some a => rw [nt_some b e]; cases a <;> (constructor <;> intro z <;> cases z)
theorem tag_nan {a : Nm} : a.tag = 4 ↔ a = .nan := by cases a <;> simp [Nm.tag]
theorem num_zero {b : Nm} : (b.tag == 3 && b.pay == 0) = true ↔ b = .num 0 := by
  cases b with
  | nan => exact ⟨fun z => Bool.noConfusion z, fun z => by cases z⟩
  | num n => exact ⟨fun z => congrArg Nm.num (eq_of_beq (show (true && n == 0) = true from z)), fun z => by cases z; rfl⟩
theorem s55 {o : Op} {l r : V} (hn : 4 ≤ n) (hl : l.Ok) (hr : r.Ok) (h : k (meet o l r).d σ) : wf tab fns n 55 [.str o.tx, l.d, r.d] σ k x := by
  refine wf_go (N := 3) hn (F := c55) rfl rfl fun m hm => ?_
  refine ex_if (P := l.bad = true ∨ r.bad = true) (fun k h1 h2 => ?_) (fun p => ?_) fun nb => ?_
  · walk_at "s"
    · exact h1 (.inl (bad_iff.mpr (by assumption)))
    · exact h1 (.inr (bad_iff.mpr (by assumption)))
    · exact h2 fun z => z.elim (fun z => absurd (bad_iff.mp z) (by assumption)) fun z => absurd (bad_iff.mp z) (by assumption)
  · walk_at "s"
    · exact kk h (congrArg V.d (meet_l (bad_iff.mpr (by assumption))))
    · rename_i q
      have q := fun z => q (bad_iff.mp z)
      exact kk h (congrArg V.d (meet_r q (p.elim (fun z => absurd z q) id)))
  refine ex_if (P := o.isLt = true) (fun k h1 h2 => ?_) (fun p => ?_) fun nl => ?_
  · exact kb h1 h2 (beq_iff_eq.trans tx_lt)
  · walk_at "s"
    exact kk h (congrArg V.d (meet_lt nb p))
  refine ex_set (v := .bool (l.isT || r.isT)) (σ' := σ) (fun k h1 => ?_) ?_
  · walk_at "s"
    · rename_i q; exact kk h1 (by rw [isT_iff, q]; rfl)
    · rename_i q; exact kk h1 (by rw [isT_iff, isT_iff, show (l.tag == 5) = false from beq_eq_false_iff_ne.mpr q]; rfl)
  refine ex_if (P := o.isAdd = true ∧ (l.isT || r.isT) = true) (fun k h1 h2 => ?_) (fun p => ?_) fun na => ?_
  · generalize (l.isT || r.isT) = W at *
    walk_at "s"
    · exact h1 ⟨tx_add.mp (by assumption), by assumption⟩
    · exact h2 fun z => Bool.false_ne_true ((by assumption : W = false).symm.trans z.2)
    · exact h2 fun z => absurd (tx_add.mpr z.1) (by assumption)
  · have bl : l.bad = false := Bool.eq_false_iff.mpr fun z => nb (.inl z)
    have br : r.bad = false := Bool.eq_false_iff.mpr fun z => nb (.inr z)
    rw [meet_tx nb nl p] at h
    refine s50 (le_of hm rfl) hl bl ?_
    refine s50 (le_of hm rfl) hr br ?_
    refine ckI (show Sz _ by have := tx_len hl; have := tx_len hr; unfold Sz; lia) ?_
    generalize hp : l.pu = p1 at h
    generalize hq : r.pu = p2 at h
    walk_at "s"
    · exact kk h (by rename_i z; rw [hp] at z; cases z; rw [hq]; rfl)
    · exact kk h (by rename_i z; rw [hp] at z; cases z; rw [hp]; rfl)
  rw [meet_n nb nl na] at h
  have bl : l.bad = false := Bool.eq_false_iff.mpr fun z => nb (.inl z)
  have br : r.bad = false := Bool.eq_false_iff.mpr fun z => nb (.inr z)
  unfold meetN at h
  generalize (l.isT || r.isT) = W at *
  refine ex_set (v := .bool (l.pu && r.pu && !W)) (σ' := σ) (fun k h1 => ?_) ?_
  · walk_at "s"
    · rename_i z1 z2; exact kk h1 (congrArg D.bool (by rw [show l.pu = true from z1, show r.pu = true from z2]; rfl))
    · rename_i z1 z2; exact kk h1 (congrArg D.bool (show (l.pu && r.pu && !W) = r.pu by rw [show l.pu = true from z1, show r.pu = false from z2]; rfl))
    · rename_i z1; exact kk h1 (congrArg D.bool (show (l.pu && r.pu && !W) = l.pu by rw [show l.pu = false from z1]; rfl))
  generalize (l.pu && r.pu && !W) = P at *
  refine ex_set (v := .tup [.int l.nt, .int l.np]) (σ' := σ) (fun k h1 => s49 (le_of hm rfl) hl h1) ?_
  refine ex_set (v := .tup [.int r.nt, .int r.np]) (σ' := σ) (fun k h1 => s49 (le_of hm rfl) hr h1) ?_
  refine ex_if (P := l.nm = none ∨ r.nm = none) (fun k h1 h2 => ?_) (fun p => ?_) fun nn => ?_
  · walk_at "s"
    · exact h1 (.inl ((nt_neg bl).mp (by assumption)))
    · exact h1 (.inr ((nt_neg br).mp (by assumption)))
    · exact h2 fun z => z.elim (fun z => absurd ((nt_neg bl).mpr z) (by assumption)) fun z => absurd ((nt_neg br).mpr z) (by assumption)
  · have : k (V.out).d σ := by
      rcases p with p | p
      · rw [p] at h; exact h
      · rw [p] at h; cases e : l.nm <;> (rw [e] at h; exact h)
    walk_at "s"
    exact this
  cases el : l.nm with
  | none => exact absurd (.inl el) nn
  | some a =>
    cases er : r.nm with
    | none => exact absurd (.inr er) nn
    | some b =>
      rw [el, er] at h
      rw [nt_some bl el, np_some el, nt_some br er, np_some er]
      have ha := nm_Ok hl el
      have hb := nm_Ok hr er
      have nlt := nl
      clear nn el er bl br na nl nb hl hr
      dsimp only at h
      refine ex_if (P := o.isBit = true) (fun k h1 h2 => kb h1 h2 bit_iff) (fun p => ?_) fun np => ?_
      · rw [if_pos p] at h
        walk_at "s"
        refine s54 p (le_of hm rfl) ?_
        walk_at "s"
        exact h
      rw [if_neg np] at h
      have fin : ∀ t, sm o a b = t → k (match t with | some (.num c) => V.num c P | some .nan => .nan | none => .out).d σ := fun t e => by rw [e] at h; exact h
      refine ex_if (P := o.tx = [42, 42] ∧ b = .num 0) (fun k h1 h2 => ?_) (fun p => ?_) fun nz => ?_
      · walk_at "s"
        · exact h1 ⟨by assumption, num_zero.mp (by assumption)⟩
        · exact h2 fun z => Bool.false_ne_true ((by assumption : _ = false).symm.trans (num_zero.mpr z.2))
        · exact h2 fun z => absurd z.1 (by assumption)
      · obtain ⟨p1, rfl⟩ := p
        walk_at "s"
        exact fin _ (sm_pow a p1 rfl)
      refine ex_if (P := a = .nan ∨ b = .nan ∨ (o.tx = [37] ∧ b.pay = 0)) (fun k h1 h2 => ?_) (fun p => ?_) fun nq => ?_
      · walk_at "s"
        · exact h1 (.inl (tag_nan.mp (by assumption)))
        · exact h1 (.inr (.inl (tag_nan.mp (by assumption))))
        · exact h1 (.inr (.inr ⟨by assumption, by assumption⟩))
        · exact h2 fun z => z.elim (fun z => absurd (tag_nan.mpr z) (by assumption)) fun z => z.elim (fun z => absurd (tag_nan.mpr z) (by assumption)) fun z => absurd z.2 (by assumption)
        · exact h2 fun z => z.elim (fun z => absurd (tag_nan.mpr z) (by assumption)) fun z => z.elim (fun z => absurd (tag_nan.mpr z) (by assumption)) fun z => absurd z.1 (by assumption)
      · walk_at "s"
        refine fin (some .nan) ?_
        cases b with
        | nan => exact sm_nan o a
        | num b =>
          have nz' : ¬ (o.tx = [42, 42] ∧ b = 0) := fun z => nz ⟨z.1, by rw [z.2]⟩
          cases a with
          | nan => exact sm_n nz'
          | num a =>
            rcases p with p | p | p
            · cases p
            · cases p
            · exact sm_rem nz' p
      cases a with
      | nan => exact absurd (.inl rfl) nq
      | num a =>
        cases b with
        | nan => exact absurd (.inr (.inl rfl)) nq
        | num b =>
          have nr : ¬ (o.tx = [37] ∧ b = 0) := fun z => nq (.inr (.inr z))
          have nz' : ¬ (o.tx = [42, 42] ∧ b = 0) := fun z => nz ⟨z.1, by rw [z.2]⟩
          rw [sm_ln nz' nr] at h
          refine ex_set (v := oi (ln o a b)) (σ' := σ) (fun k h1 => by walk_at "s"; refine s53 ⟨Bool.eq_false_iff.mpr np, Bool.eq_false_iff.mpr nlt⟩ (fun z q => nr ⟨tx_rem.mpr z, q⟩) (le_of hm rfl) ha hb ?_; exact h1) ?_
          cases e : ln o a b with
          | none => rw [e] at h; walk_at "s"; exact h
          | some c => rw [e] at h; walk_at "s"; exact h
end
end
section
noncomputable def unum (u : Un) (a : Nm) (p : Bool) : V := match u, a with
  | .inv, a => .num (inv a.pay) p
  | .neg, .num c => .num (0 - c) p
  | _, .num c => .num c p
  | _, .nan => .nan
noncomputable def Un.isBang : Un → Bool | .bang => true | _ => false
noncomputable def front (u : Un) (v : V) : V := if u.isBang = true then .left else if v.bad = true then v else match v.nm with
  | none => .out
  | some a => unum u a (v.pu && (v.tag == 3))
theorem tx_bang {u : Un} : u.tx = [33] ↔ u.isBang = true := by cases u <;> simp [Un.tx, Un.isBang]
theorem nan_p {v : V} (h : v.nm = some .nan) : (v.pu && (v.tag == 3)) = false := by
  cases v <;> first | rfl | (simp [V.tag]; done) | (simp [V.nm] at h; done)
theorem inv_law (a : Int) : sg (4294967295 - a.fmod 4294967296) = inv a := by
  rw [show a.fmod 4294967296 = a % 4294967296 from Int.fmod_eq_emod_of_nonneg _ (by decide)]; rfl
noncomputable def meek (o : Op) (l r : V) : Op := if o.isPow = true ∧ ab l.np > 99 ∧ r.np > 9 then .sub else o
noncomputable def fill1 (p0 p1 : Tx) (v : V) : V := if v.bad = true then v else .txt (p0 ++ v.tx ++ p1) v.pu
noncomputable def fill2 (p0 p1 p2 : Tx) (v w : V) : V := if v.bad = true then v else if w.bad = true then w else .txt (p0 ++ v.tx ++ p1 ++ w.tx ++ p2) (v.pu && w.pu)
section
variable {n : Nat} {σ : Sto} {k : KV} {x : KX} {i j l r : Int}
theorem nb_of {v : V} (q : ¬ v.tag < 0) : v.bad = false := by cases e : v.bad; rfl; exact absurd (bad_iff.mp e) q
theorem tx_inv {u : Un} : (u.tx == [126]) = true ↔ u = .inv := by cases u <;> simp [Un.tx]
theorem s56 {u : Un} {v : V} (hn : 2 ≤ n) (hv : v.Ok) (h : k (front u v).d σ) : wf tab fns n 56 [.str u.tx, v.d] σ k x := by
  refine wf_go (N := 1) hn (F := c56) rfl rfl fun m hm => ?_
  unfold front at h
  refine ex_if (P := u.isBang = true) (fun k h1 h2 => kb h1 h2 (beq_iff_eq.trans tx_bang)) (fun p => ?_) fun nb => ?_
  · rw [if_pos p] at h
    walk_at "s"
    exact h
  rw [if_neg nb] at h
  refine ex_if (P := v.bad = true) (fun k h1 h2 => ?_) (fun p => ?_) fun nv => ?_
  · walk_at "s"
    exact kb h1 h2 (decide_eq_true_iff.trans bad_iff.symm)
  · rw [if_pos p] at h
    exact h
  rw [if_neg nv] at h
  have bv : v.bad = false := Bool.eq_false_iff.mpr nv
  refine ex_set (v := .tup [.int v.nt, .int v.np]) (σ' := σ) (fun k h1 => s49 (le_of hm rfl) hv h1) ?_
  refine ex_set (v := .bool (v.pu && (v.tag == 3))) (σ' := σ) (fun k h1 => ?_) ?_
  · walk_at "s"
    · rename_i z; exact kk h1 (congrArg D.bool (show (v.pu && (v.tag == 3)) = (v.tag == 3) by rw [show v.pu = true from z]; rfl))
    · rename_i z; exact kk h1 (congrArg D.bool (show (v.pu && (v.tag == 3)) = v.pu by rw [show v.pu = false from z]; rfl))
  have np := nan_p (v := v)
  generalize (v.pu && (v.tag == 3)) = P at h np ⊢
  refine ex_if (P := v.nm = none) (fun k h1 h2 => ?_) (fun p => ?_) fun nn => ?_
  · walk_at "s"
    exact kb h1 h2 (decide_eq_true_iff.trans (nt_neg bv))
  · rw [p] at h
    walk_at "s"
    exact h
  cases e : v.nm with
  | none => exact absurd e nn
  | some a =>
    rw [e] at h np
    rw [nt_some bv e, np_some e]
    clear e nn hv nv bv
    refine ex_if (P := u = .inv) (fun k h1 h2 => kb h1 h2 tx_inv) (fun p => ?_) fun ni => ?_
    · subst p
      walk_at "s"
      refine s51 (le_of hm rfl) ?_
      walk_at "s"
      refine kk h ?_
      rw [inv_law]
      rfl
    · cases a with
      | num c => cases u with
        | inv => exact absurd rfl ni
        | bang => exact absurd rfl nb
        | neg => walk_at "s"; exact h
        | pos => walk_at "s"; exact h
      | nan =>
        cases np rfl
        cases u with
        | inv => exact absurd rfl ni
        | bang => exact absurd rfl nb
        | neg => walk_at "s"; exact h
        | pos => walk_at "s"; exact h
theorem tx_powm {o : Op} {l r : V} (hn : 1 ≤ n) : True := trivial
set_option maxRecDepth 100000 in
theorem s61 {o : Op} {l r : V} (hn : 2 ≤ n) (hl : l.Ok) (hr : r.Ok) (h : k (.str (meek o l r).tx) σ) : wf tab fns n 61 [.str o.tx, l.d, r.d] σ k x := by
  refine wf_go (N := 1) hn (F := c61) rfl rfl fun m hm => ?_
  unfold meek ab at h
  simp only [← tx_pow] at h
  walk_at "s"
  refine s49 (le_of hm rfl) hl ?_
  walk_at "s"
  refine s49 (le_of hm rfl) hr ?_
  walk_at "s"
  · rw [if_pos ⟨by assumption, by assumption, by assumption⟩] at h; exact h
  · rw [if_neg (fun z => absurd z.2.2 (by assumption))] at h; exact h
  · rw [if_neg (fun z => absurd z.2.1 (by assumption))] at h; exact h
  · rw [if_neg (fun z => absurd z.1 (by assumption))] at h; exact h
theorem s57a {p0 p1 : Tx} {v : V} (hn : 2 ≤ n) (hv : v.Ok) (h0 : p0.length ≤ 10) (h1 : p1.length ≤ 10) (h : k (fill1 p0 p1 v).d σ) : wf tab fns n 57 [.tup [.str p0, .str p1], .lst [v.d]] σ k x := by
  refine wf_go (N := 1) hn (F := c57) rfl rfl fun m hm => ?_
  unfold fill1 at h
  walk_at "s"
  · rw [if_pos (bad_iff.mpr (by assumption))] at h; exact h
  · rename_i q
    rw [if_neg (fun z => q (bad_iff.mp z))] at h
    have lv := tx_len hv
    refine s50 (le_of hm rfl) hv (nb_of q) ?_
    refine ckI (by unfold Sz; lia) ?_
    walk_at "s"
    refine ckI (by unfold Sz; rw [List.length_append]; lia) ?_
    walk_at "s"
    exact h
set_option maxRecDepth 100000 in
theorem s57b {p0 p1 p2 : Tx} {v w : V} (hn : 2 ≤ n) (hv : v.Ok) (hw : w.Ok) (h0 : p0.length ≤ 10) (h1 : p1.length ≤ 10) (h2 : p2.length ≤ 10) (h : k (fill2 p0 p1 p2 v w).d σ) : wf tab fns n 57 [.tup [.str p0, .str p1, .str p2], .lst [v.d, w.d]] σ k x := by
  refine wf_go (N := 1) hn (F := c57) rfl rfl fun m hm => ?_
  unfold fill2 at h
  have lv := tx_len hv
  have lw := tx_len hw
  walk_at "s"
  · rw [if_pos (bad_iff.mpr (by assumption))] at h; exact h
  · rename_i q
    rw [if_neg (fun z => q (bad_iff.mp z))] at h
    refine s50 (le_of hm rfl) hv (nb_of q) ?_
    refine ckI (by unfold Sz; lia) ?_
    walk_at "s"
    refine ckI (by unfold Sz; rw [List.length_append]; lia) ?_
    walk_at "s"
    · rw [if_pos (bad_iff.mpr (by assumption))] at h; exact h
    · rename_i q'
      rw [if_neg (fun z => q' (bad_iff.mp z))] at h
      refine s50 (le_of hm rfl) hw (nb_of q') ?_
      refine ckI (by unfold Sz; rw [List.length_append, List.length_append]; lia) ?_
      walk_at "s"
      refine ckI (by unfold Sz; rw [List.length_append, List.length_append, List.length_append]; lia) ?_
      generalize hP : v.pu = P at h
      generalize hQ : w.pu = Q at h
      walk_at "s"
      · refine kk h ?_
        rename_i z
        show D.tup [.int 5, .str _, .bool (P && Q)] = D.tup [.int 5, .str _, .bool w.pu]
        rw [hQ, z]; rfl
      · refine kk h ?_
        rename_i z
        show D.tup [.int 5, .str _, .bool (P && Q)] = D.tup [.int 5, .str _, .bool P]
        rw [z]; rfl
end
end
section
set_option genCtorIdx false
set_option genSizeOf false
set_option genInjectivity false

set_option genCtorIdx true in
inductive Way where | name | mem | idx | idt | fmem | zed
noncomputable def Way.ok : Way → Bool | .fmem => false | .zed => false | _ => true
set_option genCtorIdx true in
inductive Tr where
  | num (n : Int) | str (x : Tx) | tps (x : Tx)
  | nam (w : Way) (x : Tx) (c : Option Cv)
  | una (u : Un) (t : Tr) | par (t : Tr)
  | tp1 (p0 p1 : Tx) (t : Tr) | tp2 (p0 p1 p2 : Tx) (t u : Tr)
  | bin (o : Op) (l r : Tr)
noncomputable def dE : D := .node 8 (.str [69]) []
noncomputable def Way.node (x : Tx) : Way → D
  | .name => .node 8 (.str x) []
  | .mem => .node 16 (.str x) [dE]
  | .idx => .node 17 (.str []) [dE, .node 2 (.str x) []]
  | .idt => .node 17 (.str []) [dE, .node 3 (.tup [.str x]) []]
  | .fmem => .node 16 (.str x) [.node 8 (.str [70]) []]
  | .zed => .node 8 (.str [90]) []
noncomputable def Tr.node : Tr → D
  | .num n => .node 1 (.int n) []
  | .str x => .node 2 (.str x) []
  | .tps x => .node 3 (.tup [.str x]) []
  | .nam w x _ => w.node x
  | .una u t => .node 21 (.str u.tx) [t.node]
  | .par t => .node 33 (.str []) [t.node]
  | .tp1 p0 p1 t => .node 3 (.tup [.str p0, .str p1]) [t.node]
  | .tp2 p0 p1 p2 t u => .node 3 (.tup [.str p0, .str p1, .str p2]) [t.node, u.node]
  | .bin o l r => .node 23 (.str o.tx) [l.node, r.node]
noncomputable def Cv.node : Cv → D
  | .i n => if n < 0 then .node 21 (.str [45]) [.node 1 (.int (0 - n)) []] else .node 1 (.int n) []
  | .s x => .node 2 (.str x) []
noncomputable def Tr.plain : Tr → D
  | .num n => .node 1 (.int n) []
  | .str x => .node 2 (.str x) []
  | .tps x => .node 3 (.tup [.str x]) []
  | .nam w x (some c) => if w.ok = true then c.node else w.node x
  | .nam w x none => w.node x
  | .una u t => .node 21 (.str u.tx) [t.plain]
  | .par t => .node 33 (.str []) [t.plain]
  | .tp1 p0 p1 t => .node 3 (.tup [.str p0, .str p1]) [t.plain]
  | .tp2 p0 p1 p2 t u => .node 3 (.tup [.str p0, .str p1, .str p2]) [t.plain, u.plain]
  | .bin o l r => .node 23 (.str o.tx) [l.plain, r.plain]
noncomputable def Cv.v : Cv → V | .i n => .num n true | .s x => .txt x true
noncomputable def Tr.val : Tr → V
  | .num n => .num n true
  | .str x => .txt x true
  | .tps x => .txt x true
  | .nam w _ (some c) => if w.ok = true then c.v else .left
  | .nam _ _ none => .left
  | .una u t => front u t.val
  | .par t => t.val
  | .tp1 p0 p1 t => fill1 p0 p1 t.val
  | .tp2 p0 p1 p2 t u => fill2 p0 p1 p2 t.val u.val
  | .bin o l r => meet o l.val r.val
noncomputable def Tr.hi : Tr → Nat
  | .una _ t => t.hi + 1 | .par t => t.hi + 1 | .tp1 _ _ t => t.hi + 1
  | .tp2 _ _ _ t u => max t.hi u.hi + 1 | .bin _ t u => max t.hi u.hi + 1
  | _ => 1
noncomputable def Tr.sz : Tr → Nat
  | .una _ t => t.sz + 1 | .par t => t.sz + 1 | .tp1 _ _ t => t.sz + 1
  | .tp2 _ _ _ t u => t.sz + u.sz + 1 | .bin _ t u => t.sz + u.sz + 1
  | _ => 1
noncomputable def okTx (x : Tx) (n : Nat) : Prop := (∀ c ∈ x, okc c = true) ∧ x.length ≤ n
noncomputable def Cv.Small : Cv → Prop | .i n => Tp n | .s x => okTx x 20
noncomputable def Tr.Ok (lk : Tx → Option Cv) : Tr → Prop
  | .num n => Tp n ∧ 0 ≤ n
  | .str x => okTx x 20
  | .tps x => okTx x 20
  | .nam w x c => (w.ok = true → lk x = c) ∧ (w = .zed → lk [90] = none) ∧ (∀ d, c = some d → d.Small)
  | .una _ t => t.Ok lk
  | .par t => t.Ok lk
  | .tp1 p0 p1 t => okTx p0 1 ∧ okTx p1 1 ∧ t.Ok lk
  | .tp2 p0 p1 p2 t u => okTx p0 1 ∧ okTx p1 1 ∧ okTx p2 1 ∧ t.Ok lk ∧ u.Ok lk
  | .bin _ l r => l.Ok lk ∧ r.Ok lk
noncomputable def want : V → Option Cv | .num n true => some (.i n) | .txt x true => some (.s x) | _ => none
noncomputable def Tr.core : Tr → Tr | .par t => t.core | t => t
theorem core_val (t : Tr) : t.core.val = t.val := by
  induction t with
  | par t ih => exact ih
  | _ => rfl
theorem core_sz (t : Tr) : t.core.sz ≤ t.sz := by
  induction t with
  | par t ih => exact Nat.le_succ_of_le ih
  | _ => exact Nat.le_refl _
theorem core_ok {lk} (t : Tr) (h : t.Ok lk) : t.core.Ok lk := by
  induction t with
  | par t ih => exact ih h
  | _ => exact h
theorem core_hi (t : Tr) : t.core.hi ≤ t.hi := by
  induction t with
  | par t ih => exact Nat.le_succ_of_le ih
  | _ => exact Nat.le_refl _
theorem core_not (t u : Tr) : t.core ≠ .par u := by
  induction t with
  | par t ih => exact ih
  | _ => exact nofun

-- the law's values are within bounds
theorem okTx.app {a b : Tx} {m n : Nat} (ha : okTx a m) (hb : okTx b n) : okTx (a ++ b) (m + n) :=
  ⟨fun c hc => by rcases List.mem_append.mp hc with h | h; exact ha.1 c h; exact hb.1 c h, by rw [List.length_append]; exact Nat.add_le_add ha.2 hb.2⟩
noncomputable def V.In (v : V) (n : Nat) : Prop := match v with | .num a _ => Tp a | .txt x _ => okTx x n | _ => True
theorem V.In.tx {v : V} {n : Nat} (h : v.In n) (hn : 17 ≤ n) : okTx v.tx n := by
  cases v with
  | num a p => exact ⟨intTx_ok a, Nat.le_trans (intTx_len h) hn⟩
  | txt x p => exact h
  | nan => exact ⟨by decide, by show 3 ≤ n; lia⟩
  | out => exact ⟨by simp [V.tx], by simp [V.tx]⟩
  | left => exact ⟨by simp [V.tx], by simp [V.tx]⟩
theorem V.In.mono {v : V} {m n : Nat} (h : v.In m) (hm : m ≤ n) : v.In n := by
  cases v with
  | txt x p => exact ⟨h.1, Nat.le_trans h.2 hm⟩
  | _ => exact h
theorem V.In.ok {v : V} {n : Nat} (h : v.In n) (hn : n ≤ 2000) : v.Ok := by
  cases v with
  | num a p => exact h
  | txt x p => exact ⟨h.1, Nat.le_trans h.2 hn⟩
  | _ => trivial
theorem V.In.nm {v : V} {n : Nat} (h : v.In n) {a : Nm} (e : v.nm = some a) : a.Ok := by
  cases v with
  | num b p => cases e; exact h
  | txt x p => cases a with
    | num c => exact tnum_Tp e
    | nan => trivial
  | nan => cases e; trivial
  | out => cases e
  | left => cases e
theorem sm_Ok {o : Op} {a b c : Nm} (ha : a.Ok) (hb : b.Ok) (h : sm o a b = some c) : c.Ok := by
  have one : (Nm.num 1).Ok := show 1 ≤ 9007199254740991 by decide
  cases b with
  | nan => rw [sm_nan] at h; cases h; trivial
  | num b =>
    cases a with
    | nan =>
      have h : (if o.isPow = true ∧ b = 0 then some (.num 1) else some .nan) = some c := h
      by_cases q : o.isPow = true ∧ b = 0
      · rw [if_pos q] at h; cases h; exact one
      · rw [if_neg q] at h; cases h; trivial
    | num a =>
      have h : (if o.isPow = true ∧ b = 0 then some (.num 1) else if o.isRem = true ∧ b = 0 then some .nan else (ln o a b).map .num) = some c := h
      by_cases q : o.isPow = true ∧ b = 0
      · rw [if_pos q] at h; cases h; exact one
      rw [if_neg q] at h
      by_cases q : o.isRem = true ∧ b = 0
      · rw [if_pos q] at h; cases h; trivial
      rw [if_neg q] at h
      obtain ⟨d, e, rfl⟩ := Option.map_eq_some_iff.mp h
      exact ln_Tp ha hb e
theorem meet_In {o : Op} {l r : V} {m n : Nat} (hl : l.In m) (hr : r.In n) (hm : 17 ≤ m) (hn : 17 ≤ n) : (meet o l r).In (m + n) := by
  by_cases bl : l.bad = true
  · rw [meet_l bl]; exact hl.mono (Nat.le_add_right _ _)
  by_cases br : r.bad = true
  · rw [meet_r bl br]; exact hr.mono (Nat.le_add_left _ _)
  have nb : ¬ (l.bad = true ∨ r.bad = true) := fun z => z.elim bl br
  by_cases h1 : o.isLt = true
  · rw [meet_lt nb h1]; trivial
  by_cases h2 : o.isAdd = true ∧ (l.isT || r.isT) = true
  · rw [meet_tx nb h1 h2]; exact (hl.tx hm).app (hr.tx hn)
  rw [meet_n nb h1 h2]
  unfold meetN
  cases e1 : l.nm with
  | none => trivial
  | some a =>
    cases e2 : r.nm with
    | none => trivial
    | some b =>
      dsimp only
      by_cases h3 : o.isBit = true
      · rw [if_pos h3]; exact lb_Tp _ _ _
      · rw [if_neg h3]
        cases e : sm o a b with
        | none => trivial
        | some c => cases c with
          | num c => exact sm_Ok (hl.nm e1) (hr.nm e2) e
          | nan => trivial
theorem front_In {u : Un} {v : V} {n : Nat} (h : v.In n) : (front u v).In n := by
  unfold front
  by_cases q : u.isBang = true
  · rw [if_pos q]; trivial
  rw [if_neg q]
  by_cases q : v.bad = true
  · rw [if_pos q]; exact h
  rw [if_neg q]
  cases e : v.nm with
  | none => trivial
  | some a =>
    have := h.nm e
    cases u <;> cases a <;> first | trivial | exact inv_Tp _ | exact this | (show Tp (0 - _); rw [Int.zero_sub]; exact neg_Tp this)
theorem pow_up {a b n : Nat} (h : n + 3 ≤ 23 * 2 ^ a) (q : a ≤ b) : n + 3 ≤ 23 * 2 ^ b := Nat.le_trans h (Nat.mul_le_mul_left 23 (Nat.pow_le_pow_right (by decide) q))
theorem pow_two {a b n m : Nat} (h : n + 3 ≤ 23 * 2 ^ a) (h' : m + 3 ≤ 23 * 2 ^ b) : n + m + 6 ≤ 23 * 2 ^ (max a b + 1) := by
  have h := pow_up h (Nat.le_max_left a b)
  have h' := pow_up h' (Nat.le_max_right a b)
  rw [Nat.pow_succ]
  lia
theorem val_In {lk} {t : Tr} (h : t.Ok lk) : ∃ n, n + 3 ≤ 23 * 2 ^ t.hi ∧ 17 ≤ n ∧ t.val.In n := by
  induction t with
  | num n => exact ⟨20, show 23 ≤ 46 by decide, by decide, h.1⟩
  | str x => exact ⟨20, show 23 ≤ 46 by decide, by decide, h⟩
  | tps x => exact ⟨20, show 23 ≤ 46 by decide, by decide, h⟩
  | nam w x c =>
    refine ⟨20, show 23 ≤ 46 by decide, by decide, ?_⟩
    cases c with
    | none => trivial
    | some c =>
      show (if w.ok = true then c.v else .left).In 20
      by_cases q : w.ok = true
      · rw [if_pos q]
        have := h.2.2 c rfl
        cases c <;> exact this
      · rw [if_neg q]; trivial
  | una u t ih =>
    obtain ⟨n, h1, h2, h3⟩ := ih h
    exact ⟨n, pow_up h1 (Nat.le_succ _), h2, front_In h3⟩
  | par t ih =>
    obtain ⟨n, h1, h2, h3⟩ := ih h
    exact ⟨n, pow_up h1 (Nat.le_succ _), h2, h3⟩
  | tp1 p0 p1 t ih =>
    obtain ⟨h0, h1, ht⟩ := h
    obtain ⟨n, q1, q2, q3⟩ := ih ht
    refine ⟨1 + n + 1, by have := pow_two q1 q1; rw [Nat.max_self] at this; exact Nat.le_trans (by lia) this, Nat.le_succ_of_le (Nat.le_trans q2 (Nat.le_add_left _ _)), ?_⟩
    show (if t.val.bad = true then t.val else .txt (p0 ++ t.val.tx ++ p1) t.val.pu).In _
    by_cases q : t.val.bad = true
    · rw [if_pos q]; exact q3.mono (Nat.le_succ_of_le (Nat.le_add_left _ _))
    · rw [if_neg q]; exact (h0.app (q3.tx q2)).app h1
  | tp2 p0 p1 p2 t u iht ihu =>
    obtain ⟨h0, h1, h2, ht, hu⟩ := h
    obtain ⟨n, q1, q2, q3⟩ := iht ht
    obtain ⟨m, r1, r2, r3⟩ := ihu hu
    refine ⟨1 + n + 1 + m + 1, Nat.le_trans (Nat.le_of_eq (by lia)) (pow_two q1 r1), by lia, ?_⟩
    show (if t.val.bad = true then t.val else if u.val.bad = true then u.val else .txt (p0 ++ t.val.tx ++ p1 ++ u.val.tx ++ p2) (t.val.pu && u.val.pu)).In _
    by_cases q : t.val.bad = true
    · rw [if_pos q]; exact q3.mono (by lia)
    · rw [if_neg q]
      by_cases r : u.val.bad = true
      · rw [if_pos r]; exact r3.mono (by lia)
      · rw [if_neg r]; exact (((h0.app (q3.tx q2)).app h1).app (r3.tx r2)).app h2
  | bin o t u iht ihu =>
    obtain ⟨n, q1, q2, q3⟩ := iht h.1
    obtain ⟨m, r1, r2, r3⟩ := ihu h.2
    exact ⟨n + m, Nat.le_trans (Nat.add_le_add_left (by decide) _) (pow_two q1 r1), Nat.le_trans q2 (Nat.le_add_right _ _), meet_In q3 r3 q2 r2⟩
theorem val_2000 {lk} {t : Tr} (h : t.Ok lk) (hh : t.hi ≤ 5) : t.val.In 2000 := by
  obtain ⟨n, h1, _, h3⟩ := val_In h
  exact h3.mono (Nat.le_trans (Nat.le_add_right n 3) (Nat.le_trans (pow_up h1 hh) (by decide)))
theorem val_ok {lk} {t : Tr} (h : t.Ok lk) (hh : t.hi ≤ 5) : t.val.Ok := (val_2000 h hh).ok (Nat.le_refl _)
end
section
theorem want_v (c : Cv) : want c.v = some c := by cases c <;> rfl
theorem want_pu {v : V} (h : v.pu = false) : want v = none := by
  cases v with
  | num n p => cases (show p = false from h); rfl
  | txt n p => cases (show p = false from h); rfl
  | _ => rfl
theorem want_bad {v : V} (h : v.bad = true) : want v = none := by cases v <;> first | rfl | exact absurd h Bool.false_ne_true
theorem want_unum (u : Un) (a : Nm) : want (unum u a false) = none := by cases u <;> cases a <;> rfl
theorem want_front (u : Un) (v : V) : want (front u v) = uv u (want v) := by
  cases v with
  | num n p => cases p <;> cases u <;> first | rfl | exact congrArg (fun z => some (Cv.i z)) (Int.zero_sub n)
  | txt x p =>
    rw [show uv u (want (.txt x p)) = none by cases p <;> rfl]
    unfold front
    by_cases q : u.isBang = true
    · rw [if_pos q]; rfl
    rw [if_neg q, if_neg (show ¬ (V.txt x p).bad = true from Bool.false_ne_true)]
    cases (V.txt x p).nm with
    | none => rfl
    | some a =>
      show want (unum u a ((V.txt x p).pu && false)) = none
      rw [Bool.and_false]; exact want_unum u a
  | nan => cases u <;> rfl
  | out => cases u <;> rfl
  | left => cases u <;> rfl
theorem bv_none_l (o : Op) (b : Option Cv) : bv o none b = none := by cases b <;> rfl
theorem bv_none_r (o : Op) (a : Option Cv) : bv o a none = none := by cases a with | none => rfl | some a => cases a <;> rfl
theorem lt_add {o : Op} (h : o.isLt = true) : ¬ o.isAdd = true := by cases o <;> first | exact Bool.false_ne_true | exact absurd h Bool.false_ne_true
theorem want_n {o : Op} {l r : V} (h : (l.pu && r.pu && !(l.isT || r.isT)) = false) : want (meetN o l r) = none := by
  unfold meetN
  cases l.nm with
  | none => rfl
  | some a =>
    cases r.nm with
    | none => rfl
    | some b =>
      dsimp only
      rw [h]
      by_cases q : o.isBit = true
      · rw [if_pos q]; rfl
      · rw [if_neg q]
        cases sm o a b with
        | none => rfl
        | some c => cases c <;> rfl
theorem want_meet0 {o : Op} {l r : V} (hp : (l.pu && r.pu) = false) : want (meet o l r) = none := by
  by_cases bl : l.bad = true
  · rw [meet_l bl]; exact want_bad bl
  by_cases br : r.bad = true
  · rw [meet_r bl br]; exact want_bad br
  have nb : ¬ (l.bad = true ∨ r.bad = true) := fun z => z.elim bl br
  by_cases h1 : o.isLt = true
  · rw [meet_lt nb h1]; rfl
  by_cases h2 : o.isAdd = true ∧ (l.isT || r.isT) = true
  · rw [meet_tx nb h1 h2, hp]; rfl
  · rw [meet_n nb h1 h2]; exact want_n (by rw [hp]; rfl)
theorem want_join {o : Op} {l r : V} (nb : ¬ (l.bad = true ∨ r.bad = true)) (hp : (l.pu && r.pu) = true) (ht : (l.isT || r.isT) = true) : want (meet o l r) = if o.isAdd = true then some (.s (l.tx ++ r.tx)) else none := by
  by_cases h1 : o.isLt = true
  · rw [meet_lt nb h1, if_neg (lt_add h1)]; rfl
  by_cases h2 : o.isAdd = true
  · rw [meet_tx nb h1 ⟨h2, ht⟩, hp, if_pos h2]; rfl
  · rw [meet_n nb h1 fun z => h2 z.1, if_neg h2]; exact want_n (by rw [hp, ht]; rfl)
theorem nbf : ¬ (false = true ∨ false = true) := fun z => z.elim Bool.false_ne_true Bool.false_ne_true
theorem want_sum (o : Op) (a b : Int) : want (meet o (.num a true) (.num b true)) = (ln o a b).map .i := by
  by_cases h1 : o.isLt = true
  · rw [meet_lt (l := .num a true) (r := .num b true) nbf h1]; cases o <;> first | rfl | exact absurd h1 Bool.false_ne_true
  rw [meet_n (l := .num a true) (r := .num b true) nbf h1 fun z => Bool.false_ne_true z.2]
  show want (if o.isBit = true then V.num (lb o a b) true else match sm o (.num a) (.num b) with | some (.num c) => .num c true | some .nan => .nan | none => .out) = _
  by_cases h3 : o.isBit = true
  · rw [if_pos h3]; cases o <;> first | rfl | exact absurd h3 Bool.false_ne_true
  rw [if_neg h3]
  show want (match (if o.isPow = true ∧ b = 0 then some (Nm.num 1) else if o.isRem = true ∧ b = 0 then some Nm.nan else (ln o a b).map Nm.num : Option Nm) with | some (.num c) => V.num c true | some .nan => V.nan | none => V.out) = _
  by_cases h4 : o.isPow = true ∧ b = 0
  · rw [if_pos h4]
    obtain ⟨h4, rfl⟩ := h4
    cases o <;> first | exact absurd h4 Bool.false_ne_true | (rw [ln_pow0]; rfl)
  rw [if_neg h4]
  by_cases h5 : o.isRem = true ∧ b = 0
  · rw [if_pos h5]
    obtain ⟨h5, rfl⟩ := h5
    cases o <;> first | exact absurd h5 Bool.false_ne_true | rfl
  rw [if_neg h5]
  cases ln o a b <;> rfl
theorem want_meet (o : Op) (l r : V) : want (meet o l r) = bv o (want l) (want r) := by
  by_cases hp : (l.pu && r.pu) = true
  · obtain ⟨hl, hr⟩ := Bool.and_eq_true_iff.mp hp
    cases l with
    | num a p =>
      cases (show p = true from hl)
      cases r with
      | num b q => cases (show q = true from hr); exact want_sum o a b
      | txt y q => cases (show q = true from hr); exact want_join nbf rfl rfl
      | _ => exact absurd hr Bool.false_ne_true
    | txt x p =>
      cases (show p = true from hl)
      cases r with
      | num b q => cases (show q = true from hr); exact want_join nbf rfl rfl
      | txt y q => cases (show q = true from hr); exact want_join nbf rfl rfl
      | _ => exact absurd hr Bool.false_ne_true
    | _ => exact absurd hl Bool.false_ne_true
  · have hp := Bool.eq_false_iff.mpr hp
    rw [want_meet0 hp]
    cases hl : l.pu with
    | false => rw [want_pu hl, bv_none_l]
    | true => rw [hl] at hp; rw [want_pu (v := r) hp, bv_none_r]
theorem want_fill1 (p0 p1 : Tx) (v : V) : want (fill1 p0 p1 v) = (want v).map fun c => .s (p0 ++ c.str ++ p1) := by
  cases v with
  | num n p => cases p <;> rfl
  | txt x p => cases p <;> rfl
  | _ => rfl
noncomputable def f2 (p0 p1 p2 : Tx) : Option Cv → Option Cv → Option Cv
  | some a, some b => some (.s (p0 ++ a.str ++ p1 ++ b.str ++ p2))
  | _, _ => none
theorem want_fill2 (p0 p1 p2 : Tx) (v w : V) : want (fill2 p0 p1 p2 v w) = f2 p0 p1 p2 (want v) (want w) := by
  cases v with
  | num n p => cases w with
    | num m q => cases p <;> cases q <;> rfl
    | txt x q => cases p <;> cases q <;> rfl
    | _ => cases p <;> rfl
  | txt y p => cases w with
    | num m q => cases p <;> cases q <;> rfl
    | txt x q => cases p <;> cases q <;> rfl
    | _ => cases p <;> rfl
  | nan => cases w <;> rfl
  | out => rfl
  | left => rfl
theorem want_In {v : V} {n : Nat} (h : v.In n) (hn : n ≤ 10000) : OkO (want v) := by
  intro c e
  cases v with
  | num a p => cases p <;> cases e; exact h
  | txt x p => cases p <;> cases e; exact Nat.le_trans h.2 hn
  | _ => cases e
end
section
set_option genCtorIdx false
set_option genSizeOf false
set_option genInjectivity false

structure Kn (σ : Sto) (hk : Nat) (lk : Tx → Option Cv) : Prop where
  lt : hk < σ.length
  dict : ∃ L, σ.at hk = .sdict L ∧ ∀ x, L.lookup x = (lk x).map Cv.d
  noE : lk [69] = none
section
variable {n : Nat} {σ : Sto} {k : KV} {x : KX} {i j l r : Int}
theorem bare_loop {C : Calls} {K : KF} : ∀ (t : Tr), K .next [some t.core.node] σ →
    ∃ n, wl (fun loc σ k x => ev tab C loc (.cmp .eq (.attr (.loc 0) 0) (.glob 0)) .b σ k x) (ex tab C (.cons (.asg 0 (.sub (.attr (.loc 0) 2) (.lit (.int 0)))) .nil)) n [some t.node] σ K x
  | .par t, h => (bare_loop t h).elim fun n hn => ⟨n + 1, hn⟩
  | .num _, h => ⟨1, h⟩
  | .str _, h => ⟨1, h⟩
  | .tps _, h => ⟨1, h⟩
  | .nam w _ _, h => ⟨1, by cases w <;> exact h⟩
  | .una .., h => ⟨1, h⟩
  | .tp1 .., h => ⟨1, h⟩
  | .tp2 .., h => ⟨1, h⟩
  | .bin .., h => ⟨1, h⟩
theorem s2 {t : Tr} (hn : 1 ≤ n) (h : k t.core.node σ) : wf tab fns n 2 [t.node] σ k x := by
  refine wf_go (N := 0) hn (F := c2) rfl rfl fun m hm => ?_
  show ∃ n, wl _ _ n _ _ _ _
  exact bare_loop t h
theorem s3a {y : Tx} (hn : 2 ≤ n) (h : k (.str y) σ) : wf tab fns n 3 [.node 2 (.str y) []] σ k x := by
  refine wf_go (N := 1) hn (F := c3) rfl rfl fun m hm => ?_
  refine s2 (t := .str y) (le_of hm rfl) ?_
  walk_at "s"
  exact h
theorem s3b {y : Tx} (hn : 2 ≤ n) (h : k (.str y) σ) : wf tab fns n 3 [.node 3 (.tup [.str y]) []] σ k x := by
  refine wf_go (N := 1) hn (F := c3) rfl rfl fun m hm => ?_
  refine s2 (t := .tps y) (le_of hm rfl) ?_
  walk_at "s"
  exact h
theorem s4 {w : Way} {y : Tx} (hw : w = .mem ∨ w = .idx ∨ w = .idt ∨ w = .fmem) (hn : 3 ≤ n) (h : k (.str y) σ) : wf tab fns n 4 [w.node y] σ k x := by
  refine wf_go (N := 2) hn (F := c4) rfl rfl fun m hm => ?_
  rcases hw with rfl | rfl | rfl | rfl
  · walk_at "s"; exact h
  · walk_at "s"; refine s3a (le_of hm rfl) ?_; walk_at "s"; exact h
  · walk_at "s"; refine s3b (le_of hm rfl) ?_; walk_at "s"; exact h
  · walk_at "s"; exact h
theorem s15 {w : Way} {y : Tx} (hw : w = .mem ∨ w = .idx ∨ w = .idt ∨ w = .fmem) (hn : 4 ≤ n) (h : k (if w.ok = true then .str y else .none) σ) : wf tab fns n 15 [w.node y, .str [69]] σ k x := by
  refine wf_go (N := 3) hn (F := c15) rfl rfl fun m hm => ?_
  rcases hw with rfl | rfl | rfl | rfl
  · walk_at "s"; refine s4 (w := .mem) (.inl rfl) (by lia) ?_; walk_at "s"; exact h
  · walk_at "s"; refine s4 (w := .idx) (.inr (.inl rfl)) (by lia) ?_; walk_at "s"; exact h
  · walk_at "s"; refine s4 (w := .idt) (.inr (.inr (.inl rfl))) (by lia) ?_; walk_at "s"; exact h
  · walk_at "s"; exact h
noncomputable def look (lk : Tx → Option Cv) (w : Way) (y : Tx) : Option Cv := match w with
  | .fmem => none
  | .zed => lk [90]
  | _ => lk y
theorem od_get (o : Option Cv) : ((o.map Cv.d).getD .none) = od o := by cases o <;> rfl
theorem Kn.ok {hk : Nat} {lk : Tx → Option Cv} (K : Kn σ hk lk) {P : Prop} (h : P) : bmOk σ .get1 (.h hk) P := by
  obtain ⟨L, hL, _⟩ := K.dict
  exact ckI K.lt (by rw [hL]; exact h)
theorem Kn.has {hk : Nat} {lk : Tx → Option Cv} (K : Kn σ hk lk) {f : List (Tx × D) → Prop} {dd : Decidable (hk < σ.length)} (h : ∀ L, L.lookup [69] = none → (∀ x, L.lookup x = (lk x).map Cv.d) → f L) : @Decidable.rec (hk < σ.length) (fun _ => Prop) (fun _ => False) (fun _ => moS (σ.at hk) f) dd := by
  obtain ⟨L, hL, hlk⟩ := K.dict
  exact ckI K.lt (by rw [hL]; exact h L (by rw [hlk, K.noE]; rfl) hlk)
theorem s16n {t : Tr} {w : Way} {y : Tx} {cv : Option Cv} (e : t.core = .nam w y cv) {hk : Nat} {lk : Tx → Option Cv} (K : Kn σ hk lk) (hn : 6 ≤ n) (h : k (od (look lk w y)) σ) : wf tab fns n 16 [t.node, .h hk, .str [69]] σ k x := by
  refine wf_go (N := 5) hn (F := c16) rfl rfl fun m hm => ?_
  refine s2 (le_of hm rfl) ?_
  rw [e]
  cases w
  · walk_at "s"
    refine K.ok ?_
    exact K.has fun L hE hlk => kk h (by rw [hlk, od_get]; rfl)
  · walk_at "s"
    refine K.has fun L hE hlk => ?_
    rw [hE]
    walk_at "s"
    refine K.ok ?_
    refine s15 (w := .mem) (.inl rfl) (by lia) ?_
    exact K.has fun L hE hlk => kk h (by rw [hlk, od_get]; rfl)
  · walk_at "s"
    refine K.has fun L hE hlk => ?_
    rw [hE]
    walk_at "s"
    refine K.ok ?_
    refine s15 (w := .idx) (.inr (.inl rfl)) (by lia) ?_
    exact K.has fun L hE hlk => kk h (by rw [hlk, od_get]; rfl)
  · walk_at "s"
    refine K.has fun L hE hlk => ?_
    rw [hE]
    walk_at "s"
    refine K.ok ?_
    refine s15 (w := .idt) (.inr (.inr (.inl rfl))) (by lia) ?_
    exact K.has fun L hE hlk => kk h (by rw [hlk, od_get]; rfl)
  · walk_at "s"
    refine K.has fun L hE hlk => ?_
    rw [hE]
    walk_at "s"
    refine K.ok ?_
    refine s15 (w := .fmem) (.inr (.inr (.inr rfl))) (by lia) ?_
    exact K.has fun L hE hlk => h
  · walk_at "s"
    refine K.ok ?_
    exact K.has fun L hE hlk => kk h (by rw [hlk, od_get]; rfl)

theorem s5 {c : Cv} (hn : 1 ≤ n) (h : k (.bool (match c with | .i _ => false | .s _ => true)) σ) : wf tab fns n 5 [c.d] σ k x := by
  refine wf_go (N := 0) hn (F := c5) rfl rfl fun m hm => ?_
  cases c <;> (walk_at "s"; exact h)
noncomputable def Kid (f M : Nat) (d : D) (hk : Nat) (σ : Sto) (c : Option Cv) : Prop := ∀ (m : Nat) (k' : KV) (x' : KX), M ≤ m → k' (od c) σ → wf tab fns m f [d, .h hk, .str [69]] σ k' x'
theorem s13 {u : Un} {d : D} {hk M : Nat} {c : Option Cv} (H : Kid 16 M d hk σ c) (hn : M + 3 ≤ n) (h : k (od (uv u c)) σ) : wf tab fns n 13 [.node 21 (.str u.tx) [d], .h hk, .str [69]] σ k x := by
  refine wf_go (N := M + 2) (by lia) (F := c13) rfl rfl fun m hm => ?_
  walk_at "s"
  refine H m _ _ (by lia) ?_
  cases c with
  | none => walk_at "s"; exact h
  | some c =>
    cases c with
    | s y => walk_at "s"; refine s5 (c := .s y) (le_of hm rfl) ?_; walk_at "s"; exact h
    | i a =>
      walk_at "s"
      refine s5 (c := .i a) (le_of hm rfl) ?_
      cases u <;> walk_at "s"
      · exact h
      · refine s7 (le_of hm rfl) ?_
        refine s7 (le_of hm rfl) ?_
        refine kk h ?_
        show D.int (Mine.inv a) = D.int (s32 (-1 - s32 a))
        rw [inv_s32, s32_inv]
      · exact h
      · exact h
theorem s12 {o : Op} {d e : D} {hk M : Nat} {a b : Option Cv} (H1 : Kid 16 M d hk σ a) (H2 : Kid 16 M e hk σ b) (ha : OkO a) (hb : OkO b) (hn : M + 5 ≤ n) (h : k (od (bv o a b)) σ) : wf tab fns n 12 [.node 23 (.str o.tx) [d, e], .h hk, .str [69]] σ k x := by
  refine wf_go (N := M + 4) (by lia) (F := c12) rfl rfl fun m hm => ?_
  walk_at "s"
  refine H1 m _ _ (by lia) ?_
  walk_at "s"
  refine H2 m _ _ (by lia) ?_
  cases a with
  | none => rw [bv_none_l] at h; walk_at "s"; exact h
  | some a =>
    cases b with
    | none => rw [bv_none_r] at h; cases a <;> (walk_at "s"; exact h)
    | some b =>
      have la := Cv.str_len (ha _ rfl)
      have lb := Cv.str_len (hb _ rfl)
      cases a with
      | i a =>
        have ha := ha _ rfl
        cases b with
        | i b =>
          have hb := hb _ rfl
          walk_at "s"
          refine s5 (c := .i a) (le_of hm rfl) ?_
          walk_at "s"
          refine s5 (c := .i b) (le_of hm rfl) ?_
          walk_at "s"
          refine s11 (le_of hm rfl) ha.B hb.B ?_
          rw [rk_ln]
          have h' : ∀ o', ln o a b = o' → k (oi o') σ := fun o' e => by
            refine kk h ?_
            show od ((ln o a b).map Cv.i) = _
            rw [e]; cases o' <;> rfl
          walk_at "s"
          exact h' _ rfl
        | s b =>
          simp only [bv, ← tx_add] at h
          walk_at "s"
          refine s5 (c := .i a) (le_of hm rfl) ?_
          walk_at "s"
          refine s5 (c := .s b) (le_of hm rfl) ?_
          walk_at "s"
          · rw [if_pos (by assumption)] at h
            refine ckI ha.B ?_
            walk_at "s"
            exact ckI (show Sz _ from Nat.le_trans (Nat.add_le_add la lb) (by decide)) h
          · rw [if_neg (by assumption)] at h; exact h
      | s a =>
        simp only [bv, ← tx_add] at h
        cases b with
        | i b =>
          have hb := hb _ rfl
          walk_at "s"
          refine s5 (c := .s a) (le_of hm rfl) ?_
          walk_at "s"
          · rw [if_pos (by assumption)] at h
            refine ckI hb.B ?_
            walk_at "s"
            exact ckI (show Sz _ from Nat.le_trans (Nat.add_le_add la lb) (by decide)) h
          · rw [if_neg (by assumption)] at h; exact h
        | s b =>
          walk_at "s"
          refine s5 (c := .s a) (le_of hm rfl) ?_
          walk_at "s"
          · rw [if_pos (by assumption)] at h
            exact ckI (show Sz _ from Nat.le_trans (Nat.add_le_add la lb) (by decide)) h
          · rw [if_neg (by assumption)] at h; exact h
theorem onO_i {α : Type} {o : Option α} {a : α} {f : α → Prop} (e : o = some a) (h : f a) : onO o f := e ▸ h
theorem app_sz {a b : Tx} {n m : Nat} (h : a.length ≤ n) (h' : b.length ≤ m) (e : Nat.ble (n + m) 16777216 = true) : Sz (a.length + b.length) := Nat.le_trans (Nat.add_le_add h h') (Nat.le_of_ble_eq_true e)
theorem app_le {a b : Tx} {n m : Nat} (h : a.length ≤ n) (h' : b.length ≤ m) : (a ++ b).length ≤ n + m := by rw [List.length_append]; exact Nat.add_le_add h h'
theorem jOk_nat {j : Nat} (h : j < 1000) : jOk (j : Int) = true := Nat.ble_eq_true_of_le (Nat.le_trans (Nat.le_of_lt h) (by decide))
theorem jOk_suc {j : Nat} (h : j < 1000) : jOk ((j : Int) + 1) = true := Nat.ble_eq_true_of_le (Nat.le_trans h (by decide))
theorem str_c {c : Cv} (hc : c.Ok) {K : D → Prop} (h : K (.str c.str)) : strP c.d K := by
  cases c with
  | i a => exact ckI (Tp.B hc) h
  | s y => exact h
theorem turn14 {C : Calls} {ts ks : List D} {j : Nat} {t p : Tx} {d : D} {g : Option D} {u v : D} {c : Option Cv} {K : KF} (H : ∀ k : KV, k (od c) σ → C 16 [d, u, v] σ k x) (hc : OkO c) (hd : ks[j]? = some d) (hp : ts[j + 1]? = some (.str p)) (hj : j < 1000) (lt : t.length ≤ 20000) (lp : p.length ≤ 10)
    (h : match c with | none => K (.ret .none) [some (.node 3 (.tup ts) ks), some u, some v, some (.str t), some (.int j), some .none] σ | some c => K .next [some (.node 3 (.tup ts) ks), some u, some v, some (.str (t ++ c.str ++ p)), some (.int j), some c.d] σ) :
    ex tab C (.cons (.asg 5 (.call 16 (.cons (.sub (.attr (.loc 0) 2) (.loc 4)) (.cons (.loc 1) (.cons (.loc 2) .nil))))) (.cons (.ite (.isN true (.loc 5)) (.cons (.ret (.lit .none)) .nil) .nil) (.cons (.asg 3 (.bin .add (.bin .add (.loc 3) (.bif .str (.cons (.loc 5) .nil))) (.sub (.attr (.loc 0) 1) (.bin .add (.loc 4) (.lit (.int 1)))))) .nil)))
      [some (.node 3 (.tup ts) ks), some u, some v, some (.str t), some (.int j), g] σ K x := by
  refine ex_set (v := od c) (σ' := σ) (fun k hk => ckI (jOk_nat hj) (onO_i hd (H _ hk))) ?_
  cases c with
  | none => exact h
  | some c =>
    have hc := hc _ rfl
    have lc := Cv.str_len hc
    refine ex_no (fun k hk => by cases c <;> exact hk) (ex_set (σ' := σ) (v := .str (t ++ c.str ++ p)) (fun k hk => ?_) ?_)
    case refine_2 => exact h
    have z : ckz (t.length + c.str.length) (ck (jOk ((j : Int) + 1) = true) (instDecidableEqBool _ _) (onO ts[j + 1]? fun d => addP (.str (t ++ c.str)) d fun r => k r σ)) :=
      ckI (app_sz lt lc rfl) (ckI (jOk_suc hj) (onO_i hp (ckI (app_sz (app_le lt lc) lp rfl) hk)))
    cases c with
    | i a => exact ckI (Tp.B hc) z
    | s y => exact z
theorem s14z {y : Tx} {hk : Nat} (hn : 1 ≤ n) (h : k (.str y) σ) : wf tab fns n 14 [.node 3 (.tup [.str y]) [], .h hk, .str [69]] σ k x := by
  refine wf_go (N := 0) (by lia) (F := c14) rfl rfl fun m hm => ?_
  walk_at "s"
  walk_at "s"
  exact h
theorem s14a {p0 p1 : Tx} {d : D} {hk M : Nat} {c : Option Cv} (H : Kid 16 M d hk σ c) (hc : OkO c) (h0 : p0.length ≤ 10) (h1 : p1.length ≤ 10) (hn : M + 1 ≤ n) (h : k (od (c.map fun c => .s (p0 ++ c.str ++ p1))) σ) :
    wf tab fns n 14 [.node 3 (.tup [.str p0, .str p1]) [d], .h hk, .str [69]] σ k x := by
  refine wf_go (N := M) (by lia) (F := c14) rfl rfl fun m hm => ?_
  refine ⟨trivial, turn14 (j := 0) (fun k hk => H m k _ hm hk) hc rfl rfl (by decide) (Nat.le_trans h0 (by decide)) h1 ?_⟩
  cases c with
  | none => exact h
  | some c => exact ⟨trivial, h⟩
theorem s14b {p0 p1 p2 : Tx} {d e : D} {hk M : Nat} {a b : Option Cv} (H1 : Kid 16 M d hk σ a) (H2 : Kid 16 M e hk σ b) (ha : OkO a) (hb : OkO b) (h0 : p0.length ≤ 10) (h1 : p1.length ≤ 10) (h2 : p2.length ≤ 10) (hn : M + 1 ≤ n)
    (h : k (od (f2 p0 p1 p2 a b)) σ) :
    wf tab fns n 14 [.node 3 (.tup [.str p0, .str p1, .str p2]) [d, e], .h hk, .str [69]] σ k x := by
  refine wf_go (N := M) (by lia) (F := c14) rfl rfl fun m hm => ?_
  refine ⟨trivial, turn14 (j := 0) (fun k hk => H1 m k _ hm hk) ha rfl rfl (by decide) (Nat.le_trans h0 (by decide)) h1 ?_⟩
  cases a with
  | none => exact h
  | some a =>
    refine ⟨trivial, turn14 (j := 1) (fun k hk => H2 m k _ hm hk) hb rfl rfl (by decide) (Nat.le_trans (app_le (app_le h0 (Cv.str_len (ha _ rfl))) h1) (by decide)) h2 ?_⟩
    cases b with
    | none => exact h
    | some b => exact ⟨trivial, h⟩
end
end
section
theorem sz_up {a n : Nat} (h : n + 1 ≤ 2 ^ a) : n + 1 + 1 ≤ 2 ^ (a + 1) := by rw [Nat.pow_succ, Nat.mul_two]; exact Nat.add_le_add h (Nat.le_trans (Nat.succ_le_succ (Nat.zero_le n)) h)
theorem sz_two {a b n m : Nat} (h : n + 1 ≤ 2 ^ a) (h' : m + 1 ≤ 2 ^ b) : n + m + 1 + 1 ≤ 2 ^ (max a b + 1) := by
  rw [Nat.pow_succ, Nat.mul_two, show n + m + 1 + 1 = (n + 1) + (m + 1) by lia]
  exact Nat.add_le_add (Nat.le_trans h (Nat.pow_le_pow_right (by decide) (Nat.le_max_left _ _))) (Nat.le_trans h' (Nat.pow_le_pow_right (by decide) (Nat.le_max_right _ _)))
theorem sz_hi (t : Tr) : t.sz + 1 ≤ 2 ^ t.hi := by
  induction t with
  | una _ t ih => exact sz_up ih
  | par t ih => exact sz_up ih
  | tp1 _ _ t ih => exact sz_up ih
  | tp2 _ _ _ t u h1 h2 => exact sz_two h1 h2
  | bin _ t u h1 h2 => exact sz_two h1 h2
  | _ => exact Nat.le_refl 2
theorem want_nam {lk : Tx → Option Cv} {w : Way} {y : Tx} {c : Option Cv} (h : (Tr.nam w y c).Ok lk) : look lk w y = want (Tr.nam w y c).val := by
  obtain ⟨h1, h2, h3⟩ := h
  cases w <;> cases c <;> first | exact h1 rfl | exact (h1 rfl).trans (want_v _).symm | exact h2 rfl | rfl
theorem want_ok {lk} {t : Tr} (h : t.Ok lk) (hh : t.hi ≤ 5) : OkO (want t.val) := by
  exact want_In (val_2000 h hh) (by decide)
theorem Kid.mono {f M M' : Nat} {d : D} {hk : Nat} {σ : Sto} {c : Option Cv} (H : Kid f M d hk σ c) (h : M ≤ M') : Kid f M' d hk σ c := fun m k' x' hm h' => H m k' x' (by lia) h'
theorem sz_pos (t : Tr) : 1 ≤ t.sz := by cases t <;> first | exact Nat.le_refl 1 | exact Nat.succ_le_succ (Nat.zero_le _)
section
variable {n : Nat} {σ : Sto} {k : KV} {x : KX} {i j l r : Int} {hk : Nat} {lk : Tx → Option Cv}
theorem s16 (K : Kn σ hk lk) : ∀ (N : Nat) (t : Tr), t.sz ≤ N → t.Ok lk → t.hi ≤ 5 → Kid 16 (6 * t.sz + 6) t.node hk σ (want t.val) := by
  intro N
  induction N with
  | zero => exact fun t hs => absurd (Nat.le_trans (sz_pos t) hs) (by decide)
  | succ N ih =>
    intro t hs ho hh m k' x' hm h
    have hs' := core_sz t
    have ho' := core_ok t ho
    have hh' := core_hi t
    have hn' := core_not t
    have h6 : 6 ≤ m := Nat.le_trans (Nat.le_add_left 6 _) hm
    rw [← core_val t] at h
    cases e : t.core with
    | nam w y c =>
      rw [e] at ho' h
      rw [← want_nam ho'] at h
      exact s16n e K h6 h
    | par u => exact absurd e (hn' u)
    | num a =>
      rw [e] at h
      refine wf_go (N := 5) h6 (F := c16) rfl rfl fun m' hm' => ?_
      refine s2 (le_of hm' rfl) ?_; rw [e]
      walk_at "s"; exact h
    | str y =>
      rw [e] at h
      refine wf_go (N := 5) h6 (F := c16) rfl rfl fun m' hm' => ?_
      refine s2 (le_of hm' rfl) ?_; rw [e]
      walk_at "s"; exact h
    | tps y =>
      rw [e] at h
      refine wf_go (N := 5) h6 (F := c16) rfl rfl fun m' hm' => ?_
      refine s2 (le_of hm' rfl) ?_; rw [e]
      walk_at "s"; refine s14z (le_of hm' rfl) ?_; walk_at "s"; exact h
    | una u t' =>
      rw [e] at h ho' hs' hh'
      have hs' : t'.sz + 1 ≤ t.sz := hs'
      have h5 : t'.hi ≤ 5 := Nat.le_of_succ_le (Nat.le_trans hh' hh)
      have H := ih t' (Nat.le_of_succ_le_succ (Nat.le_trans hs' hs)) ho' h5
      refine wf_go (N := 6 * t.sz + 5) hm (F := c16) rfl rfl fun m' hm' => ?_
      have h5' : 5 ≤ m' := Nat.le_trans (Nat.le_add_left _ _) hm'
      refine s2 (le_of h5' rfl) ?_; rw [e]
      walk_at "s"
      refine s13 H (by lia) ?_
      walk_at "s"
      rw [← want_front]; exact h
    | bin o a b =>
      rw [e] at h ho' hs' hh'
      have hs' : a.sz + b.sz + 1 ≤ t.sz := hs'
      have hN : a.sz + b.sz ≤ N := Nat.le_of_succ_le_succ (Nat.le_trans hs' hs)
      have hm5 : max a.hi b.hi ≤ 5 := Nat.le_of_succ_le (Nat.le_trans hh' hh)
      have ha5 := Nat.le_trans (Nat.le_max_left a.hi b.hi) hm5
      have hb5 := Nat.le_trans (Nat.le_max_right a.hi b.hi) hm5
      have H1 := ih a (Nat.le_trans (Nat.le_add_right _ _) hN) ho'.1 ha5
      have H2 := ih b (Nat.le_trans (Nat.le_add_left _ _) hN) ho'.2 hb5
      refine wf_go (N := 6 * t.sz + 5) hm (F := c16) rfl rfl fun m' hm' => ?_
      have h5' : 5 ≤ m' := Nat.le_trans (Nat.le_add_left _ _) hm'
      refine s2 (le_of h5' rfl) ?_; rw [e]
      walk_at "s"
      refine s12 (M := 6 * (a.sz + b.sz) + 6) (H1.mono (Nat.add_le_add_right (Nat.mul_le_mul_left 6 (Nat.le_add_right _ _)) 6)) (H2.mono (Nat.add_le_add_right (Nat.mul_le_mul_left 6 (Nat.le_add_left _ _)) 6)) (want_ok ho'.1 ha5) (want_ok ho'.2 hb5) (by lia) ?_
      walk_at "s"
      rw [← want_meet]; exact h
    | tp1 p0 p1 t' =>
      rw [e] at h ho' hs' hh'
      have hs' : t'.sz + 1 ≤ t.sz := hs'
      have h5 : t'.hi ≤ 5 := Nat.le_of_succ_le (Nat.le_trans hh' hh)
      obtain ⟨q0, q1, ho'⟩ := ho'
      have H := ih t' (Nat.le_of_succ_le_succ (Nat.le_trans hs' hs)) ho' h5
      refine wf_go (N := 6 * t.sz + 5) hm (F := c16) rfl rfl fun m' hm' => ?_
      have h5' : 5 ≤ m' := Nat.le_trans (Nat.le_add_left _ _) hm'
      refine s2 (le_of h5' rfl) ?_; rw [e]
      walk_at "s"
      refine s14a H (want_ok ho' h5) (Nat.le_trans q0.2 (by decide)) (Nat.le_trans q1.2 (by decide)) (by lia) ?_
      walk_at "s"
      rw [← want_fill1]; exact h
    | tp2 p0 p1 p2 a b =>
      rw [e] at h ho' hs' hh'
      have hs' : a.sz + b.sz + 1 ≤ t.sz := hs'
      have hN : a.sz + b.sz ≤ N := Nat.le_of_succ_le_succ (Nat.le_trans hs' hs)
      have hm5 : max a.hi b.hi ≤ 5 := Nat.le_of_succ_le (Nat.le_trans hh' hh)
      have ha5 := Nat.le_trans (Nat.le_max_left a.hi b.hi) hm5
      have hb5 := Nat.le_trans (Nat.le_max_right a.hi b.hi) hm5
      obtain ⟨q0, q1, q2, oa, ob⟩ := ho'
      have H1 := ih a (Nat.le_trans (Nat.le_add_right _ _) hN) oa ha5
      have H2 := ih b (Nat.le_trans (Nat.le_add_left _ _) hN) ob hb5
      refine wf_go (N := 6 * t.sz + 5) hm (F := c16) rfl rfl fun m' hm' => ?_
      have h5' : 5 ≤ m' := Nat.le_trans (Nat.le_add_left _ _) hm'
      refine s2 (le_of h5' rfl) ?_; rw [e]
      walk_at "s"
      refine s14b (M := 6 * (a.sz + b.sz) + 6) (H1.mono (Nat.add_le_add_right (Nat.mul_le_mul_left 6 (Nat.le_add_right _ _)) 6)) (H2.mono (Nat.add_le_add_right (Nat.mul_le_mul_left 6 (Nat.le_add_left _ _)) 6)) (want_ok oa ha5) (want_ok ob hb5) (Nat.le_trans q0.2 (by decide)) (Nat.le_trans q1.2 (by decide)) (Nat.le_trans q2.2 (by decide)) (by lia) ?_
      walk_at "s"
      rw [← want_fill2]; exact h
end
end
section
section
variable {n : Nat} {σ : Sto} {k : KV} {x : KX} {i j l r : Int} {hk : Nat} {lk : Tx → Option Cv}
noncomputable def ename (w : Way) (y : Tx) : D := match w with | .fmem => .none | .zed => .str [90] | _ => .str y
theorem s42 {w : Way} {y : Tx} (hn : 3 ≤ n) (h : k (ename w y) σ) : wf tab fns n 42 [w.node y, .str [69]] σ k x := by
  refine wf_go (N := 2) hn (F := c42) rfl rfl fun m hm => ?_
  cases w
  · walk_at "s"; exact h
  · walk_at "s"; exact h
  · walk_at "s"; refine s3a (le_of hm rfl) ?_; walk_at "s"; exact h
  · walk_at "s"; refine s3b (le_of hm rfl) ?_; walk_at "s"; exact h
  · walk_at "s"; exact h
  · walk_at "s"; exact h
theorem s41n {t : Tr} {w : Way} {y : Tx} {cv : Option Cv} (e : t.core = .nam w y cv) (K : Kn σ hk lk) (hn : 6 ≤ n) (h : k (od (look lk w y)) σ) : wf tab fns n 41 [t.node, .h hk, .str [69]] σ k x := by
  refine wf_go (N := 5) hn (F := c41) rfl rfl fun m hm => ?_
  refine s2 (le_of hm rfl) ?_
  rw [e]
  have e2 : (Tr.nam w y cv).node = w.node y := rfl
  rw [e2]
  cases w
  all_goals
    walk_at "s"
    refine s42 (w := _) (y := y) (le_of hm rfl) ?_
    walk_at "s"
  all_goals first
    | exact h
    | exact K.ok (K.has fun L hE hlk => kk h (by rw [hlk, od_get]; rfl))
theorem s43z {y : Tx} {hk : Nat} (hn : 1 ≤ n) (h : k (.str y) σ) : wf tab fns n 43 [.node 3 (.tup [.str y]) [], .h hk, .str [69]] σ k x := by
  refine wf_go (N := 0) (by lia) (F := c43) rfl rfl fun m hm => ?_
  exact ⟨trivial, h⟩
theorem turn43 {C : Calls} {ts ks : List D} {j : Nat} {t p : Tx} {d : D} {g : Option D} {u v : D} {c : Option Cv} {K : KF} (H : ∀ k : KV, k (od c) σ → C 41 [d, u, v] σ k x) (hc : OkO c) (hd : ks[j]? = some d) (hp : ts[j + 1]? = some (.str p)) (hj : j < 1000) (lt : t.length ≤ 20000) (lp : p.length ≤ 10)
    (h : match c with | none => K (.ret .none) [some (.node 3 (.tup ts) ks), some u, some v, some (.str t), some (.int j), some .none] σ | some c => K .next [some (.node 3 (.tup ts) ks), some u, some v, some (.str (t ++ c.str ++ p)), some (.int j), some c.d] σ) :
    ex tab C (.cons (.asg 5 (.call 41 (.cons (.sub (.attr (.loc 0) 2) (.loc 4)) (.cons (.loc 1) (.cons (.loc 2) .nil))))) (.cons (.ite (.isN true (.loc 5)) (.cons (.ret (.lit .none)) .nil) .nil) (.cons (.aug 3 .add (.bin .add (.bif .str (.cons (.loc 5) .nil)) (.sub (.attr (.loc 0) 1) (.bin .add (.loc 4) (.lit (.int 1)))))) .nil)))
      [some (.node 3 (.tup ts) ks), some u, some v, some (.str t), some (.int j), g] σ K x := by
  refine ex_set (v := od c) (σ' := σ) (fun k hk => ckI (jOk_nat hj) (onO_i hd (H _ hk))) ?_
  cases c with
  | none => exact h
  | some c =>
    have hc := hc _ rfl
    have lc := Cv.str_len hc
    have h : K .next [some (.node 3 (.tup ts) ks), some u, some v, some (.str (t ++ c.str ++ p)), some (.int j), some c.d] σ := h
    rw [List.append_assoc] at h
    refine ex_no (fun k hk => by cases c <;> exact hk) ?_
    have z : ck (jOk ((j : Int) + 1) = true) (instDecidableEqBool _ _) (onO ts[j + 1]? fun d => addP (.str c.str) d fun r => addP (.str t) r fun r => K .next [some (.node 3 (.tup ts) ks), some u, some v, some r, some (.int j), some c.d] σ) :=
      ckI (jOk_suc hj) (onO_i hp (ckI (app_sz lc lp rfl) (ckI (app_sz lt (app_le lc lp) rfl) h)))
    cases c with
    | i a => exact ckI (Tp.B hc) z
    | s y => exact z
theorem s43a {p0 p1 : Tx} {d : D} {hk M : Nat} {c : Option Cv} (H : Kid 41 M d hk σ c) (hc : OkO c) (h0 : p0.length ≤ 10) (h1 : p1.length ≤ 10) (hn : M + 1 ≤ n) (h : k (od (c.map fun c => .s (p0 ++ c.str ++ p1))) σ) :
    wf tab fns n 43 [.node 3 (.tup [.str p0, .str p1]) [d], .h hk, .str [69]] σ k x := by
  refine wf_go (N := M) (by lia) (F := c43) rfl rfl fun m hm => ?_
  refine ⟨trivial, turn43 (j := 0) (fun k hk => H m k _ hm hk) hc rfl rfl (by decide) (Nat.le_trans h0 (by decide)) h1 ?_⟩
  cases c with
  | none => exact h
  | some c => exact ⟨trivial, h⟩
theorem s43b {p0 p1 p2 : Tx} {d e : D} {hk M : Nat} {a b : Option Cv} (H1 : Kid 41 M d hk σ a) (H2 : Kid 41 M e hk σ b) (ha : OkO a) (hb : OkO b) (h0 : p0.length ≤ 10) (h1 : p1.length ≤ 10) (h2 : p2.length ≤ 10) (hn : M + 1 ≤ n)
    (h : k (od (f2 p0 p1 p2 a b)) σ) :
    wf tab fns n 43 [.node 3 (.tup [.str p0, .str p1, .str p2]) [d, e], .h hk, .str [69]] σ k x := by
  refine wf_go (N := M) (by lia) (F := c43) rfl rfl fun m hm => ?_
  refine ⟨trivial, turn43 (j := 0) (fun k hk => H1 m k _ hm hk) ha rfl rfl (by decide) (Nat.le_trans h0 (by decide)) h1 ?_⟩
  cases a with
  | none => exact h
  | some a =>
    refine ⟨trivial, turn43 (j := 1) (fun k hk => H2 m k _ hm hk) hb rfl rfl (by decide) (Nat.le_trans (app_le (app_le h0 (Cv.str_len (ha _ rfl))) h1) (by decide)) h2 ?_⟩
    cases b with
    | none => exact h
    | some b => exact ⟨trivial, h⟩
theorem s41 (K : Kn σ hk lk) : ∀ (N : Nat) (t : Tr), t.sz ≤ N → t.Ok lk → t.hi ≤ 5 → Kid 41 (6 * t.sz + 6) t.node hk σ (want t.val) := by
  intro N
  induction N with
  | zero => exact fun t hs => absurd (Nat.le_trans (sz_pos t) hs) (by decide)
  | succ N ih =>
    intro t hs ho hh m k' x' hm h
    have hs' := core_sz t
    have ho' := core_ok t ho
    have hh' := core_hi t
    have hn' := core_not t
    have h6 : 6 ≤ m := Nat.le_trans (Nat.le_add_left 6 _) hm
    rw [← core_val t] at h
    cases e : t.core with
    | nam w y c =>
      rw [e] at ho' h
      rw [← want_nam ho'] at h
      exact s41n e K h6 h
    | par u => exact absurd e (hn' u)
    | num a =>
      rw [e] at h
      refine wf_go (N := 5) h6 (F := c41) rfl rfl fun m' hm' => ?_
      refine s2 (le_of hm' rfl) ?_; rw [e]
      walk_at "s"; exact h
    | str y =>
      rw [e] at h
      refine wf_go (N := 5) h6 (F := c41) rfl rfl fun m' hm' => ?_
      refine s2 (le_of hm' rfl) ?_; rw [e]
      walk_at "s"; exact h
    | tps y =>
      rw [e] at h
      refine wf_go (N := 5) h6 (F := c41) rfl rfl fun m' hm' => ?_
      refine s2 (le_of hm' rfl) ?_; rw [e]
      walk_at "s"; refine s43z (le_of hm' rfl) ?_; walk_at "s"; exact h
    | una u t' =>
      rw [e] at h ho' hs' hh'
      have hs' : t'.sz + 1 ≤ t.sz := hs'
      have h5 : t'.hi ≤ 5 := Nat.le_of_succ_le (Nat.le_trans hh' hh)
      have H := ih t' (Nat.le_of_succ_le_succ (Nat.le_trans hs' hs)) ho' h5
      refine wf_go (N := 6 * t.sz + 5) hm (F := c41) rfl rfl fun m' hm' => ?_
      have h5' : 5 ≤ m' := Nat.le_trans (Nat.le_add_left _ _) hm'
      refine s2 (le_of h5' rfl) ?_; rw [e]
      walk_at "s"
      refine H m' _ _ (by lia) ?_
      walk_at "s"
      refine s44 (le_of h5' rfl) ?_
      walk_at "s"
      rw [← want_front]; exact h
    | bin o a b =>
      rw [e] at h ho' hs' hh'
      have hs' : a.sz + b.sz + 1 ≤ t.sz := hs'
      have hN : a.sz + b.sz ≤ N := Nat.le_of_succ_le_succ (Nat.le_trans hs' hs)
      have hm5 : max a.hi b.hi ≤ 5 := Nat.le_of_succ_le (Nat.le_trans hh' hh)
      have ha5 := Nat.le_trans (Nat.le_max_left a.hi b.hi) hm5
      have hb5 := Nat.le_trans (Nat.le_max_right a.hi b.hi) hm5
      have H1 := ih a (Nat.le_trans (Nat.le_add_right _ _) hN) ho'.1 ha5
      have H2 := ih b (Nat.le_trans (Nat.le_add_left _ _) hN) ho'.2 hb5
      refine wf_go (N := 6 * t.sz + 5) hm (F := c41) rfl rfl fun m' hm' => ?_
      have h5' : 5 ≤ m' := Nat.le_trans (Nat.le_add_left _ _) hm'
      refine s2 (le_of h5' rfl) ?_; rw [e]
      walk_at "s"
      refine H1 m' _ _ (by lia) ?_
      walk_at "s"
      refine H2 m' _ _ (by lia) ?_
      walk_at "s"
      refine s46 (le_of h5' rfl) (want_ok ho'.1 ha5) (want_ok ho'.2 hb5) ?_
      walk_at "s"
      rw [← want_meet]; exact h
    | tp1 p0 p1 t' =>
      rw [e] at h ho' hs' hh'
      have hs' : t'.sz + 1 ≤ t.sz := hs'
      have h5 : t'.hi ≤ 5 := Nat.le_of_succ_le (Nat.le_trans hh' hh)
      obtain ⟨q0, q1, ho'⟩ := ho'
      have H := ih t' (Nat.le_of_succ_le_succ (Nat.le_trans hs' hs)) ho' h5
      refine wf_go (N := 6 * t.sz + 5) hm (F := c41) rfl rfl fun m' hm' => ?_
      have h5' : 5 ≤ m' := Nat.le_trans (Nat.le_add_left _ _) hm'
      refine s2 (le_of h5' rfl) ?_; rw [e]
      walk_at "s"
      refine s43a H (want_ok ho' h5) (Nat.le_trans q0.2 (by decide)) (Nat.le_trans q1.2 (by decide)) (by lia) ?_
      walk_at "s"
      rw [← want_fill1]; exact h
    | tp2 p0 p1 p2 a b =>
      rw [e] at h ho' hs' hh'
      have hs' : a.sz + b.sz + 1 ≤ t.sz := hs'
      have hN : a.sz + b.sz ≤ N := Nat.le_of_succ_le_succ (Nat.le_trans hs' hs)
      have hm5 : max a.hi b.hi ≤ 5 := Nat.le_of_succ_le (Nat.le_trans hh' hh)
      have ha5 := Nat.le_trans (Nat.le_max_left a.hi b.hi) hm5
      have hb5 := Nat.le_trans (Nat.le_max_right a.hi b.hi) hm5
      obtain ⟨q0, q1, q2, oa, ob⟩ := ho'
      have H1 := ih a (Nat.le_trans (Nat.le_add_right _ _) hN) oa ha5
      have H2 := ih b (Nat.le_trans (Nat.le_add_left _ _) hN) ob hb5
      refine wf_go (N := 6 * t.sz + 5) hm (F := c41) rfl rfl fun m' hm' => ?_
      have h5' : 5 ≤ m' := Nat.le_trans (Nat.le_add_left _ _) hm'
      refine s2 (le_of h5' rfl) ?_; rw [e]
      walk_at "s"
      refine s43b (M := 6 * (a.sz + b.sz) + 6) (H1.mono (Nat.add_le_add_right (Nat.mul_le_mul_left 6 (Nat.le_add_right _ _)) 6)) (H2.mono (Nat.add_le_add_right (Nat.mul_le_mul_left 6 (Nat.le_add_left _ _)) 6)) (want_ok oa ha5) (want_ok ob hb5) (Nat.le_trans q0.2 (by decide)) (Nat.le_trans q1.2 (by decide)) (Nat.le_trans q2.2 (by decide)) (by lia) ?_
      walk_at "s"
      rw [← want_fill2]; exact h
end
end
section
theorem okc_cases {c : Nat} (h : okc c = true) : c = 32 ∨ c = 45 ∨ isDig c = true ∨ c = 78 ∨ c = 97 ∨ c = 113 := by
  unfold okc at h
  simp only [Bool.or_eq_true, beq_iff_eq] at h
  rcases h with ((((h | h) | h) | h) | h) | h
  · exact .inl h
  · exact .inr (.inl h)
  · exact .inr (.inr (.inl h))
  · exact .inr (.inr (.inr (.inl h)))
  · exact .inr (.inr (.inr (.inr (.inl h))))
  · exact .inr (.inr (.inr (.inr (.inr h))))
theorem okc_lt {c : Nat} (h : okc c = true) : c < 114 := by
  rcases okc_cases h with rfl | rfl | h | rfl | rfl | rfl
  · decide
  · decide
  · exact Nat.lt_of_le_of_lt (dig_le h).2 (by decide)
  · decide
  · decide
  · decide
noncomputable def blanksT : Tx := [32, 9, 10, 13, 11, 12, 160, 5760, 8192, 8193, 8194, 8195, 8196, 8197, 8198, 8199, 8200, 8201, 8202, 8232, 8233, 8239, 8287, 12288, 65279]
theorem blank_okc {c : Nat} (h : okc c = true) : blanksT.contains c = (c == 32) :=
  (by decide +kernel : ∀ c < 114, okc c = true → blanksT.contains c = (c == 32)) c (okc_lt h) h
theorem low_okc {c : Nat} (h : okc c = true) : lowC c < 128 ∧ c < 128 ∧ lowC c ≠ 120 ∧ lowC c ≠ 111 ∧ lowC c ≠ 98 ∧ c ≠ 46 ∧ c ≠ 101 ∧ c ≠ 69 ∧ c ≠ 73 ∧ c ≠ 43 :=
  (by decide +kernel : ∀ c < 114, okc c = true → lowC c < 128 ∧ c < 128 ∧ lowC c ≠ 120 ∧ lowC c ≠ 111 ∧ lowC c ≠ 98 ∧ c ≠ 46 ∧ c ≠ 101 ∧ c ≠ 69 ∧ c ≠ 73 ∧ c ≠ 43) c (okc_lt h) h
noncomputable def digitsT : Tx := [48, 49, 50, 51, 52, 53, 54, 55, 56, 57, 97, 98, 99, 100, 101, 102]
theorem find_dig {c : Nat} (h : isDig c = true) : findC digitsT (lowC c) = (c : Int) - 48 :=
  (by decide +kernel : ∀ c < 58, isDig c = true → findC digitsT (lowC c) = (c : Int) - 48) c (Nat.lt_succ_of_le (dig_le h).2) h
theorem find_no {c : Nat} (h : okc c = true) (h' : isDig c = false) : findC digitsT (lowC c) < 0 ∨ findC digitsT (lowC c) ≥ 10 :=
  (by decide +kernel : ∀ c < 114, okc c = true → isDig c = false → findC digitsT (lowC c) < 0 ∨ findC digitsT (lowC c) ≥ 10) c (okc_lt h) h h'
/-! answers of a test that are known -/
section
variable {k : KV} {σ : Sto}
theorem kf {b : Bool} (h : k (.bool false) σ) (e : b = false) : k (.bool b) σ := by cases e; exact h
theorem kd {p : Prop} {d : Decidable p} (h : k (.bool false) σ) (e : ¬ p) : k (.bool (@decide p d)) σ := kf h (decide_eq_false e)
theorem kx {a b : Tx} (h : k (.bool false) σ) (e : ¬ a = b) : k (.bool (a == b)) σ := kf h (beq_eq_false_iff_ne.mpr e)
theorem ki {a b : Int} (h : k (.bool false) σ) (e : ¬ a = b) : k (.bool (a == b)) σ := kf h (beq_eq_false_iff_ne.mpr e)
theorem br_k {b : Bool} (h : k (.bool b) σ) : Bool.rec (motive := fun _ => Prop) (k (.bool false) σ) (k (.bool true) σ) b := by cases b <;> exact h
end
theorem ex_ifb {T : Tab} {C : Calls} {loc : Loc} {σ : Sto} {K : KF} {x : KX} {t : CE} {a r : CS} {P : Prop} {b : Bool} (e : b = true ↔ P) (H : ∀ k : KV, k (.bool b) σ → ev T C loc t .b σ k x)
    (h1 : P → ex T C a loc σ (sqF (fun l s => ex T C r l s K x) K) x) (h2 : ¬ P → ex T C r loc σ K x) : ex T C (.cons (.ite t a .nil) r) loc σ K x := ex_if (P := P) (fun k q1 q2 => H k (kb q1 q2 e)) h1 h2
theorem wl_up {σ : Sto} {x : KX} {K : KF} {A : Loc → Sto → KV → KX → Prop} {B : Loc → Sto → KF → KX → Prop} {L : Nat → Loc} {p : Nat → Bool} {t : Tx} (Ht : ∀ i c, t[i]? = some c → ∀ k : KV, k (.bool (p c)) σ → A (L i) σ k x)
    (He : ∀ k : KV, k (.bool false) σ → A (L t.length) σ k x) (Hb : ∀ i (K : KF), K .next (L (i + 1)) σ → B (L i) σ K x) :
    ∀ (y : Tx) (i : Nat), t.drop i = y → i ≤ t.length → (∀ j : Nat, j ≤ t.length → t.drop j = y.dropWhile p → K .next (L j) σ) → ∃ n, wl A B n (L i) σ K x := by
  intro y
  induction y with
  | nil =>
    intro i e hi h
    cases Nat.le_antisymm hi (List.drop_eq_nil_iff.mp e)
    exact ⟨1, He _ (h _ hi e)⟩
  | cons c y ih =>
    intro i e hi h
    have hc : t[i]? = some c := by have := List.getElem?_drop (xs := t) (i := i) (j := 0); rw [e] at this; exact this.symm
    have e' : t.drop (i + 1) = y := by rw [← List.drop_drop, e]; rfl
    have hi' : i < t.length := (List.getElem?_eq_some_iff.mp hc).1
    cases hb : p c with
    | true =>
      obtain ⟨n, hn⟩ := ih (i + 1) e' hi' fun j hj ej => h j hj (ej.trans (by rw [List.dropWhile_cons, if_pos hb]))
      exact ⟨n + 1, Ht i c hc _ (by rw [hb]; exact Hb i _ hn)⟩
    | false => exact ⟨1, Ht i c hc _ (by rw [hb]; exact h i hi (e.trans (by rw [List.dropWhile_cons, if_neg (by rw [hb]; exact Bool.false_ne_true)])))⟩

section
variable {n : Nat} {σ : Sto} {k : KV} {x : KX} {i j l r : Int} {hk : Nat} {lk : Tx → Option Cv}
theorem lt_ofs {i n : Nat} (h : i < n) : ¬ ¬ (i : Int) < (n : Int) := fun z => z (Int.ofNat_lt.mpr h)
theorem jOk2 {i n : Nat} (h : i < n) (ht : n ≤ 2000) : jOk (i : Int) = true := Nat.ble_eq_true_of_le (Nat.le_trans (Nat.le_of_lt h) (Nat.le_trans ht (by decide)))
theorem loop23b {C : Calls} {K : KF} {t : Tx} {low : Nat} (ht : t.length ≤ 2000) (hok : ∀ c ∈ t, okc c = true) : ∀ (z : Tx), low + z.length ≤ t.length → (t.take (low + z.length)).drop low = z.reverse →
    (∀ j : Nat, j ≤ t.length → (t.take j).drop low = (z.dropWhile (· == 32)).reverse → K .next [some (.str t), some (.int (low : Int)), some (.int (j : Int))] σ) →
    ∃ n, wl (fun loc σ k x => ev tab C loc (.and (.cons (.cmp .lt (.loc 1) (.loc 2)) (.cons (.cmp .mem (.sub (.loc 0) (.bin .sub (.loc 2) (.lit (.int 1)))) (.glob 17)) .nil))) .b σ k x) (ex tab C (.cons (.aug 2 .sub (.lit (.int 1))) .nil)) n [some (.str t), some (.int (low : Int)), some (.int ((low + z.length : Nat) : Int))] σ K x := by
  intro z
  induction z with
  | nil => exact fun hi e h => ⟨1, brd (fun q => absurd q (Int.lt_irrefl _)) fun _ => h _ hi e⟩
  | cons c z ih =>
    intro hi e h
    have hlt : low + z.length < t.length := hi
    have ec : t[low + z.length]? = some c := by
      have := congrArg (fun l => l[z.length]?) e
      rw [List.getElem?_drop, List.getElem?_take_of_lt (show low + z.length < low + (c :: z).length from Nat.lt_succ_self _), List.reverse_cons, List.getElem?_append_right (by rw [List.length_reverse]; exact Nat.le_refl _), List.length_reverse, Nat.sub_self] at this
      exact this
    have e' : (t.take (low + z.length)).drop low = z.reverse := by
      have := congrArg (List.take z.length) e
      rw [List.take_drop, List.take_take, Nat.min_eq_left (show low + z.length ≤ low + (c :: z).length from Nat.le_succ _)] at this
      rw [this, List.reverse_cons, List.take_left' List.length_reverse]
    have em : ((low + (c :: z).length : Nat) : Int) - 1 = ((low + z.length : Nat) : Int) := by show ((low + z.length : Nat) : Int) + 1 - 1 = _; exact Int.add_sub_cancel _ 1
    have Ht : ∀ k : KV, k (.bool (c == 32)) σ → ev tab C [some (.str t), some (.int (low : Int)), some (.int ((low + (c :: z).length : Nat) : Int))] (.and (.cons (.cmp .lt (.loc 1) (.loc 2)) (.cons (.cmp .mem (.sub (.loc 0) (.bin .sub (.loc 2) (.lit (.int 1)))) (.glob 17)) .nil))) .b σ k x := fun k hk => by
      refine brd (fun _ => ?_) fun q => absurd q (lt_ofs (Nat.lt_add_of_pos_right (Nat.succ_pos _)))
      show ck (jOk (((low + (c :: z).length : Nat) : Int) - 1) = true) _ (onO t[(((low + (c :: z).length : Nat) : Int) - 1).toNat]? fun c => memP σ (.str [c]) (.str blanksT) fun t => Br t (k (.bool true) σ) (k (.bool false) σ))
      rw [em]
      exact ckI (jOk2 hlt ht) (onO_i ec (br_k (by rw [blank_okc (hok c (List.mem_of_getElem? ec))]; exact hk)))
    cases hb : (c == 32) with
    | true =>
      obtain ⟨n, hn⟩ := ih (Nat.le_of_succ_le hi) e' fun j hj ej => h j hj (ej.trans (by rw [List.dropWhile_cons, if_pos hb]))
      have Hb : ∀ K' : KF, K' .next [some (.str t), some (.int (low : Int)), some (.int ((low + z.length : Nat) : Int))] σ → ex tab C (.cons (.aug 2 .sub (.lit (.int 1))) .nil) [some (.str t), some (.int (low : Int)), some (.int ((low + (c :: z).length : Nat) : Int))] σ K' x := fun K' hk => by
        show K' .next [some (.str t), some (.int (low : Int)), some (.int (((low + (c :: z).length : Nat) : Int) - 1))] σ
        rw [em]; exact hk
      exact ⟨n + 1, Ht _ (by rw [hb]; exact Hb _ hn)⟩
    | false =>
      exact ⟨1, Ht _ (by rw [hb]; exact h _ hi (e.trans (by rw [List.dropWhile_cons, if_neg (by rw [hb]; exact Bool.false_ne_true)])))⟩
theorem cl_nat {n j : Nat} (h : j ≤ n) : clampI n (j : Int) = j := by unfold clampI; rw [if_neg (Int.not_lt.mpr (Int.natCast_nonneg j))]; exact Nat.min_eq_left h
theorem s23 {t : Tx} (hn : 1 ≤ n) (ht : t.length ≤ 2000) (hok : ∀ c ∈ t, okc c = true) (h : k (.str (stripL t [32])) σ) : wf tab fns n 23 [.str t] σ k x := by
  refine wf_go (N := 0) hn (F := c23) rfl rfl fun m hm => ?_
  have hz : Sz t.length := Nat.le_trans ht (by decide)
  have hc32 : (fun c => List.contains [32] c) = (fun c : Nat => c == 32) := funext fun c => Bool.or_false _
  unfold stripL at h
  rw [hc32] at h
  refine ckI hz (wl_up (p := (· == 32)) (t := t) (L := fun i => [some (.str t), some (.int (i : Int)), some (.int (t.length : Int))]) (fun i c hc k hk => ?_) (fun k hk => brd (fun q => absurd q (Int.lt_irrefl _)) fun _ => hk) (fun i K hK => hK) t 0 rfl (Nat.zero_le _) fun j hj ej => ?_)
  · have hl := (List.getElem?_eq_some_iff.mp hc).1
    refine brd (fun _ => ckI (jOk2 hl ht) (onO_i (f := fun c => memP σ (.str [c]) (.str blanksT) fun t => Br t (k (.bool true) σ) (k (.bool false) σ)) hc (br_k ?_))) fun q => absurd q (lt_ofs hl)
    rw [blank_okc (hok c (List.mem_of_getElem? hc))]; exact hk
  have hlen : j + (t.dropWhile (· == 32)).reverse.length = t.length := by rw [List.length_reverse, ← ej, List.length_drop]; exact Nat.add_sub_cancel' hj
  have g := loop23b (σ := σ) (C := wf tab fns m) (x := x) (K := sqF (fun l s => ex tab (wf tab fns m) (.cons (.ret (.slice (.loc 0) (.loc 1) (.loc 2))) .nil) l s (rtF k) x) (rtF k)) ht hok (low := j) (t.dropWhile (· == 32)).reverse (Nat.le_of_eq hlen) (by rw [hlen, List.take_length, ej, List.reverse_reverse]) fun j2 hj2 e2 => by
    refine ckI hz ?_
    show k (.str ((t.take (clampI t.length (j2 : Int))).drop (clampI t.length (j : Int)))) σ
    rw [cl_nat hj, cl_nat hj2, e2]
    exact h
  rw [hlen] at g
  exact g
noncomputable def capi (v : Int) : Int := if v > 9007199254740991 then 9007199254740992 else v
noncomputable def lpd : Tx → Int → Option Int
  | [], t => some t
  | c :: r, t => if isDig c = true then lpd r (capi (t * 10 + ((c : Int) - 48))) else none
theorem capi_le {v : Int} (h : 0 ≤ v) : 0 ≤ capi v ∧ capi v ≤ 9007199254740992 := by unfold capi; split <;> lia
theorem capi_cap {T : Int} (d : Int) (h : 0 ≤ d) : capi (capi T * 10 + d) = capi (T * 10 + d) := by
  unfold capi
  by_cases q : T > 9007199254740991
  · rw [if_pos q, if_pos (by omega), if_pos (by omega)]
  · rw [if_neg q]
theorem lpd_all {x : Tx} : ∀ {T : Int}, x.all isDig = true → lpd x (capi T) = some (capi (T * 10 ^ x.length + decVal x)) := by
  induction x with
  | nil => intro T _; rw [show T * 10 ^ ([] : Tx).length + decVal [] = T from (Int.add_zero _).trans (Int.mul_one T)]; rfl
  | cons c r ih =>
    intro T h
    obtain ⟨h1, h2⟩ := Bool.and_eq_true_iff.mp (List.all_cons.symm.trans h)
    show (if isDig c = true then lpd r (capi (capi T * 10 + ((c : Int) - 48))) else none) = _
    rw [if_pos h1, capi_cap ((c : Int) - 48) (Int.sub_nonneg_of_le (Int.ofNat_le.mpr (dig_le h1).1)), ih h2, dv_cons, List.length_cons, Int.pow_succ, Int.add_mul, Int.mul_assoc, Int.mul_comm 10 (10 ^ r.length), Int.add_assoc]
theorem lpd_none {x : Tx} : ∀ {T : Int}, ¬ x.all isDig = true → lpd x T = none := by
  induction x with
  | nil => exact fun h => absurd rfl h
  | cons c r ih =>
    intro T h
    show (if isDig c = true then lpd r (capi (T * 10 + ((c : Int) - 48))) else none) = _
    by_cases hc : isDig c = true
    · rw [if_pos hc]; exact ih fun q => h (List.all_cons.trans (Bool.and_eq_true_iff.mpr ⟨hc, q⟩))
    · rw [if_neg hc]
theorem loop24 {C : Calls} {K : KF} {t0 : D} {y : Tx} : ∀ (t : Int) (g1 g2 : Option D), (∀ c ∈ y, okc c = true) → 0 ≤ t → t ≤ 9007199254740992 →
    (match lpd y t with | some u => ∀ g1 g2, K .next [some t0, some (.int 10), some (.int u), g1, g2] σ | none => ∀ l, K (.ret (.int (-1))) l σ) →
    fo (fun _ => True) (setL 3 (ex tab C (.cons (.asg 4 (.bmeth (.glob 18) .find (.cons (.loc 3) .nil))) (.cons (.ite (.or (.cons (.cmp .lt (.loc 4) (.lit (.int 0))) (.cons (.cmp .ge (.loc 4) (.loc 1)) .nil))) (.cons (.ret (.neg (.lit (.int 1)))) .nil) .nil) (.cons (.asg 2 (.bin .add (.bin .mul (.loc 2) (.loc 1)) (.loc 4))) (.cons (.ite (.cmp .gt (.loc 2) (.glob 13)) (.cons (.asg 2 (.bin .add (.glob 13) (.lit (.int 1)))) .nil) .nil) .nil))))))
      ((y.map lowC).map fun c => .str [c]) [some t0, some (.int 10), some (.int t), g1, g2] σ K x := by
  induction y with
  | nil => exact fun t g1 g2 _ _ _ h => ⟨trivial, h g1 g2⟩
  | cons c y ih =>
    intro t g1 g2 hok h0 h1 h
    have h : (match (if isDig c = true then lpd y (capi (t * 10 + ((c : Int) - 48))) else none) with | some u => ∀ g1 g2, K .next [some t0, some (.int 10), some (.int u), g1, g2] σ | none => ∀ l, K (.ret (.int (-1))) l σ) := h
    refine ⟨trivial, ex_set (σ' := σ) (v := .int (findC digitsT (lowC c))) (fun k hk => hk) ?_⟩
    by_cases hd : isDig c = true
    · rw [if_pos hd] at h
      rw [find_dig hd]
      have hl := dig_le hd
      refine ex_no (fun k hk => brd (fun q => by lia) fun _ => brd (fun q => by lia) fun _ => hk) (ex_set (σ' := σ) (v := .int (t * 10 + ((c : Int) - 48))) (fun k hk => ⟨⟨by lia, by lia⟩, ⟨by decide, by decide⟩, hk⟩) ?_)
      have e : ∀ v, capi (t * 10 + ((c : Int) - 48)) = v → (match lpd y v with | some u => ∀ g1 g2, K .next [some t0, some (.int 10), some (.int u), g1, g2] σ | none => ∀ l, K (.ret (.int (-1))) l σ) := fun v e => by rw [e] at h; exact h
      have hok' : ∀ c ∈ y, okc c = true := fun c hc => hok c (.tail _ hc)
      refine brd (fun q => ?_) fun q => ?_
      · exact ih (9007199254740991 + 1) _ _ hok' (by decide) (by decide) (e _ (if_pos q))
      · exact ih (t * 10 + ((c : Int) - 48)) _ _ hok' (by lia) (by lia) (e _ (if_neg q))
    · rw [if_neg hd] at h
      have hf := find_no (hok c (.head _)) (Bool.eq_false_iff.mpr hd)
      exact brd (fun _ => h _) fun q => brd (fun _ => h _) fun q' => absurd hf fun z => z.elim q q'
noncomputable def dvc (t : Tx) : Int := if t = [] ∨ ¬ t.all isDig = true then -1 else capi (decVal t)
theorem s24 {t : Tx} (hn : 1 ≤ n) (ht : t.length ≤ 2000) (hok : ∀ c ∈ t, okc c = true) (h : k (.int (dvc t)) σ) : wf tab fns n 24 [.str t, .int 10] σ k x := by
  refine wf_go (N := 0) hn (F := c24) rfl rfl fun m hm => ?_
  unfold dvc at h
  have hz : Sz t.length := Nat.le_trans ht (by decide)
  refine ex_if (P := t = []) (fun k h1 h2 => kb h1 h2 beq_iff_eq) (fun q => ?_) fun q => ?_
  · rw [if_pos (.inl q)] at h; exact h
  refine ckI hz ⟨List.all_eq_true.mpr fun c hc => decide_eq_true (low_okc (hok c hc)).2.1, ckI (show Sz _ by rw [List.length_map]; exact hz) (loop24 0 _ _ hok (by decide) (by decide) ?_)⟩
  by_cases hall : t.all isDig = true
  · have e := lpd_all (T := 0) hall
    rw [Int.zero_mul, Int.zero_add] at e
    rw [show lpd t 0 = _ from e]
    rw [if_neg (fun z => z.elim q (fun z => z hall))] at h
    exact fun g1 g2 => h
  · rw [lpd_none hall]
    rw [if_pos (.inr hall)] at h
    exact fun l => h
theorem cutL_mem {t : Tx} {a b c : Nat} (h : c ∈ cutL t a b) : c ∈ t := List.mem_of_mem_take (List.mem_of_mem_drop h)
theorem cutL_len (t : Tx) (a b : Nat) : (cutL t a b).length ≤ t.length := ((List.drop_sublist _ _).trans (List.take_sublist _ _)).length_le
theorem s25 {t : Tx} (hn : 1 ≤ n) (ht : t.length ≤ 2000) (hok : ∀ c ∈ t, okc c = true) (h : k (.int 10) σ) : wf tab fns n 25 [.str t] σ k x := by
  refine wf_go (N := 0) hn (F := c25) rfl rfl fun m hm => ?_
  have hz : Sz t.length := Nat.le_trans ht (by decide)
  refine ckI hz ?_
  show ckz (cutL t (clampI t.length 0) (clampI t.length 2)).length ((cutL t (clampI t.length 0) (clampI t.length 2)).all (decide <| · < 128) = true ∧ k (.int (prefB ((cutL t (clampI t.length 0) (clampI t.length 2)).map lowC))) σ)
  have hsub : ∀ c ∈ cutL t (clampI t.length 0) (clampI t.length 2), okc c = true := fun c hc => hok c (cutL_mem hc)
  have hlen := cutL_len t (clampI t.length 0) (clampI t.length 2)
  generalize cutL t (clampI t.length 0) (clampI t.length 2) = y at hsub hlen
  refine ckI (show Sz _ from Nat.le_trans hlen hz) ⟨List.all_eq_true.mpr fun c hc => decide_eq_true (low_okc (hsub c hc)).2.1, ?_⟩
  have no : ∀ {a d : Nat}, [a, d] = y.map lowC → d ≠ 120 ∧ d ≠ 111 ∧ d ≠ 98 := fun {a d} e => by
    obtain ⟨c, hc, rfl⟩ := List.mem_map.mp (show d ∈ y.map lowC from e ▸ .tail _ (.head _))
    have := low_okc (hsub c hc)
    exact ⟨this.2.2.1, this.2.2.2.1, this.2.2.2.2.1⟩
  rw [show prefB (y.map lowC) = 10 by
    unfold prefB
    rw [if_neg (fun q => (no (eq_of_beq q).symm).1 rfl), if_neg (fun q => (no (eq_of_beq q).symm).2.1 rfl), if_neg (fun q => (no (eq_of_beq q).symm).2.2 rfl)]]
  exact h
theorem s20 {t : Tx} (hn : 1 ≤ n) (ht : t.length ≤ 2000) (h : ∀ j : Nat, j ≤ t.length → t.drop j = t.dropWhile isDig → k (.int (j : Int)) σ) : wf tab fns n 20 [.str t, .int 0] σ k x := by
  refine wf_go (N := 0) hn (F := c20) rfl rfl fun m hm => ?_
  have hz : Sz t.length := Nat.le_trans ht (by decide)
  refine wl_up (p := isDig) (t := t) (L := fun i => [some (.str t), some (.int (i : Int))]) (fun i c hc k hk => ?_) (fun k hk => ckI hz (brd (fun q => absurd q (Int.lt_irrefl _)) fun _ => hk)) (fun i K hK => hK) t 0 rfl (Nat.zero_le _) fun j hj ej => h j hj ej
  have hl := (List.getElem?_eq_some_iff.mp hc).1
  refine ckI hz (brd (fun _ => ckI (jOk2 hl ht) (onO_i (f := fun c => memP σ (.str [c]) (.str [48, 49, 50, 51, 52, 53, 54, 55, 56, 57]) fun t => Br t (k (.bool true) σ) (k (.bool false) σ)) hc (br_k ?_))) fun q => absurd q (lt_ofs hl))
  rw [dig_cont]; exact hk
theorem s26 {t : Tx} (hn : 2 ≤ n) (ht : t.length ≤ 2000) (hok : ∀ c ∈ t, okc c = true) (hnd : t = [] ∨ ¬ t.all isDig = true) (h : k (.bool false) σ) : wf tab fns n 26 [.str t] σ k x := by
  refine wf_go (N := 1) hn (F := c26) rfl rfl fun m hm => ?_
  have hz : Sz t.length := Nat.le_trans ht (by decide)
  have no : ∀ {a b c : Nat}, cutL t a b = [c] → c ≠ 46 ∧ c ≠ 101 ∧ c ≠ 69 := fun {a b c} e => by
    have := low_okc (hok c (cutL_mem (show c ∈ cutL t a b from e ▸ .head _)))
    exact ⟨this.2.2.2.2.2.1, this.2.2.2.2.2.2.1, this.2.2.2.2.2.2.2.1⟩
  refine ex_no (fun k hk => kx hk fun q => absurd rfl (low_okc (hok 73 (by rw [q]; exact .head _))).2.2.2.2.2.2.2.2.1) ?_
  refine s20 (le_of hm rfl) ht fun j hj ej => ?_
  refine ex_no (fun k hk => ckI hz (kx hk fun q => absurd rfl (no q).1)) ?_
  refine ex_ifb (P := (j : Int) = 0) beq_iff_eq (fun k hk => hk) (fun _ => h) fun q2 => ?_
  refine ex_no (fun k hk => ckI hz (kf hk ?_)) (ckI hz (ki h fun q => ?_))
  · rw [beq_eq_false_iff_ne.mpr fun q => absurd rfl (no q).2.1, beq_eq_false_iff_ne.mpr fun q => absurd rfl (no q).2.2]; rfl
  · have q : j = t.length := Int.ofNat.inj q
    rw [q, List.drop_length] at ej
    rcases hnd with hnd | hnd
    · rw [hnd] at q; exact q2 (by rw [q]; rfl)
    · exact hnd (List.all_eq_true.mpr (dw_nil.mp ej.symm))
theorem s27r {m : Nat} {t D' : Tx} {s : Bool} {g : Option D} (hm : 2 ≤ m) (hlen : D'.length ≤ 2000) (hok : ∀ c ∈ D', okc c = true)
    (h : onm (if D' = [] ∨ ¬ D'.all isDig = true then some .nan else if decVal D' > 9007199254740991 then none else some (.num (if s = true then 0 - decVal D' else decVal D'))) k x σ) :
    ex tab (wf tab fns m) (CS.drop 6 c27.code) [some (.str t), some (.str D'), some (.int 10), g, some (.bool s)] σ (rtF k) x := by
  refine s24 (le_of hm rfl) hlen hok ?_
  unfold dvc
  refine ex_ifb (P := D' = [] ∨ ¬ D'.all isDig = true) (b := decide ((if D' = [] ∨ ¬ D'.all isDig = true then -1 else capi (decVal D')) < 0)) ?_ (fun k hk => hk) (fun z => ?_) fun z => ?_
  · rw [decide_eq_true_iff]
    by_cases z : D' = [] ∨ ¬ D'.all isDig = true
    · rw [if_pos z]; exact ⟨fun _ => z, fun _ => by decide⟩
    · rw [if_neg z]; exact ⟨fun q => absurd q (Int.not_lt.mpr (capi_le (dv_nonneg (Decidable.not_not.mp fun y => z (.inr y)))).1), fun q => absurd q z⟩
  · rw [if_pos z] at h
    exact s26 hm hlen hok z h
  · have h0 := dv_nonneg (Decidable.not_not.mp fun y => z (.inr y))
    rw [if_neg z] at h
    rw [if_neg z]
    have fin : onum (wi (if s = true then 0 - capi (decVal D') else capi (decVal D'))) k x σ := by
      unfold capi
      by_cases y : decVal D' > 9007199254740991
      · rw [if_pos y] at h ⊢
        rw [wi_none (by split <;> decide)]
        exact h
      · rw [if_neg y] at h ⊢
        rw [wi_some (by split <;> omega)]
        exact h
    cases s <;> exact s19 (le_of hm rfl) fin
theorem s27 {t : Tx} (hn : 3 ≤ n) (ht : t.length ≤ 2000) (hok : ∀ c ∈ t, okc c = true) (h : onm (tnum t) k x σ) : wf tab fns n 27 [.str t] σ k x := by
  refine wf_go (N := 2) hn (F := c27) rfl rfl fun m hm => ?_
  have hsub : ∀ c ∈ stripL t [32], okc c = true := fun c hc =>
    hok c ((List.dropWhile_sublist _).subset (List.mem_reverse.mp ((List.dropWhile_sublist _).subset (List.mem_reverse.mp hc))))
  have hlen := Nat.le_trans (strip_len t 32) ht
  unfold tnum at h
  refine s23 (le_of hm rfl) ht hok ?_
  cases q : stripL t [32] with
  | nil => rw [q] at h; exact h
  | cons c ds =>
    rw [q] at h hlen hsub
    have hz : Sz (c :: ds).length := Nat.le_trans hlen (by decide)
    refine s25 (le_of hm rfl) hlen hsub (brc (fun hc => ckI hz ?_) fun hc => brc (fun hc => ?_) fun _ => ?_)
    · dsimp only at h
      rw [if_pos hc, if_pos hc] at h
      show ex tab (wf tab fns m) (CS.drop 6 c27.code) [some (.str t), some (.str (cutL (c :: ds) (clampI (c :: ds).length 1) (c :: ds).length)), some (.int 10), none, some (.bool ([c] == [45]))] σ (rtF k) x
      rw [cut1, hc]
      exact s27r (s := true) hm (Nat.le_of_succ_le hlen) (fun d hd => hsub d (.tail _ hd)) h
    · exact absurd hc (low_okc (hsub c (.head _))).2.2.2.2.2.2.2.2.2
    · dsimp only at h
      rw [if_neg hc, if_neg hc] at h
      show ex tab (wf tab fns m) (CS.drop 6 c27.code) [some (.str t), some (.str (c :: ds)), some (.int 10), none, some (.bool ([c] == [45]))] σ (rtF k) x
      rw [show ([c] == [45]) = false from beq_eq_false_iff_ne.mpr fun e => hc (List.cons.inj e).1]
      exact s27r hm hlen hsub h
noncomputable def V.m : V → D | .num n _ => Mine.num n | .txt x _ => .tup [.int 5, .str x] | _ => nanD
theorem s28 {v : V} (hn : 4 ≤ n) (hv : v.Ok) (hb : v.bad = false) (h : onm v.nm k x σ) : wf tab fns n 28 [v.m] σ k x := by
  refine wf_go (N := 3) hn (F := c28) rfl rfl fun m hm => ?_
  cases v with
  | num a p => exact h
  | nan => exact h
  | out => cases hb
  | left => cases hb
  | txt t p =>
    refine s27 (le_of hm rfl) hv.2 hv.1 ?_
    have h : onm (tnum t) k x σ := h
    cases e : tnum t with
    | none => rw [e] at h; exact h
    | some a => rw [e] at h; exact h
theorem s38 {v : V} (hn : 5 ≤ n) (hv : v.Ok) (hb : v.bad = false) (h : match v.nm with | some a => k (.int (s32 a.pay)) σ | none => x 15 σ) : wf tab fns n 38 [v.m] σ k x := by
  refine wf_go (N := 4) hn (F := c38) rfl rfl fun m hm => ?_
  refine s28 (le_of hm rfl) hv hb ?_
  cases e : v.nm with
  | none => rw [e] at h; exact h
  | some a =>
    rw [e] at h
    cases a with
    | nan => exact h
    | num b =>
      have e : b.fmod 4294967296 = b % 4294967296 := Int.fmod_eq_emod_of_nonneg _ (by decide)
      have h : k (.int (s32 b)) σ := h
      unfold s32 sg at h
      rw [← e] at h
      refine brd (fun q => ?_) fun q => ?_
      · rw [if_neg (Int.not_lt.mpr q)] at h; exact h
      · rw [if_pos (Int.not_le.mp q)] at h; exact h
end
end
section
set_option genCtorIdx false
set_option genSizeOf false
set_option genInjectivity false

noncomputable def mA (st dp : Int) : List (Nat × D) := [(6, .h 1), (7, .h 14), (8, .h 5), (9, .int st), (10, .int 2000), (11, .int dp), (12, .int 44), (13, .h 6), (14, .none), (15, .none), (16, .tup [.int 0, .int 0]), (17, .int (-1)), (18, .h 7), (19, .h 8), (20, .h 9), (21, .h 10), (22, .h 11), (23, .h 12), (24, .h 13), (25, .none)]
noncomputable def exL : List (Int × D) := [(1, .h 15), (2, .h 16), (3, .h 17), (33, .h 18), (23, .h 19), (21, .h 21)]
noncomputable def opL : List (Tx × D) := [([43], .h 23), ([45], .h 23), ([42], .h 23), ([47], .h 23), ([37], .h 23), ([42, 42], .h 23), ([38], .h 24), ([124], .h 24), ([94], .h 24)]
noncomputable def unL : List (Tx × D) := [([45], .h 25), ([43], .h 25), ([126], .h 25)]
noncomputable def restL : List MO := [.idict exL, .inst 6 [], .inst 7 [], .inst 8 [], .inst 9 [], .inst 10 [(28, .h 20)], .sdict opL, .inst 11 [(28, .h 22)], .sdict unL, .inst 12 [], .inst 13 [], .inst 14 []]
noncomputable def Rest (σ : Sto) : Prop := ∀ i mo, restL[i]? = some mo → σ.at (i + 14) = mo
section
variable {σ : Sto} (R : Rest σ)
include R
theorem Rest.r14 : σ.at 14 = .idict exL := R 0 _ rfl
theorem Rest.r15 : σ.at 15 = .inst 6 [] := R 1 _ rfl
theorem Rest.r16 : σ.at 16 = .inst 7 [] := R 2 _ rfl
theorem Rest.r17 : σ.at 17 = .inst 8 [] := R 3 _ rfl
theorem Rest.r18 : σ.at 18 = .inst 9 [] := R 4 _ rfl
theorem Rest.r19 : σ.at 19 = .inst 10 [(28, .h 20)] := R 5 _ rfl
theorem Rest.r20 : σ.at 20 = .sdict opL := R 6 _ rfl
theorem Rest.r21 : σ.at 21 = .inst 11 [(28, .h 22)] := R 7 _ rfl
theorem Rest.r22 : σ.at 22 = .sdict unL := R 8 _ rfl
theorem Rest.r23 : σ.at 23 = .inst 12 [] := R 9 _ rfl
theorem Rest.r24 : σ.at 24 = .inst 13 [] := R 10 _ rfl
theorem Rest.r25 : σ.at 25 = .inst 14 [] := R 11 _ rfl
end
theorem restL_lt {i : Nat} {mo : MO} (h : restL[i]? = some mo) : i < 12 := (List.getElem?_eq_some_iff.mp h).1
structure MS (σ : Sto) (st dp : Int) : Prop where
  len : 30 ≤ σ.length
  m : σ.at 0 = .inst 1 (mA st dp)
  rest : Rest σ
structure Ext (σ σ' : Sto) : Prop where
  len : σ.length ≤ σ'.length
  same : ∀ i, i < σ.length → i ≠ 0 → σ'.at i = σ.at i
theorem Ext.refl {σ : Sto} : Ext σ σ := ⟨Nat.le_refl _, fun _ _ _ => rfl⟩
theorem Ext.trans {a b c : Sto} (x : Ext a b) (y : Ext b c) : Ext a c := ⟨Nat.le_trans x.len y.len, fun i h n => (y.same i (Nat.lt_of_lt_of_le h x.len) n).trans (x.same i h n)⟩
theorem at_other {σ : Sto} {i j : Nat} {mo : MO} (h : i ≠ j) : Sto.at (σ.set i mo) j = σ.at j := by
  unfold Sto.at
  rw [List.getD_eq_getElem?_getD, List.getD_eq_getElem?_getD, List.getElem?_set_ne h]
theorem at_same {σ : Sto} {i : Nat} {mo : MO} (h : i < σ.length) : Sto.at (σ.set i mo) i = mo := by
  unfold Sto.at
  rw [List.getD_eq_getElem?_getD, List.getElem?_set_self h]; rfl
theorem Ext.set {σ : Sto} {mo : MO} : Ext σ (σ.set 0 mo) := ⟨Nat.le_of_eq List.length_set.symm, fun i h n => at_other n.symm⟩
theorem at_app {σ : Sto} {t : List MO} {i : Nat} (h : i < σ.length) : Sto.at (σ ++ t) i = σ.at i := by
  unfold Sto.at
  rw [List.getD_eq_getElem?_getD, List.getD_eq_getElem?_getD, List.getElem?_append_left h]
theorem app_le' {σ : Sto} {t : List MO} : σ.length ≤ (σ ++ t).length := by rw [List.length_append]; exact Nat.le_add_right _ _
theorem Ext.app {σ : Sto} {t : List MO} : Ext σ (σ ++ t) := ⟨app_le', fun i h n => at_app h⟩
theorem Ext.setNew {σ τ : Sto} (e : Ext σ τ) {i : Nat} {mo : MO} (h : σ.length ≤ i) : Ext σ (τ.set i mo) :=
  ⟨by rw [List.length_set]; exact e.len, fun j hj n => (at_other (Nat.ne_of_gt (Nat.lt_of_lt_of_le hj h))).trans (e.same j hj n)⟩
theorem Rest.ext {σ σ' : Sto} (R : Rest σ) (h : 30 ≤ σ.length) (e : Ext σ σ') : Rest σ' := fun i mo z =>
  (e.same (i + 14) (Nat.lt_of_lt_of_le (Nat.add_lt_add_right (restL_lt z) 14) (Nat.le_trans (by decide) h)) (Nat.succ_ne_zero _)).trans (R i mo z)
theorem MS.set {σ : Sto} {st dp : Int} (M : MS σ st dp) (st' dp' : Int) : MS (σ.set 0 (.inst 1 (mA st' dp'))) st' dp' :=
  ⟨by rw [List.length_set]; exact M.len, at_same (Nat.lt_of_lt_of_le (by decide) M.len), M.rest.ext M.len Ext.set⟩
theorem MS.app {σ : Sto} {st dp : Int} (M : MS σ st dp) (t : List MO) : MS (σ ++ t) st dp :=
  ⟨Nat.le_trans M.len app_le', (at_app (Nat.lt_of_lt_of_le (by decide) M.len)).trans M.m, M.rest.ext M.len Ext.app⟩
theorem MS.setAny {σ : Sto} {st dp : Int} (M : MS σ st dp) {i : Nat} {mo : MO} (h : 26 ≤ i) : MS (σ.set i mo) st dp :=
  ⟨by rw [List.length_set]; exact M.len, (at_other (Nat.ne_of_gt (Nat.lt_of_lt_of_le (by decide) h))).trans M.m, fun j m z => (at_other (Nat.ne_of_gt (Nat.lt_of_lt_of_le (Nat.add_lt_add_right (restL_lt z) 14) h))).trans (M.rest j m z)⟩
theorem MS.setNew {σ : Sto} {st dp : Int} (M : MS σ st dp) {i : Nat} {mo : MO} (h : 30 ≤ i) : MS (σ.set i mo) st dp := M.setAny (Nat.le_trans (by decide) h)
theorem MS.lt {σ : Sto} {st dp : Int} (M : MS σ st dp) {i : Nat} (h : i < 30) : i < σ.length := Nat.lt_of_lt_of_le h M.len
theorem MS.get {σ : Sto} {st dp : Int} (M : MS σ st dp) {i : Nat} {d : D} {f : D → Prop} {dd : Decidable (0 < σ.length)} (e : (mA st dp).lookup i = some d) (h : f d) : @Decidable.rec (0 < σ.length) (fun _ => Prop) (fun _ => False) (fun _ => moI (σ.at 0) fun _ l => onO (l.lookup i) f) dd :=
  ckI (M.lt (by decide)) (by rw [M.m]; exact onO_i e h)
theorem MS.put {σ : Sto} {st dp : Int} (M : MS σ st dp) {i : Nat} {d : D} {k : Sto → Prop} {dd : Decidable (0 < σ.length)} (h : k (σ.set 0 (.inst 1 (putA i d (mA st dp))))) : @Decidable.rec (0 < σ.length) (fun _ => Prop) (fun _ => False) (fun _ => moI (σ.at 0) fun c l => ck (l.length ≤ 100) (Nat.decLe _ _) (k (σ.set 0 (.inst c (putA i d l))))) dd :=
  ckI (M.lt (by decide)) (by rw [M.m]; exact h)
theorem MS.call {σ : Sto} {st dp : Int} (M : MS σ st dp) {i g : Nat} {k : Nat → Prop} {dd : Decidable (0 < σ.length)} (e : ((mA st dp).lookup i).isNone = true) (e2 : tab.meth 1 i = some g) (h : k g) :
    @Decidable.rec (0 < σ.length) (fun _ => Prop) (fun _ => False) (fun _ => moI (σ.at 0) fun c l => ck ((l.lookup i).isNone = true) (instDecidableEqBool _ _) (onO (tab.meth c i) k)) dd := ckI (M.lt (by decide)) (by rw [M.m]; exact ckI e (onO_i e2 h))
theorem get_i {m : MO} {L : List (Int × D)} {κ : Int} {o : Option D} {kd : D → Prop} (r : m = .idict L) (e : L.lookup κ = o) (h : kd (o.getD .none)) : get1P m (.int κ) kd := by rw [r]; show kd ((L.lookup κ).getD .none); rw [e]; exact h
theorem get_s {m : MO} {L : List (Tx × D)} {κ : Tx} {o : Option D} {kd : D → Prop} (r : m = .sdict L) (e : L.lookup κ = o) (h : kd (o.getD .none)) : get1P m (.str κ) kd := by rw [r]; show kd ((L.lookup κ).getD .none); rw [e]; exact h
noncomputable def RX (v : V) (k : KV) (x : KX) (σ : Sto) : Prop := match v with
  | .out => x 15 σ
  | .left => x 16 σ
  | v => k v.m σ

section
variable {n : Nat} {σ : Sto} {k : KV} {x : KX} {i j l r : Int} {st dp : Int}
theorem ex_step {T : Tab} {C : Calls} {loc loc' : Loc} {σ σ' : Sto} {K : KF} {x : KX} {s r : CS} (H : ∀ K' : KF, K' .next loc' σ' → ex T C s loc σ K' x) (h : ex T C r loc' σ' K x) : ex T C (.cons s r) loc σ K x := H _ h
theorem s21 {v : V} (hn : 1 ≤ n) (hv : v.Ok) (hb : v.bad = false) (h : k (.str v.tx) σ) : wf tab fns n 21 [.h 1, v.m, .lst []] σ k x := by
  refine wf_go (N := 0) hn (F := c21) rfl rfl fun m hm => ?_
  cases v with
  | num a p => exact ckI (Tp.B hv) h
  | nan => exact h
  | out => cases hb
  | left => cases hb
  | txt t p => exact h
theorem s22 {v : V} (hn : 2 ≤ n) (hv : v.Ok) (hb : v.bad = false) (h : k (.str v.tx) σ) : wf tab fns n 22 [.h 1, v.m] σ k x :=
  wf_go (N := 1) hn (F := c22) rfl rfl fun m hm => s21 (le_of hm rfl) hv hb h
theorem s32p {v : V} {d : D} (hn : 1 ≤ n) (hb : v.bad = false) (h : k v.m σ) : wf tab fns n 32 [d, v.m] σ k x := by
  refine wf_go (N := 0) hn (F := c32) rfl rfl fun m hm => ?_
  cases v with
  | num a p => exact h
  | nan => exact h
  | out => cases hb
  | left => cases hb
  | txt t p => exact h
theorem s29a {a b : Tx} (hn : 1 ≤ n) (ha : a.length ≤ 2000) (hb : b.length ≤ 2000) (h : k (.tup [.int 5, .str (a ++ b)]) σ) : wf tab fns n 29 [.lst [.str a, .str b], .str []] σ k x := by
  refine wf_go (N := 0) hn (F := c29) rfl rfl fun m hm => ?_
  refine ⟨trivial, ckI (show Sz _ from Nat.le_trans ha (by decide)) ⟨trivial, ckI (show Sz _ from Nat.le_trans hb (by decide)) ⟨trivial, ?_⟩⟩⟩
  refine ex_no (fun k hk => kd hk ?_) ?_
  · exact Int.not_lt.mpr (Int.ofNat_le.mpr (show 0 + a.length + b.length ≤ 1048576 by lia))
  · refine And.intro (show a.length + (b.length + 0) ≤ 16777216 by lia) ?_
    exact kk h (show D.tup [.int 5, .str (a ++ b)] = .tup [.int 5, .str (a ++ (b ++ []))] by rw [List.append_nil])
theorem s30 (hn : 1 ≤ n) (M : MS σ st dp) (h0 : 0 ≤ st) (h1 : st + 1 ≤ 2000) (h2 : dp < 44) (h : ∀ σ', Ext σ σ' → MS σ' (st + 1) dp → k .none σ') : wf tab fns n 30 [.h 0] σ k x := by
  refine wf_go (N := 0) hn (F := c30) rfl rfl fun m hm => ?_
  refine ex_step (σ' := σ.set 0 (.inst 1 (mA (st + 1) dp))) (loc' := [some (.h 0)]) (fun K' hk => M.get (d := .int st) rfl (M.put (i := 9) (d := .int (st + 1)) hk)) ?_
  have E : Ext σ (σ.set 0 (.inst 1 (mA (st + 1) dp))) := Ext.set
  have M := M.set (st + 1) dp
  generalize σ.set 0 (.inst 1 (mA (st + 1) dp)) = s at E M
  refine ex_no (fun k hk => M.get (d := .int (st + 1)) rfl (M.get (d := .int 2000) rfl (kd hk (Int.not_lt.mpr h1)))) ?_
  exact ex_no (fun k hk => M.get (d := .int dp) rfl (M.get (d := .int 44) rfl (kd hk (Int.not_le.mpr h2)))) (h _ E M)
end
end
section
noncomputable def Run (M : Nat) (d : D) (c hh : Int) (v : V) : Prop :=
  ∀ (m : Nat) (σ : Sto) (st dp : Int) (k : KV) (x : KX), M ≤ m → MS σ st dp → 0 ≤ st → st + c ≤ 2000 → 0 ≤ dp → dp + hh ≤ 44 → (∀ σ' st', Ext σ σ' → MS σ' st' dp → st ≤ st' → st' ≤ st + c → RX v k x σ') → wf tab fns m 69 [.h 0, d] σ k x
noncomputable def Rule (M f ρ : Nat) (d : D) (c hh : Int) (v : V) : Prop :=
  ∀ (m : Nat) (σ : Sto) (st dp : Int) (k : KV) (x : KX), M ≤ m → MS σ st dp → 0 ≤ st → st + c ≤ 2000 → 0 ≤ dp → dp + hh ≤ 44 → (∀ σ' st', Ext σ σ' → MS σ' st' dp → st ≤ st' → st' ≤ st + c → RX v k x σ') → wf tab fns m f [.h ρ, .h 0, d] σ k x
theorem RX_imp {v : V} {k k' : KV} {x x' : KX} {σ σ' : Sto} (h : RX v k x σ) (f : ∀ d, k d σ → k' d σ') (g : ∀ c, x c σ → x' c σ') : RX v k' x' σ' := by cases v <;> first | exact f _ h | exact g _ h
theorem getI {σ : Sto} {n : Nat} {L : List (Int × D)} {P : Prop} (h : n < σ.length) (r : σ.at n = .idict L) (q : P) : bmOk σ .get1 (.h n) P := ckI h (by rw [r]; exact q)
theorem getS {σ : Sto} {n : Nat} {L : List (Tx × D)} {P : Prop} (h : n < σ.length) (r : σ.at n = .sdict L) (q : P) : bmOk σ .get1 (.h n) P := ckI h (by rw [r]; exact q)
theorem methI {σ : Sto} {n c i g : Nat} {l : List (Nat × D)} {k : Nat → Prop} {dd : Decidable (n < σ.length)} (h : n < σ.length) (r : σ.at n = .inst c l) (e : l.lookup i = none) (e2 : tab.meth c i = some g) (hk : k g) :
    @Decidable.rec (n < σ.length) (fun _ => Prop) (fun _ => False) (fun _ => moI (σ.at n) fun c l => ck ((l.lookup i).isNone = true) (instDecidableEqBool _ _) (onO (tab.meth c i) k)) dd :=
  ckI h (by rw [r]; exact ckI (by rw [e]; rfl) (onO_i e2 hk))
theorem ex_dec {C : Calls} {loc : Loc} {σ : Sto} {K : KF} {x : KX} {st dp : Int} (M : MS σ st (dp + 1)) (h : K .next (some (.h 0) :: loc) (σ.set 0 (.inst 1 (mA st dp)))) : ex tab C (.cons (.augA (.loc 0) 11 .sub (.lit (.int 1))) .nil) (some (.h 0) :: loc) σ K x :=
  M.get (d := .int (dp + 1)) rfl (M.put (i := 11) (d := .int (dp + 1 - 1)) (by show K .next (some (.h 0) :: loc) (σ.set 0 (.inst 1 (mA st (dp + 1 - 1)))); rw [Int.add_sub_cancel]; exact h))
theorem run_of {κ : Int} {a : D} {ks : List D} {ρ cls f M : Nat} {c hh : Int} {v : V} (h1 : exL.lookup κ = some (.h ρ)) (h2 : ∀ σ, Rest σ → ∃ l, σ.at ρ = .inst cls l ∧ l.lookup 29 = none) (h3 : ρ < 30) (h4 : tab.meth cls 29 = some f) (h5 : κ ≠ 8 ∧ κ ≠ 18) (hc : 0 ≤ c) (hhh : 0 ≤ hh)
    (H : Rule M f ρ (.node κ a ks) c hh v) : Run (M + 3) (.node κ a ks) (c + 1) (hh + 1) v := by
  intro m σ st dp k x hm Ms h0 hst hdp hd h
  refine wf_go (N := M + 2) hm (F := c69) rfl rfl fun m hm => ?_
  refine wf_go (N := M + 1) hm (F := c31) rfl rfl fun m hm => ?_
  refine ex_set (σ' := σ) (v := .h ρ) (fun k hk => Ms.get (d := .h 14) rfl (getI (Ms.lt (by decide)) Ms.rest.r14 (ckI (Ms.lt (by decide)) (get_i Ms.rest.r14 h1 hk)))) ?_
  refine ex_no (fun k hk => hk) ?_
  refine s30 (le_of hm rfl) Ms h0 (by lia) (by lia) fun s1 E1 M1 => ?_
  refine ex_step (loc' := [some (.h 0), some (.node κ a ks), some (.h ρ), none]) (σ' := s1.set 0 (.inst 1 (mA (st + 1) (dp + 1)))) (fun K' hk => M1.get (d := .int dp) rfl (M1.put (i := 11) (d := .int (dp + 1)) hk)) ?_
  have E := E1.trans (Ext.set (mo := .inst 1 (mA (st + 1) (dp + 1))))
  have M1 := M1.set (st + 1) (dp + 1)
  generalize s1.set 0 (.inst 1 (mA (st + 1) (dp + 1))) = s at E M1
  obtain ⟨l, r1, r2⟩ := h2 s M1.rest
  refine methI (M1.lt h3) r1 r2 h4 (H _ _ _ _ _ _ (Nat.le_of_succ_le hm) M1 (by lia) (by lia) (by lia) (by lia) fun σ' st' E' M' b1 b2 => ?_)
  exact RX_imp (h _ st' (E.trans (E'.trans Ext.set)) (M'.set st' dp) (by lia) (by lia)) (fun d hd => ex_dec M' (ex_no (fun k hk => bri (fun q => absurd q h5.1) fun _ => bri (fun q => absurd q h5.2) fun _ => hk) hd)) fun c hc => ex_dec M' hc
theorem run_left {κ : Int} {a : D} {ks : List D} (hκ : κ = 8 ∨ κ = 16 ∨ κ = 17) : Run 2 (.node κ a ks) 0 0 .left := by
  intro m σ st dp k x hm Ms h0 hst hdp hd h
  refine wf_go (N := 1) hm (F := c69) rfl rfl fun m hm => ?_
  refine wf_go (N := 0) hm (F := c31) rfl rfl fun m hm => ?_
  have hx : exL.lookup κ = none := by rcases hκ with rfl | rfl | rfl <;> rfl
  have ht : Tp κ := by rcases hκ with rfl | rfl | rfl <;> (unfold Tp; decide)
  refine ex_set (σ' := σ) (v := .none) (fun k hk => Ms.get (d := .h 14) rfl (getI (Ms.lt (by decide)) Ms.rest.r14 (ckI (Ms.lt (by decide)) (get_i Ms.rest.r14 hx hk)))) ?_
  exact ckI ht.B (ckI (show Sz (11 + _) from Nat.le_trans (Nat.add_le_add_left (intTx_len ht) 11) (by decide)) (h σ st Ext.refl Ms (Int.le_refl _) (Int.le_of_eq (Int.add_zero st).symm)))
theorem rule_num {a : Int} {p : Bool} (ha : Tp a) : Rule 3 70 15 (.node 1 (.int a) []) 0 0 (.num a p) := by
  intro m σ st dp k x hm Ms h0 hst hdp hd h
  refine wf_go (N := 2) hm (F := c70) rfl rfl fun m hm => ?_
  refine s19 (le_of hm rfl) ?_
  rw [wi_some ha]
  exact h σ st Ext.refl Ms (Int.le_refl _) (Int.le_of_eq (Int.add_zero st).symm)
theorem rule_str {y : Tx} {p : Bool} : Rule 3 71 16 (.node 2 (.str y) []) 0 0 (.txt y p) := by
  intro m σ st dp k x hm Ms h0 hst hdp hd h
  refine wf_go (N := 2) hm (F := c71) rfl rfl fun m hm => ?_
  exact wf_go (N := 1) hm (F := c18) rfl rfl fun m hm => h σ st Ext.refl Ms (Int.le_refl _) (Int.le_of_eq (Int.add_zero st).symm)
theorem rule_par {d : D} {M : Nat} {c hh : Int} {v : V} (H : Run M d c hh v) : Rule (M + 1) 73 18 (.node 33 (.str []) [d]) c hh v := by
  intro m σ st dp k x hm Ms h0 hst hdp hd h
  refine wf_go (N := M) hm (F := c73) rfl rfl fun m hm => ?_
  exact Ms.call (g := 69) rfl rfl (H _ _ _ _ _ _ hm Ms h0 hst hdp hd h)
theorem RX_bad {v : V} {k k' : KV} {x : KX} {σ : Sto} (hb : v.bad = true) (h : RX v k x σ) : RX v k' x σ := by cases v <;> first | exact h | cases hb
theorem RX_good {v : V} {k : KV} {x : KX} {σ : Sto} (hb : v.bad = false) : RX v k x σ = k v.m σ := by cases v <;> first | rfl | cases hb
theorem opL_at (o : Op) : opL.lookup o.tx = if o.isLt = true then none else if o.isBit = true then some (.h 24) else some (.h 23) := by cases o <;> rfl
section
variable {n : Nat} {σ : Sto} {k : KV} {x : KX} {i j l r : Int} {st dp : Int}
theorem m_eq {v : V} (hb : v.bad = false) : v.m = .tup [.int v.tag, v.pay] := by cases v <;> first | rfl | cases hb
theorem bit_lt {o : Op} (ho : o.isBit = true) : ¬ o.isLt = true := by cases o <;> first | exact Bool.false_ne_true | exact absurd ho Bool.false_ne_true
theorem bit_add {o : Op} (ho : o.isBit = true) : ¬ o.isAdd = true := by cases o <;> first | exact Bool.false_ne_true | exact absurd ho Bool.false_ne_true
theorem bit_cases {o : Op} (ho : o.isBit = true) : o = .and ∨ o = .or ∨ o = .xor := by cases o <;> first | exact .inl rfl | exact .inr (.inl rfl) | exact .inr (.inr rfl) | exact absurd ho Bool.false_ne_true
theorem nbads {l r : V} (bl : l.bad = false) (br : r.bad = false) : ¬ (l.bad = true ∨ r.bad = true) := fun z => z.elim (fun z => Bool.false_ne_true (bl.symm.trans z)) fun z => Bool.false_ne_true (br.symm.trans z)
theorem s80 {o : Op} {l r : V} (ho : o.isBit = true) (hn : 6 ≤ n) (hl : l.Ok) (hr : r.Ok) (bl : l.bad = false) (br : r.bad = false) (h : RX (meet o l r) k x σ) : wf tab fns n 80 [.h 24, .h 0, .str o.tx, l.m, r.m, .int 0] σ k x := by
  refine wf_go (N := 5) hn (F := c80) rfl rfl fun m hm => ?_
  rw [meet_n (nbads bl br) (bit_lt ho) fun z => bit_add ho z.1] at h
  unfold meetN at h
  refine s32p (le_of hm rfl) bl (s38 (le_of hm rfl) hl bl ?_)
  cases el : l.nm with
  | none => rw [el] at h; exact h
  | some a =>
    refine s32p (le_of hm rfl) br (s38 (le_of hm rfl) hr br ?_)
    cases er : r.nm with
    | none => rw [el, er] at h; exact h
    | some b =>
      rw [el, er] at h
      dsimp only at h
      rw [if_pos ho] at h
      have h : k (num (lb o a.pay b.pay)) σ := h
      rw [← bop_lb (bit_cases ho)] at h
      rcases bit_cases ho with rfl | rfl | rfl <;> exact h
theorem meet_sum {o : Op} {l r : V} (bl : l.bad = false) (br : r.bad = false) (ho : o.isBit = false ∧ o.isLt = false) (hw : ¬ (o.isAdd = true ∧ (l.isT || r.isT) = true)) : RX (meet o l r) k x σ =
    match l.nm, r.nm with | some a, some b => onm (sm o a b) k x σ | _, _ => x 15 σ := by
  rw [meet_n (nbads bl br) (by rw [ho.2]; exact Bool.false_ne_true) hw]
  unfold meetN
  cases l.nm with
  | none => rfl
  | some a =>
    cases r.nm with
    | none => rfl
    | some b =>
      dsimp only
      rw [if_neg (by rw [ho.1]; exact Bool.false_ne_true)]
      cases e : sm o a b with
      | none => rfl
      | some c => cases c <;> rfl
theorem s79 {o : Op} {l r : V} (ho : o.isBit = false ∧ o.isLt = false) (M : MS σ st dp) (hn : 6 ≤ n) (hl : l.Ok) (hr : r.Ok) (bl : l.bad = false) (br : r.bad = false) (h : RX (meet o l r) k x σ) : wf tab fns n 79 [.h 23, .h 0, .str o.tx, l.m, r.m, .int 0] σ k x := by
  refine wf_go (N := 5) hn (F := c79) rfl rfl fun m hm => ?_
  have ml := m_eq bl
  have mr := m_eq br
  refine ex_set (σ' := σ) (v := .tup [.int l.tag, l.pay]) (fun k hk => s32p (le_of hm rfl) bl (ml ▸ hk)) ?_
  refine ex_set (σ' := σ) (v := .tup [.int r.tag, r.pay]) (fun k hk => s32p (le_of hm rfl) br (mr ▸ hk)) ?_
  refine ex_if (P := o.isAdd = true ∧ (l.isT || r.isT) = true) (fun k h1 h2 => ?_) (fun p => ?_) fun hw => ?_
  · rw [isT_iff, isT_iff, Bool.or_eq_true] at h1 h2
    refine brs (fun q => bri (fun q2 => h1 ⟨tx_add.mp q, .inl (beq_iff_eq.mpr q2)⟩) fun q2 => bri (fun q3 => h1 ⟨tx_add.mp q, .inr (beq_iff_eq.mpr q3)⟩) fun q3 => h2 fun z => z.2.elim (fun z => q2 (eq_of_beq z)) fun z => q3 (eq_of_beq z)) fun q => h2 fun z => q (tx_add.mpr z.1)
  · rw [meet_tx (nbads bl br) (by rw [ho.2]; exact Bool.false_ne_true) p] at h
    have sl : ∀ k : KV, k (.str l.tx) σ → wf tab fns m 22 [.h 1, .tup [.int l.tag, l.pay]] σ k x := fun k hk => ml ▸ s22 (le_of hm rfl) hl bl hk
    have sr : ∀ k : KV, k (.str r.tx) σ → wf tab fns m 22 [.h 1, .tup [.int r.tag, r.pay]] σ k x := fun k hk => mr ▸ s22 (le_of hm rfl) hr br hk
    exact M.get (d := .h 1) rfl (sl _ (M.get (d := .h 1) rfl (sr _ (s29a (le_of hm rfl) (tx_len hl) (tx_len hr) h))))
  · rw [meet_sum bl br ho hw] at h
    have sl : ∀ k : KV, onm l.nm k x σ → wf tab fns m 28 [.tup [.int l.tag, l.pay]] σ k x := fun k hk => ml ▸ s28 (le_of hm rfl) hl bl hk
    have sr : ∀ k : KV, onm r.nm k x σ → wf tab fns m 28 [.tup [.int r.tag, r.pay]] σ k x := fun k hk => mr ▸ s28 (le_of hm rfl) hr br hk
    refine sl _ ?_
    cases el : l.nm with
    | none => rw [el] at h; exact h
    | some a =>
      refine sr _ ?_
      cases er : r.nm with
      | none => rw [el, er] at h; exact h
      | some b =>
        rw [el, er] at h
        exact s37 ho (le_of hm rfl) (nm_Ok hl el) (nm_Ok hr er) h
end
end
section
section
variable {n : Nat} {σ : Sto} {k : KV} {x : KX} {i j l r : Int} {st dp : Int}
theorem attI {σ : Sto} {n c i : Nat} {l : List (Nat × D)} {d : D} {f : D → Prop} {dd : Decidable (n < σ.length)} (h : n < σ.length) (r : σ.at n = .inst c l) (e : l.lookup i = some d) (hk : f d) : @Decidable.rec (n < σ.length) (fun _ => Prop) (fun _ => False) (fun _ => moI (σ.at n) fun _ l => onO (l.lookup i) f) dd :=
  ckI h (by rw [r]; exact onO_i e hk)
theorem tx_short (o : Op) : o.tx.length ≤ 2 := by cases o <;> decide
theorem s76 {o : Op} {l r : V} (M : MS σ st dp) (hn : 7 ≤ n) (hl : l.Ok) (hr : r.Ok) (bl : l.bad = false) (br : r.bad = false) (h : RX (meet o l r) k x σ) : wf tab fns n 76 [.h 19, .h 0, .str o.tx, l.m, r.m, .int 0] σ k x := by
  refine wf_go (N := 6) hn (F := c76) rfl rfl fun m hm => ?_
  refine ex_set (σ' := σ) (v := (if o.isLt = true then none else if o.isBit = true then some (.h 24) else some (.h 23)).getD .none) (fun k hk => attI (d := .h 20) (M.lt (by decide)) M.rest.r19 rfl (getS (M.lt (by decide)) M.rest.r20 (ckI (M.lt (by decide)) (get_s M.rest.r20 (opL_at o) hk)))) ?_
  by_cases h1 : o.isLt = true
  · rw [if_pos h1]
    rw [meet_lt (nbads bl br) h1] at h
    exact ckI (show Sz (9 + _) from Nat.le_trans (Nat.add_le_add_left (tx_short o) 9) (by decide)) h
  · rw [if_neg h1]
    by_cases h2 : o.isBit = true
    · rw [if_pos h2]
      exact ex_no (fun k hk => hk) (methI (M.lt (by decide)) M.rest.r24 rfl (g := 80) rfl (s80 h2 (le_of hm rfl) hl hr bl br h))
    · rw [if_neg h2]
      exact ex_no (fun k hk => hk) (methI (M.lt (by decide)) M.rest.r23 rfl (g := 79) rfl (s79 ⟨Bool.eq_false_iff.mpr h2, Bool.eq_false_iff.mpr h1⟩ M (le_of hm rfl) hl hr bl br h))
theorem rule_bin {o : Op} {d e : D} {M : Nat} {c1 c2 h1 h2 : Int} {v w : V} (H1 : Run M d c1 h1 v) (H2 : Run M e c2 h2 w) (okv : v.Ok) (okw : w.Ok) (p1 : 0 ≤ c1) (p2 : 0 ≤ c2) : Rule (M + 8) 75 19 (.node 23 (.str o.tx) [d, e]) (c1 + c2) (max h1 h2) (meet o v w) := by
  intro m σ st dp k x hm Ms h0 hst hdp hd h
  refine wf_go (N := M + 7) hm (F := c75) rfl rfl fun m hm => ?_
  have hM : M ≤ m := Nat.le_trans (Nat.le_add_right _ _) hm
  have hx := Int.le_max_left h1 h2
  have hy := Int.le_max_right h1 h2
  refine Ms.call (g := 69) rfl rfl (H1 _ _ _ _ _ _ hM Ms h0 (by lia) hdp (by lia) fun σ1 st1 E1 M1 a1 b1 => ?_)
  by_cases bv : v.bad = true
  · rw [meet_l bv] at h
    exact RX_bad bv (h σ1 st1 E1 M1 a1 (by lia))
  · rw [RX_good (Bool.eq_false_iff.mpr bv)]
    refine M1.call (g := 69) rfl rfl (H2 _ _ _ _ _ _ hM M1 (Int.le_trans h0 a1) (by lia) hdp (by lia) fun σ2 st2 E2 M2 a2 b2 => ?_)
    have h := h σ2 st2 (E1.trans E2) M2 (Int.le_trans a1 a2) (by lia)
    by_cases bw : w.bad = true
    · rw [meet_r bv bw] at h
      exact RX_bad bw h
    · rw [RX_good (Bool.eq_false_iff.mpr bw)]
      exact methI (M2.lt (by decide)) M2.rest.r19 rfl (g := 76) rfl (s76 M2 (Nat.le_trans (Nat.le_add_left _ _) hm) okv okw (Bool.eq_false_iff.mpr bv) (Bool.eq_false_iff.mpr bw) h)
theorem unL_at (u : Un) : unL.lookup u.tx = if u.isBang = true then none else some (.h 25) := by cases u <;> rfl
theorem un_short (u : Un) : u.tx.length ≤ 2 := by cases u <;> decide
theorem s81 {u : Un} {d : D} {M : Nat} {c hh : Int} {v : V} (hu : u.isBang = false) (H : Run M d c hh v) (okv : v.Ok) : Rule (M + 6) 81 25 (.node 21 (.str u.tx) [d]) c hh (front u v) := by
  intro m σ st dp k x hm Ms h0 hst hdp hd h
  refine wf_go (N := M + 5) hm (F := c81) rfl rfl fun m hm => ?_
  have h5 : 5 ≤ m := Nat.le_trans (Nat.le_add_left _ _) hm
  refine Ms.call (g := 69) rfl rfl (H _ _ _ _ _ _ (Nat.le_trans (Nat.le_add_right _ _) hm) Ms h0 hst hdp hd fun σ1 st1 E1 M1 a1 b1 => ?_)
  have h := h σ1 st1 E1 M1 a1 b1
  unfold front at h
  rw [if_neg (by rw [hu]; exact Bool.false_ne_true)] at h
  by_cases bv : v.bad = true
  · rw [if_pos bv] at h
    exact RX_bad bv h
  · rw [if_neg bv] at h
    have bv : v.bad = false := Bool.eq_false_iff.mpr bv
    rw [RX_good bv]
    refine s32p (le_of h5 rfl) bv ?_
    have G := fun k' => s28 (n := m) (σ := σ1) (k := k') (x := x) (le_of h5 rfl) okv bv
    cases u with
    | bang => cases hu
    | inv =>
      refine s38 (le_of h5 rfl) okv bv ?_
      cases e : v.nm with
      | none => rw [e] at h; exact h
      | some a =>
        rw [e] at h
        have h : k (.tup [.int 3, .int (inv a.pay)]) σ1 := h
        rw [← inv_s32] at h
        exact h
    | neg =>
      refine G _ ?_
      cases e : v.nm with
      | none => rw [e] at h; exact h
      | some a => rw [e] at h; cases a <;> exact h
    | pos =>
      refine G _ ?_
      cases e : v.nm with
      | none => rw [e] at h; exact h
      | some a => rw [e] at h; cases a <;> exact h
theorem rule_una {u : Un} {d : D} {M : Nat} {c hh : Int} {v : V} (H : Run M d c hh v) (okv : v.Ok) (hc : 0 ≤ c) : Rule (M + 7) 78 21 (.node 21 (.str u.tx) [d]) c hh (front u v) := by
  intro m σ st dp k x hm Ms h0 hst hdp hd h
  refine wf_go (N := M + 6) hm (F := c78) rfl rfl fun m hm => ?_
  refine ex_set (σ' := σ) (v := (if u.isBang = true then none else some (.h 25)).getD .none) (fun k hk => attI (d := .h 22) (Ms.lt (by decide)) Ms.rest.r21 rfl (getS (Ms.lt (by decide)) Ms.rest.r22 (ckI (Ms.lt (by decide)) (get_s Ms.rest.r22 (unL_at u) hk)))) ?_
  by_cases h1 : u.isBang = true
  · rw [if_pos h1]
    have h := h σ st Ext.refl Ms (Int.le_refl _) (Int.le_add_of_nonneg_right hc)
    rw [show front u v = .left by unfold front; rw [if_pos h1]] at h
    exact ckI (show Sz (9 + _) from Nat.le_trans (Nat.add_le_add_left (un_short u) 9) (by decide)) h
  · rw [if_neg h1]
    exact ex_no (fun k hk => hk) (methI (Ms.lt (by decide)) Ms.rest.r25 rfl (g := 81) rfl (s81 (Bool.eq_false_iff.mpr h1) H okv _ _ _ _ _ _ hm Ms h0 hst hdp hd h))
end
end
section
noncomputable def lens : List Tx → Nat | [] => 0 | y :: r => y.length + lens r
theorem lens_sum (l : List Tx) : (l.map List.length).sum = lens l := by induction l with | nil => rfl | cons a r ih => exact congrArg (a.length + ·) ih
theorem strs_map (l : List Tx) : strsOf (l.map .str) = some l := by induction l with | nil => rfl | cons a r ih => exact congrArg (Option.map (a :: ·)) ih
section
variable {n : Nat} {σ : Sto} {k : KV} {x : KX} {i j l r : Int} {st dp : Int}
theorem loop29 {C : Calls} {K : KF} {hp : Nat} {L : List D} (hc : hp < σ.length ∧ σ.at hp = .list L) {ys : List Tx} : ∀ (t : Int) (g : Option D), lens ys ≤ 1000000 →
    (∀ g, K .next [some (.h hp), some (.str []), some (.int (t + (lens ys : Nat))), g] σ) →
    fo (fun σ₂ => hp < σ₂.length ∧ σ₂.at hp = .list L) (setL 3 (ex tab C (.cons (.aug 2 .add (.bin .add (.bif .len (.cons (.loc 3) .nil)) (.bif .len (.cons (.loc 1) .nil)))) .nil))) (ys.map .str) [some (.h hp), some (.str []), some (.int t), g] σ K x := by
  induction ys with
  | nil => exact fun t g _ h => ⟨hc, by have := h g; rw [show t + ((lens [] : Nat) : Int) = t from Int.add_zero t] at this; exact this⟩
  | cons y ys ih =>
    intro t g hl h
    have hl : y.length + lens ys ≤ 1000000 := hl
    refine ⟨hc, ckI (show Sz _ from Nat.le_trans (Nat.le_trans (Nat.le_add_right _ _) hl) (by decide)) (ih _ _ (Nat.le_trans (Nat.le_add_left _ _) hl) fun g => ?_)⟩
    have := h g
    rw [show t + ((lens (y :: ys) : Nat) : Int) = t + ((y.length : Int) + 0) + (lens ys : Nat) by rw [Int.add_zero, Int.add_assoc]; rfl] at this
    exact this
theorem s29b {hp : Nat} {ys : List Tx} (hn : 1 ≤ n) (hh : hp < σ.length) (ha : σ.at hp = .list (ys.map .str)) (hl : lens ys ≤ 100000) (hlen : ys.length ≤ 1000) (h : k (.tup [.int 5, .str ys.flatten]) σ) : wf tab fns n 29 [.h hp, .str []] σ k x := by
  refine wf_go (N := 0) hn (F := c29) rfl rfl fun m hm => ?_
  refine ckI hh ?_
  rw [ha]
  refine ckI (show Sz _ by rw [List.length_map]; exact Nat.le_trans hlen (by decide)) (loop29 ⟨hh, ha⟩ _ _ (Nat.le_trans hl (by decide)) fun g => ?_)
  refine ex_no (fun k hk => kd hk (Int.not_lt.mpr ?_)) (ckI hh (by rw [ha]; exact onO_i (strs_map ys) ⟨by rw [lens_sum]; exact Nat.le_trans hl (by decide), h⟩))
  exact Int.le_trans (Int.le_of_eq (Int.zero_add _)) (Int.ofNat_le.mpr (Nat.le_trans hl (by decide)))
theorem at_new {σ : Sto} {mo : MO} : Sto.at (σ ++ [mo]) σ.length = mo := by unfold Sto.at; rw [List.getD_eq_getElem?_getD, List.getElem?_concat_length]; rfl
theorem lt_new {σ : Sto} {mo : MO} : σ.length < (σ ++ [mo]).length := by rw [List.length_append]; exact Nat.lt_succ_self _
theorem rule_tps {y : Tx} {p : Bool} (hy : y.length ≤ 2000) : Rule 3 72 17 (.node 3 (.tup [.str y]) []) 0 0 (.txt y p) := by
  intro m σ st dp k x hm Ms h0 hst hdp hd h
  refine wf_go (N := 2) hm (F := c72) rfl rfl fun m hm => ?_
  refine ⟨trivial, s29b (ys := [y]) (le_of hm rfl) lt_new at_new (show y.length + 0 ≤ _ from Nat.le_trans hy (by decide)) (show 1 ≤ 1000 by decide) ?_⟩
  have := h _ st Ext.app (Ms.app [.list [.str y]]) (Int.le_refl _) (Int.le_of_eq (Int.add_zero st).symm)
  exact kk (k := k) this (show D.tup [.int 5, .str y] = .tup [.int 5, .str (y ++ [])] by rw [List.append_nil])
theorem okApp {n : Nat} {l : List D} {P : Prop} (h : n < σ.length) (r : σ.at n = .list l) (q : P) : bmOk σ .append (.h n) P := ckI h (by rw [r]; exact q)
theorem lstI {n : Nat} {l : List D} {f : List D → Prop} {dd : Decidable (n < σ.length)} (h : n < σ.length) (r : σ.at n = .list l) (q : f l) : @Decidable.rec (n < σ.length) (fun _ => Prop) (fun _ => False) (fun _ => moL (σ.at n) f) dd := ckI h (by rw [r]; exact q)
theorem sz1 {l : List Tx} (h : l.length ≤ 1000) : Sz ((l.map D.str).length + 1) := by rw [List.length_map]; exact Nat.le_trans (Nat.succ_le_succ h) (by decide)
theorem map_snoc {ys : List Tx} {y : Tx} : ys.map D.str ++ [.str y] = (ys ++ [y]).map .str := by rw [List.map_append]; rfl
theorem turn72 {m : Nat} {σ0 : Sto} {ts ks : List D} {j : Nat} {ys : List Tx} {p : Tx} {d u : D} {M : Nat} {c hh : Int} {v : V} {K : KF} (H : Run M d c hh v) (okv : v.Ok) (hM : M + 3 ≤ m) (Ms : MS σ st dp) (E : Ext σ0 σ) (h30 : 30 ≤ σ0.length) (hlt : σ0.length < σ.length) (hat : σ.at σ0.length = .list (ys.map .str))
    (h0 : 0 ≤ st) (hst : st + c ≤ 2000) (hdp : 0 ≤ dp) (hd : dp + hh ≤ 44) (ek : ks[j]? = some d) (et : ts[j + 1]? = some (.str p)) (hj : j < 1000) (hy : ys.length ≤ 900)
    (hbad : v.bad = true → ∀ σ' st', Ext σ0 σ' → MS σ' st' dp → st ≤ st' → st' ≤ st + c → RX v k x σ')
    (h : v.bad = false → ∀ σ' st', Ext σ0 σ' → MS σ' st' dp → st ≤ st' → st' ≤ st + c → σ0.length < σ'.length → σ'.at σ0.length = .list ((ys ++ [v.tx] ++ [p]).map .str) → K .next [some u, some (.h 0), some (.node 3 (.tup ts) ks), some (.h σ0.length), some (.int j)] σ') :
    ex tab (wf tab fns m) (.cons (.expr (.bmeth (.loc 3) .append (.cons (.call 22 (.cons (.attr (.loc 1) 6) (.cons (.meth (.loc 1) 29 (.cons (.sub (.attr (.loc 2) 2) (.loc 4)) .nil)) .nil))) .nil))) (.cons (.expr (.bmeth (.loc 3) .append (.cons (.sub (.attr (.loc 2) 1) (.bin .add (.loc 4) (.lit (.int 1)))) .nil))) .nil))
      [some u, some (.h 0), some (.node 3 (.tup ts) ks), some (.h σ0.length), some (.int j)] σ K x := by
  have hnz : σ0.length ≠ 0 := Nat.ne_of_gt (Nat.lt_of_lt_of_le (by decide) h30)
  refine okApp hlt hat (Ms.get (d := .h 1) rfl (Ms.call (g := 69) rfl rfl (ckI (jOk_nat hj) (onO_i ek (H _ _ _ _ _ _ (Nat.le_trans (Nat.le_add_right _ _) hM) Ms h0 hst hdp hd fun σ1 st1 E1 M1 a1 b1 => ?_)))))
  have hat1 := (E1.same _ hlt hnz).trans hat
  have hlt1 := Nat.lt_of_lt_of_le hlt E1.len
  have E2 : Ext σ0 (σ1.set σ0.length (.list (ys.map .str ++ [.str v.tx]))) := (E.trans E1).setNew (Nat.le_refl _)
  by_cases bv : v.bad = true
  · exact RX_bad bv (hbad bv σ1 st1 (E.trans E1) M1 a1 b1)
  · have bv := Bool.eq_false_iff.mpr bv
    rw [RX_good bv]
    refine s22 (Nat.le_trans (by decide) (Nat.le_trans (Nat.le_add_left _ _) hM)) okv bv (lstI hlt1 hat1 (ckI (sz1 (Nat.le_trans hy (by decide))) ?_))
    have M2 : MS (σ1.set σ0.length (.list (ys.map .str ++ [.str v.tx]))) st1 dp := M1.setNew h30
    have hlt2 : σ0.length < (σ1.set σ0.length (.list (ys.map .str ++ [.str v.tx]))).length := by rw [List.length_set]; exact hlt1
    have hat2 : Sto.at (σ1.set σ0.length (.list (ys.map .str ++ [.str v.tx]))) σ0.length = .list (ys.map .str ++ [.str v.tx]) := at_same hlt1
    generalize σ1.set σ0.length (.list (ys.map .str ++ [.str v.tx])) = σ2 at E2 M2 hlt2 hat2
    rw [map_snoc] at hat2
    refine okApp hlt2 hat2 (ckI (jOk_suc hj) (onO_i et (lstI hlt2 hat2 (ckI (sz1 (by rw [List.length_append]; exact Nat.le_trans (Nat.succ_le_succ hy) (by decide))) ?_))))
    rw [map_snoc]
    exact h bv _ st1 (E2.setNew (Nat.le_refl _)) (M2.setNew h30) a1 b1 (by rw [List.length_set]; exact hlt2) (at_same hlt2)
theorem rule_tp1 {p0 p1 : Tx} {d : D} {M : Nat} {c hh : Int} {v : V} (H : Run M d c hh v) (okv : v.Ok) (h0' : p0.length ≤ 10) (h1' : p1.length ≤ 10) (hc : 0 ≤ c) : Rule (M + 4) 72 17 (.node 3 (.tup [.str p0, .str p1]) [d]) c hh (fill1 p0 p1 v) := by
  intro m σ st dp k x hm Ms h0 hst hdp hd h
  refine wf_go (N := M + 3) hm (F := c72) rfl rfl fun m hm => ?_
  have lv := tx_len okv
  unfold fill1 at h
  refine ⟨trivial, turn72 (k := k) (j := 0) (ys := [p0]) H okv hm (Ms.app _) Ext.app Ms.len lt_new at_new h0 hst hdp hd rfl rfl (by decide) (show 1 ≤ 900 by decide) (fun bv σ' st' E M' a b => ?_) fun bv σ' st' E M' a b lt at' => ⟨trivial, ?_⟩⟩
  · rw [if_pos bv] at h; exact h σ' st' E M' a b
  · rw [if_neg (by rw [bv]; exact Bool.false_ne_true)] at h
    refine s29b (ys := [p0, v.tx, p1]) (Nat.le_trans (by decide) (Nat.le_trans (Nat.le_add_left _ _) hm)) lt at' (show p0.length + (v.tx.length + (p1.length + 0)) ≤ 100000 by lia) (show 3 ≤ 1000 by decide) ?_
    exact kk (k := k) (h σ' st' E M' a b) (show D.tup [.int 5, .str (p0 ++ v.tx ++ p1)] = .tup [.int 5, .str (p0 ++ (v.tx ++ (p1 ++ [])))] by rw [List.append_nil, List.append_assoc])
theorem rule_tp2 {p0 p1 p2 : Tx} {d e : D} {M : Nat} {c1 c2 hh1 hh2 : Int} {v w : V} (H1 : Run M d c1 hh1 v) (H2 : Run M e c2 hh2 w) (okv : v.Ok) (okw : w.Ok) (h0' : p0.length ≤ 10) (h1' : p1.length ≤ 10) (h2' : p2.length ≤ 10) (hc1 : 0 ≤ c1) (hc2 : 0 ≤ c2) : Rule (M + 4) 72 17 (.node 3 (.tup [.str p0, .str p1, .str p2]) [d, e]) (c1 + c2) (max hh1 hh2) (fill2 p0 p1 p2 v w) := by
  intro m σ st dp k x hm Ms h0 hst hdp hd h
  refine wf_go (N := M + 3) hm (F := c72) rfl rfl fun m hm => ?_
  have lv := tx_len okv
  have lw := tx_len okw
  have hx := Int.le_max_left hh1 hh2
  have hy := Int.le_max_right hh1 hh2
  unfold fill2 at h
  refine ⟨trivial, turn72 (k := k) (j := 0) (ys := [p0]) H1 okv hm (Ms.app _) Ext.app Ms.len lt_new at_new h0 (by lia) hdp (by lia) rfl rfl (by decide) (show 1 ≤ 900 by decide) (fun bv σ1 st1 E1 M1 a b => ?_) fun bv σ1 st1 E1 M1 a b lt1 at1 => ⟨trivial, ?_⟩⟩
  · rw [if_pos bv] at h; exact h σ1 st1 E1 M1 a (by lia)
  · rw [if_neg (by rw [bv]; exact Bool.false_ne_true)] at h
    refine turn72 (k := k) (j := 1) (ys := [p0, v.tx, p1]) H2 okw hm M1 E1 Ms.len lt1 at1 (Int.le_trans h0 a) (by lia) hdp (by lia) rfl rfl (by decide) (show 3 ≤ 900 by decide) (fun bw σ2 st2 E2 M2 a2 b2 => ?_) fun bw σ2 st2 E2 M2 a2 b2 lt2 at2 => ⟨trivial, ?_⟩
    · rw [if_pos bw] at h; exact h σ2 st2 E2 M2 (Int.le_trans a a2) (by lia)
    · rw [if_neg (by rw [bw]; exact Bool.false_ne_true)] at h
      refine s29b (ys := [p0, v.tx, p1, w.tx, p2]) (Nat.le_trans (by decide) (Nat.le_trans (Nat.le_add_left _ _) hm)) lt2 at2 (show p0.length + (v.tx.length + (p1.length + (w.tx.length + (p2.length + 0)))) ≤ 100000 by lia) (show 5 ≤ 1000 by decide) ?_
      exact kk (k := k) (h σ2 st2 E2 M2 (Int.le_trans a a2) (by lia)) (show D.tup [.int 5, .str (p0 ++ v.tx ++ p1 ++ w.tx ++ p2)] = .tup [.int 5, .str (p0 ++ (v.tx ++ (p1 ++ (w.tx ++ (p2 ++ [])))))] by rw [List.append_nil, List.append_assoc, List.append_assoc, List.append_assoc])
end
end
section
theorem Run.mono {M M' : Nat} {d : D} {c c' hh hh' : Int} {v : V} (H : Run M d c hh v) (hM : M ≤ M') (hc : c ≤ c') (hq : hh ≤ hh') : Run M' d c' hh' v :=
  fun m σ st dp k x hm Ms h0 hst hdp hd h => H m σ st dp k x (by lia) Ms h0 (by lia) hdp (by lia) fun σ' st' E' M' b1 b2 => h σ' st' E' M' b1 (by lia)
theorem run_num {a : Int} {p : Bool} (ha : Tp a) : Run 6 (.node 1 (.int a) []) 1 1 (.num a p) :=
  run_of (c := 0) (hh := 0) (ρ := 15) (cls := 6) (f := 70) (M := 3) rfl (fun σ R => ⟨_, R.r15, rfl⟩) (by decide) rfl (by decide) (by decide) (by decide) (rule_num ha)
theorem run_str {y : Tx} {p : Bool} : Run 6 (.node 2 (.str y) []) 1 1 (.txt y p) :=
  run_of (c := 0) (hh := 0) (ρ := 16) (cls := 7) (f := 71) (M := 3) rfl (fun σ R => ⟨_, R.r16, rfl⟩) (by decide) rfl (by decide) (by decide) (by decide) rule_str
theorem run_tps {y : Tx} {p : Bool} (hy : y.length ≤ 2000) : Run 6 (.node 3 (.tup [.str y]) []) 1 1 (.txt y p) :=
  run_of (c := 0) (hh := 0) (ρ := 17) (cls := 8) (f := 72) (M := 3) rfl (fun σ R => ⟨_, R.r17, rfl⟩) (by decide) rfl (by decide) (by decide) (by decide) (rule_tps hy)
theorem run_una {u : Un} {d : D} {M : Nat} {c hh : Int} {v : V} (H : Run M d c hh v) (okv : v.Ok) (hc : 0 ≤ c) (hhh : 0 ≤ hh) : Run (M + 10) (.node 21 (.str u.tx) [d]) (c + 1) (hh + 1) (front u v) :=
  run_of (ρ := 21) (cls := 11) (f := 78) (M := M + 7) rfl (fun σ R => ⟨_, R.r21, rfl⟩) (by decide) rfl (by decide) hc hhh (rule_una H okv hc)
theorem run_cv {c : Cv} (h : c.Small) : Run 16 c.node 2 2 c.v := by
  cases c with
  | s y => exact run_str.mono (by decide) (by decide) (by decide)
  | i a =>
    have h : Tp a := h
    unfold Cv.node
    dsimp only
    by_cases ha : a < 0
    · rw [if_pos ha]
      have ht : Tp (0 - a) := by unfold Tp at *; lia
      have := run_una (u := .neg) (run_num (p := true) ht) ht (by decide) (by decide)
      have e : front .neg (.num (0 - a) true) = (Cv.i a).v := by
        show V.num (0 - (0 - a)) true = V.num a true
        rw [show 0 - (0 - a) = a by lia]
      rw [e] at this
      exact this
    · rw [if_neg ha]
      exact (run_num h).mono (by decide) (by decide) (by decide)
theorem run_way {w : Way} {y : Tx} : Run 2 (w.node y) 0 0 .left := by
  cases w
  · exact run_left (.inl rfl)
  · exact run_left (.inr (.inl rfl))
  · exact run_left (.inr (.inr rfl))
  · exact run_left (.inr (.inr rfl))
  · exact run_left (.inr (.inl rfl))
  · exact run_left (.inl rfl)
theorem hi_pos : ∀ t : Tr, 1 ≤ t.hi
  | .num _ => Nat.le_refl _ | .str _ => Nat.le_refl _ | .tps _ => Nat.le_refl _ | .nam .. => Nat.le_refl _
  | .una .. => Nat.le_add_left _ _ | .par _ => Nat.le_add_left _ _ | .tp1 .. => Nat.le_add_left _ _ | .tp2 .. => Nat.le_add_left _ _ | .bin .. => Nat.le_add_left _ _
theorem run_tree {lk} : ∀ {t : Tr}, t.Ok lk → t.hi ≤ 5 → Run (11 * t.hi + 6) t.plain (2 * (t.sz : Int)) ((t.hi : Int) + 1) t.val
  | .num a, h, hh => (run_num h.1).mono (by show 6 ≤ 17; decide) (by show (1 : Int) ≤ 2; decide) (by show (1 : Int) ≤ 2; decide)
  | .str y, h, hh => run_str.mono (by show 6 ≤ 17; decide) (by show (1 : Int) ≤ 2; decide) (by show (1 : Int) ≤ 2; decide)
  | .tps y, h, hh => (run_tps (Nat.le_trans h.2 (by decide))).mono (by show 6 ≤ 17; decide) (by show (1 : Int) ≤ 2; decide) (by show (1 : Int) ≤ 2; decide)
  | .nam w y none, h, hh => (run_way (w := w) (y := y)).mono (by show 2 ≤ 17; decide) (by show (0 : Int) ≤ 2; decide) (by show (0 : Int) ≤ 2; decide)
  | .nam w y (some c), h, hh => by
    by_cases hw : w.ok = true
    · have := run_cv (h.2.2 c rfl)
      unfold Tr.plain Tr.val
      rw [if_pos hw, if_pos hw]
      exact this.mono (by show 16 ≤ 17; decide) (by show (2 : Int) ≤ 2; decide) (by show (2 : Int) ≤ 2; decide)
    · unfold Tr.plain Tr.val
      rw [if_neg hw, if_neg hw]
      exact (run_way (w := w) (y := y)).mono (by show 2 ≤ 17; decide) (by show (0 : Int) ≤ 2; decide) (by show (0 : Int) ≤ 2; decide)
  | .una u t, h, hh => by
    have hh' : t.hi + 1 ≤ 5 := hh
    have H := run_tree (t := t) h (by lia)
    exact (run_una (u := u) H (val_ok h (by lia)) (by lia) (by lia)).mono (by show 11 * t.hi + 6 + 10 ≤ 11 * (t.hi + 1) + 6; lia) (by show 2 * (t.sz : Int) + 1 ≤ 2 * ((t.sz + 1 : Nat) : Int); lia) (by show (t.hi : Int) + 1 + 1 ≤ ((t.hi + 1 : Nat) : Int) + 1; lia)
  | .par t, h, hh => by
    have hh' : t.hi + 1 ≤ 5 := hh
    have H := run_tree (t := t) h (by lia)
    exact (run_of (κ := 33) (a := .str []) (ks := [t.plain]) (ρ := 18) (cls := 9) (f := 73) rfl (fun σ R => ⟨_, R.r18, rfl⟩) (by decide) rfl (by decide) (by lia) (by lia) (rule_par H)).mono (by show 11 * t.hi + 6 + 1 + 3 ≤ 11 * (t.hi + 1) + 6; lia) (by show 2 * (t.sz : Int) + 1 ≤ 2 * ((t.sz + 1 : Nat) : Int); lia) (by show (t.hi : Int) + 1 + 1 ≤ ((t.hi + 1 : Nat) : Int) + 1; lia)
  | .tp1 p0 p1 t, h, hh => by
    obtain ⟨q0, q1, h⟩ := h
    have hh' : t.hi + 1 ≤ 5 := hh
    have H := run_tree (t := t) h (by lia)
    exact (run_of (κ := 3) (a := .tup [.str p0, .str p1]) (ks := [t.plain]) (ρ := 17) (cls := 8) (f := 72) rfl (fun σ R => ⟨_, R.r17, rfl⟩) (by decide) rfl (by decide) (by lia) (by lia)
      (rule_tp1 H (val_ok h (by lia)) (Nat.le_trans q0.2 (by decide)) (Nat.le_trans q1.2 (by decide)) (by lia))).mono (by show 11 * t.hi + 6 + 4 + 3 ≤ 11 * (t.hi + 1) + 6; lia) (by show 2 * (t.sz : Int) + 1 ≤ 2 * ((t.sz + 1 : Nat) : Int); lia) (by show (t.hi : Int) + 1 + 1 ≤ ((t.hi + 1 : Nat) : Int) + 1; lia)
  | .tp2 p0 p1 p2 t u, h, hh => by
    obtain ⟨q0, q1, q2, ht, hu⟩ := h
    have hh' : max t.hi u.hi + 1 ≤ 5 := hh
    have H1 := (run_tree (t := t) ht (by lia)).mono (M' := 11 * (max t.hi u.hi) + 6) (by lia) (Int.le_refl _) (Int.le_refl _)
    have H2 := (run_tree (t := u) hu (by lia)).mono (M' := 11 * (max t.hi u.hi) + 6) (by lia) (Int.le_refl _) (Int.le_refl _)
    exact (run_of (κ := 3) (a := .tup [.str p0, .str p1, .str p2]) (ks := [t.plain, u.plain]) (ρ := 17) (cls := 8) (f := 72) rfl (fun σ R => ⟨_, R.r17, rfl⟩) (by decide) rfl (by decide) (by lia) (by lia)
      (rule_tp2 H1 H2 (val_ok ht (by lia)) (val_ok hu (by lia)) (Nat.le_trans q0.2 (by decide)) (Nat.le_trans q1.2 (by decide)) (Nat.le_trans q2.2 (by decide)) (by lia) (by lia))).mono (by show 11 * (max t.hi u.hi) + 6 + 4 + 3 ≤ 11 * (max t.hi u.hi + 1) + 6; lia)
        (by show 2 * (t.sz : Int) + 2 * (u.sz : Int) + 1 ≤ 2 * ((t.sz + u.sz + 1 : Nat) : Int); lia) (by show max ((t.hi : Int) + 1) ((u.hi : Int) + 1) + 1 ≤ ((max t.hi u.hi + 1 : Nat) : Int) + 1; lia)
  | .bin o t u, h, hh => by
    obtain ⟨ht, hu⟩ := h
    have hh' : max t.hi u.hi + 1 ≤ 5 := hh
    have H1 := (run_tree (t := t) ht (by lia)).mono (M' := 11 * (max t.hi u.hi) + 6) (by lia) (Int.le_refl _) (Int.le_refl _)
    have H2 := (run_tree (t := u) hu (by lia)).mono (M' := 11 * (max t.hi u.hi) + 6) (by lia) (Int.le_refl _) (Int.le_refl _)
    exact (run_of (κ := 23) (a := .str o.tx) (ks := [t.plain, u.plain]) (ρ := 19) (cls := 10) (f := 75) rfl (fun σ R => ⟨_, R.r19, rfl⟩) (by decide) rfl (by decide) (by lia) (by lia)
      (rule_bin H1 H2 (val_ok ht (by lia)) (val_ok hu (by lia)) (by lia) (by lia))).mono (by show 11 * (max t.hi u.hi) + 6 + 8 + 3 ≤ 11 * (max t.hi u.hi + 1) + 6; lia)
        (by show 2 * (t.sz : Int) + 2 * (u.sz : Int) + 1 ≤ 2 * ((t.sz + u.sz + 1 : Nat) : Int); lia) (by show max ((t.hi : Int) + 1) ((u.hi : Int) + 1) + 1 ≤ ((max t.hi u.hi + 1 : Nat) : Int) + 1; lia)
noncomputable def V.pr (v : V) : D := .tup [.int v.tag, v.pay]
theorem s63 {M : Nat} {d : D} {c hh : Int} {v : V} (H : Run M d c hh v) {n : Nat} {σ : Sto} {st dp : Int} {k : KV} {x : KX} (hn : M + 1 ≤ n) (Ms : MS σ st dp) (h0 : 0 ≤ st) (hst : st + c ≤ 2000) (hdp : 0 ≤ dp) (hd : dp + hh ≤ 44)
    (h : ∀ σ' st', Ext σ σ' → MS σ' st' dp → st ≤ st' → st' ≤ st + c → k v.pr σ') : wf tab fns n 63 [.h 0, d] σ k x := by
  refine wf_go (N := M) hn (F := c63) rfl rfl fun m hm => ?_
  refine Ms.call (by rfl) (by rfl) ?_
  refine H _ _ _ _ _ _ (by lia) Ms h0 hst hdp hd fun σ' st' E' M' b1 b2 => ?_
  have := h σ' st' E' M' b1 b2
  cases v
  all_goals
    show _
    exact this
end
section
set_option genCtorIdx false
set_option genSizeOf false
set_option genInjectivity false

noncomputable def nmA (i : Nat) : Tx := 65 :: intTx (i : Int)
theorem char_inj {a b : Char} (h : a.toNat = b.toNat) : a = b := Char.ext (UInt32.toNat_inj.mp h)
theorem map_inj {l r : List Char} (h : l.map Char.toNat = r.map Char.toNat) : l = r := by
  induction l generalizing r with
  | nil => cases r with | nil => rfl | cons _ _ => cases h
  | cons a l ih => cases r with
    | nil => cases h
    | cons b r => simp only [List.map_cons, List.cons.injEq] at h; rw [char_inj h.1, ih h.2]
theorem nmA_inj {i j : Nat} (h : nmA i = nmA j) : i = j := by
  unfold nmA at h
  simp only [List.cons.injEq, true_and] at h
  rw [intTx_list, intTx_list] at h
  have h := map_inj h
  have e : ∀ n : Nat, (toString (n : Int)).toList = Nat.toDigits 10 n := fun n => by show (Nat.repr n).toList = _; simp [Nat.repr]
  rw [e, e] at h
  have := congrArg (fun l => Nat.ofDigitChars 10 l 0) h
  simpa [Nat.ofDigitChars_ten_toDigits] using this
noncomputable def lkv (vals : List (Option Cv)) (x : Tx) : Option Cv := match (List.range vals.length).find? (fun i => nmA i == x) with
  | some i => (vals[i]?).join
  | none => none
theorem lkv_nm {vals : List (Option Cv)} {i : Nat} (h : i < vals.length) : lkv vals (nmA i) = (vals[i]?).join := by
  unfold lkv
  have : (List.range vals.length).find? (fun j => nmA j == nmA i) = some i := by
    rw [List.find?_range_eq_some]
    refine ⟨by simp, List.mem_range.mpr h, fun j hj => ?_⟩
    simp only [Bool.not_eq_true', beq_eq_false_iff_ne, ne_eq]
    exact fun q => by have := nmA_inj q; lia
  rw [this]
theorem lkv_no {vals : List (Option Cv)} {x : Tx} (h : ∀ i, nmA i ≠ x) : lkv vals x = none := by
  unfold lkv
  have : (List.range vals.length).find? (fun j => nmA j == x) = none := by
    rw [List.find?_eq_none]; intro i _; simpa using h i
  rw [this]
theorem nm_ne {i : Nat} {c : Nat} {r : Tx} (h : c ≠ 65) : nmA i ≠ c :: r := by unfold nmA; intro q; simp at q; exact h q.1.symm
theorem lkv_E (vals : List (Option Cv)) : lkv vals [69] = none := lkv_no fun i => nm_ne (by decide)
theorem lkv_Z (vals : List (Option Cv)) : lkv vals [90] = none := lkv_no fun i => nm_ne (by decide)
theorem lkv_app {vals : List (Option Cv)} {c : Option Cv} {x : Tx} : lkv (vals ++ [c]) x = if x = nmA vals.length then c else lkv vals x := by
  unfold lkv
  rw [List.length_append, List.length_singleton, List.range_succ, List.find?_append]
  cases e : (List.range vals.length).find? (fun i => nmA i == x) with
  | some i =>
    have h1 := List.find?_some e
    have h2 := List.mem_range.mp (List.mem_of_find?_eq_some e)
    simp only [beq_iff_eq] at h1
    rw [if_neg (fun q => by rw [q] at h1; have := nmA_inj h1; lia)]
    simp only [Option.some_or]
    rw [List.getElem?_append_left h2]
  | none =>
    simp only [Option.none_or, List.find?_singleton]
    by_cases hx : x = nmA vals.length
    · rw [if_pos hx, if_pos (by rw [hx]; simp)]; simp
    · rw [if_neg hx, if_neg (by simpa using fun q => hx q.symm)]
noncomputable def Tr.In (m : Nat) : Tr → Prop
  | .nam w x _ => w.ok = true → ∃ j, j < m ∧ x = nmA j
  | .una _ t => t.In m
  | .par t => t.In m
  | .tp1 _ _ t => t.In m
  | .tp2 _ _ _ t u => t.In m ∧ u.In m
  | .bin _ t u => t.In m ∧ u.In m
  | _ => True
theorem Tr.In.mono {m m' : Nat} (hm : m ≤ m') : ∀ {t : Tr}, t.In m → t.In m'
  | .nam w x c, h => fun q => let ⟨j, hj, e⟩ := h q; ⟨j, by lia, e⟩
  | .una _ t, h => Tr.In.mono hm (t := t) h
  | .par t, h => Tr.In.mono hm (t := t) h
  | .tp1 _ _ t, h => Tr.In.mono hm (t := t) h
  | .tp2 _ _ _ t u, h => ⟨Tr.In.mono hm h.1, Tr.In.mono hm h.2⟩
  | .bin _ t u, h => ⟨Tr.In.mono hm h.1, Tr.In.mono hm h.2⟩
  | .num _, h => h | .str _, h => h | .tps _, h => h
theorem Tr.Ok.mono {vals : List (Option Cv)} {c : Option Cv} : ∀ {t : Tr}, t.In vals.length → t.Ok (lkv vals) → t.Ok (lkv (vals ++ [c]))
  | .nam w x d, hi, h => ⟨fun q => by
      obtain ⟨j, hj, e⟩ := hi q
      rw [lkv_app, if_neg (fun z => by rw [e] at z; have := nmA_inj z; lia)]
      exact h.1 q, fun _ => lkv_Z _, h.2.2⟩
  | .una _ t, hi, h => Tr.Ok.mono (t := t) hi h
  | .par t, hi, h => Tr.Ok.mono (t := t) hi h
  | .tp1 _ _ t, hi, h => ⟨h.1, h.2.1, Tr.Ok.mono (t := t) hi h.2.2⟩
  | .tp2 _ _ _ t u, hi, h => ⟨h.1, h.2.1, h.2.2.1, Tr.Ok.mono hi.1 h.2.2.2.1, Tr.Ok.mono hi.2 h.2.2.2.2⟩
  | .bin _ t u, hi, h => ⟨Tr.Ok.mono hi.1 h.1, Tr.Ok.mono hi.2 h.2⟩
  | .num _, _, h => h | .str _, _, h => h | .tps _, _, h => h
structure Good (vals : List (Option Cv)) (t : Tr) : Prop where
  ok : t.Ok (lkv vals)
  in_ : t.In vals.length
  hi : t.hi ≤ 4
theorem Good.mono {vals : List (Option Cv)} {c : Option Cv} {t : Tr} (g : Good vals t) : Good (vals ++ [c]) t := ⟨g.ok.mono g.in_, g.in_.mono (by simp), g.hi⟩
noncomputable def ent (t : Tr) : D := .tup [t.node, t.plain, t.val.d, .int (t.hi : Int)]
structure WS (σ : Sto) (st : Int) (S : Nat) (ts : List Tr) (vals : List (Option Cv)) : Prop where
  ms : MS σ st 0
  r1 : σ.at 1 = .inst 0 [(26, .h 2), (27, .h 3)]
  r2 : σ.at 2 = .list []
  r7 : σ.at 7 = .list []
  w : σ.at 26 = .sdict [([109], .h 0), ([115, 116, 97, 99, 107], .h S), ([118, 97, 108, 117, 101, 115], .h 28), ([107, 110, 111, 119, 110], .h 29)]
  Sok : 27 ≤ S ∧ S < σ.length ∧ S ≠ 28 ∧ S ≠ 29
  stk : σ.at S = .list (ts.map ent)
  vls : σ.at 28 = .list (vals.map od)
  kn : Kn σ 29 (lkv vals)
  small : ts.length + vals.length ≤ 100
  cvs : ∀ c, some c ∈ vals → c.Ok ∧ (∀ x, c = .s x → ∀ d ∈ x, okc d = true)

section
variable {n : Nat} {σ : Sto} {k : KV} {x : KX} {st : Int} {S : Nat} {ts : List Tr} {vals : List (Option Cv)}
theorem s0 {κ : Int} {a : D} (hn : 1 ≤ n) (h : k (.node κ a []) σ) : wf tab fns n 0 [.int κ, a, .int 0] σ k x := by
  refine wf_go (N := 0) hn (F := c0) rfl rfl fun m hm => ?_
  walk_at "s"; exact h
theorem s1 {κ : Int} {a : D} {ks : List D} (hn : 1 ≤ n) (h : k (.node κ a ks) σ) : wf tab fns n 1 [.int κ, a, .lst ks, .int 0] σ k x := by
  refine wf_go (N := 0) hn (F := c1) rfl rfl fun m hm => ?_
  walk_at "s"; exact h
theorem s58 {c : Cv} (hn : 2 ≤ n) (h : k c.node σ) : wf tab fns n 58 [c.d] σ k x := by
  refine wf_go (N := 1) hn (F := c58) rfl rfl fun m hm => ?_
  cases c with
  | s y => walk_at "s"; refine s0 (le_of hm rfl) ?_; walk_at "s"; exact h
  | i a =>
    unfold Cv.node at h
    dsimp only at h
    walk_at "s"
    · rw [if_pos (by assumption)] at h
      refine s0 (le_of hm rfl) ?_; walk_at "s"; refine s1 (le_of hm rfl) ?_; walk_at "s"; exact h
    · rw [if_neg (by assumption)] at h
      refine s0 (le_of hm rfl) ?_; walk_at "s"; exact h
theorem s39 {c : Cv} (hn : 2 ≤ n) (h : k c.node σ) : wf tab fns n 39 [c.d, .int 0] σ k x := by
  refine wf_go (N := 1) hn (F := c39) rfl rfl fun m hm => ?_
  cases c with
  | s y => walk_at "s"; refine s0 (le_of hm rfl) ?_; walk_at "s"; exact h
  | i a =>
    unfold Cv.node at h
    dsimp only at h
    walk_at "s"
    · rw [if_pos (by assumption), Int.zero_sub] at h
      refine s0 (le_of hm rfl) ?_; walk_at "s"; refine s1 (le_of hm rfl) ?_; walk_at "s"; exact h
    · rw [if_neg (by assumption)] at h
      refine s0 (le_of hm rfl) ?_; walk_at "s"; exact h
end
end
section
noncomputable def strOk (m : Nat) (o : Option D) : Bool := match o with | some (.str x) => x.all okc && Nat.ble x.length m | _ => false
theorem strOk_inv {m : Nat} {o : Option D} (h : strOk m o = true) : ∃ x, o = some (.str x) ∧ okTx x m := by
  cases o with
  | none => exact absurd h Bool.false_ne_true
  | some d => cases d with
    | str x => obtain ⟨h1, h2⟩ := Bool.and_eq_true_iff.mp (show (x.all okc && Nat.ble x.length m) = true from h); exact ⟨x, rfl, List.all_eq_true.mp h1, Nat.le_of_ble_eq_true h2⟩
    | _ => exact absurd h Bool.false_ne_true
noncomputable def intOk (o : Option D) : Bool := match o with | some (.int n) => decide (0 ≤ n) && Nat.ble n.natAbs 9007199254740991 | _ => false
theorem intOk_inv {o : Option D} (h : intOk o = true) : ∃ n : Int, o = some (.int n) ∧ Tp n ∧ 0 ≤ n := by
  cases o with
  | none => exact absurd h Bool.false_ne_true
  | some d => cases d with
    | int n => obtain ⟨h1, h2⟩ := Bool.and_eq_true_iff.mp (show (decide (0 ≤ n) && Nat.ble n.natAbs 9007199254740991) = true from h); exact ⟨n, rfl, Nat.le_of_ble_eq_true h2, of_decide_eq_true h1⟩
    | _ => exact absurd h Bool.false_ne_true
noncomputable def anyOk {α : Type} (f : α → Tx) (l : List α) (o : Option D) : Bool := match o with | some (.str x) => l.any fun a => f a == x | _ => false
theorem anyOk_inv {α : Type} {f : α → Tx} {l : List α} {o : Option D} (h : anyOk f l o = true) : ∃ a, o = some (.str (f a)) := by
  cases o with
  | none => exact absurd h Bool.false_ne_true
  | some d => cases d with
    | str x => obtain ⟨a, _, e⟩ := List.any_eq_true.mp (show (l.any fun a => f a == x) = true from h); exact ⟨a, by rw [eq_of_beq e]⟩
    | _ => exact absurd h Bool.false_ne_true
noncomputable def textsL : List D := [(D.str []), (D.str [113]), (D.str [55]), (D.str [45, 51]), (D.str [32, 49, 50]), (D.str [48]), (D.str [45]), (D.str [48, 48, 55]), (D.str [57, 48, 48, 55, 49, 57, 57, 50, 53, 52, 55, 52, 48, 57, 57, 49]), (D.str [56, 32])]
theorem texts_at {j : Nat} (h : j < 10) : ∃ x, textsL[j]? = some (.str x) ∧ okTx x 20 := strOk_inv ((by decide +kernel : ∀ j < 10, strOk 20 textsL[j]? = true) j h)
noncomputable def piecesL : List D := [(D.str []), (D.str [55]), (D.str [113]), (D.str [45])]
theorem pieces_at {j : Nat} (h : j < 4) : ∃ x, piecesL[j]? = some (.str x) ∧ okTx x 1 := strOk_inv ((by decide +kernel : ∀ j < 4, strOk 1 piecesL[j]? = true) j h)
noncomputable def frontsL : List D := [(D.str [45]), (D.str [126]), (D.str [43]), (D.str [45]), (D.str [126]), (D.str [33])]
theorem fronts_at {j : Nat} (h : j < 6) : ∃ u : Un, frontsL[j]? = some (.str u.tx) := anyOk_inv ((by decide +kernel : ∀ j < 6, anyOk Un.tx [.neg, .inv, .pos, .bang] frontsL[j]? = true) j h)
noncomputable def signsL : List D := [(D.str [43]), (D.str [45]), (D.str [42]), (D.str [47]), (D.str [37]), (D.str [42, 42]), (D.str [38]), (D.str [124]), (D.str [94]), (D.str [43]), (D.str [42, 42]), (D.str [60])]
theorem signs_at {j : Nat} (h : j < 12) : ∃ o : Op, signsL[j]? = some (.str o.tx) := anyOk_inv ((by decide +kernel : ∀ j < 12, anyOk Op.tx [.add, .sub, .mul, .div, .rem, .pow, .and, .or, .xor, .lt] signsL[j]? = true) j h)
noncomputable def numbersL : List D := [(D.int 0), (D.int 1), (D.int 2), (D.int 3), (D.int 5), (D.int 7), (D.int 10), (D.int 31), (D.int 32), (D.int 52), (D.int 53), (D.int 54), (D.int 60), (D.int 64), (D.int 65), (D.int 4), (D.int 2147483647), (D.int 2147483648), (D.int 4294967295), (D.int 4294967296), (D.int 94906265), (D.int 94906266), (D.int 9007199254740991), (D.int 6)]
theorem numbers_at {j : Nat} (h : j < 24) : ∃ n : Int, numbersL[j]? = some (.int n) ∧ Tp n ∧ 0 ≤ n := intOk_inv ((by decide +kernel : ∀ j < 24, intOk numbersL[j]? = true) j h)
section
variable {n : Nat} {σ : Sto} {k : KV} {x : KX} {st : Int} {S : Nat} {ts : List Tr} {vals : List (Option Cv)}
theorem fmod_ge {q m : Int} (hm : 0 < m) : q.fmod m = q % m := Int.fmod_eq_emod_of_nonneg _ (Int.le_of_lt hm)
theorem fmod_in {q : Int} {m : Nat} (hm : 0 < m) (e : Nat.ble m 1000 = true) : (q.fmod m).toNat < m ∧ jOk (q.fmod m) = true ∧ 0 ≤ q.fmod m := by
  have h0 : (0 : Int) < m := Int.ofNat_lt.mpr hm
  rw [fmod_ge h0]
  have a := Int.emod_nonneg q (Int.ne_of_gt h0)
  have b := Int.emod_lt_of_pos q h0
  exact ⟨(Int.toNat_lt a).mpr b, jOk_of a (Int.lt_of_lt_of_le b (Int.ofNat_le.mpr (Nat.le_trans (Nat.le_of_ble_eq_true e) (by decide)))), a⟩
theorem dctI {n : Nat} {L : List (Tx × D)} {y : Tx} {d : D} {f : D → Prop} {dd : Decidable (n < σ.length)} (h : n < σ.length) (r : σ.at n = .sdict L) (e : L.lookup y = some d) (q : f d) : @Decidable.rec (n < σ.length) (fun _ => Prop) (fun _ => False) (fun _ => moS (σ.at n) fun l => onO (l.lookup y) f) dd :=
  ckI h (by rw [r]; exact onO_i e q)
theorem idxI {n : Nat} {l : List D} {j : Int} {d : D} {f : D → Prop} {dd : Decidable (n < σ.length)} (h : n < σ.length) (r : σ.at n = .list l) (hj : jOk j = true) (e : l[j.toNat]? = some d) (q : f d) : @Decidable.rec (n < σ.length) (fun _ => Prop) (fun _ => False) (fun _ => idxP (σ.at n) j f) dd :=
  ckI h (by rw [r]; exact ckI hj (onO_i e q))
theorem WS.vh (W : WS σ st S ts vals) {f : D → Prop} {dd : Decidable (26 < σ.length)} (h : f (.h 28)) : @Decidable.rec (26 < σ.length) (fun _ => Prop) (fun _ => False) (fun _ => moS (σ.at 26) fun l => onO (l.lookup [118, 97, 108, 117, 101, 115]) f) dd := dctI (d := .h 28) (W.ms.lt (by decide)) W.w rfl h
theorem WS.vl (W : WS σ st S ts vals) {f : List D → Prop} {dd : Decidable (28 < σ.length)} (h : f (vals.map od)) : @Decidable.rec (28 < σ.length) (fun _ => Prop) (fun _ => False) (fun _ => moL (σ.at 28) f) dd := lstI (W.ms.lt (by decide)) W.vls h
theorem WS.szv (W : WS σ st S ts vals) : Sz (vals.map od).length := by rw [List.length_map]; exact Nat.le_trans (Nat.le_trans (Nat.le_add_left _ _) W.small) (by decide)
theorem s60a {how q : Int} (W : WS σ st S ts vals) (hq : 0 ≤ q) (hh : how ≠ 5 ∨ vals = []) (hn : 2 ≤ n) (h : ∀ t, Good vals t → t.hi = 1 → k (ent t) σ) : wf tab fns n 60 [.h 26, .int how, .int q] σ k x := by
  refine wf_go (N := 1) hn (F := c60) rfl rfl fun m hm => ?_
  have b10 := fmod_in (q := q) (m := 10) (by decide) rfl
  have b24 := fmod_in (q := q) (m := 24) (by decide) rfl
  obtain ⟨y, hy, oy⟩ := texts_at b10.1
  obtain ⟨b, hb', hb⟩ := numbers_at b24.1
  refine ex_no (fun k hk => bri (fun z => W.vh (W.vl (ckI W.szv (brd (fun y => ?_) fun _ => hk)))) fun _ => hk) ?_
  · rcases hh with hh | hh
    · exact absurd z hh
    · rw [hh] at y; exact absurd y (by decide)
  refine ex_ifb (P := how = 4) beq_iff_eq (fun k hk => hk) (fun z => ?_) fun z => ?_
  · refine ex_set (σ' := σ) (v := .str y) (fun k hk => ckI b10.2.1 (onO_i hy hk)) ?_
    exact bri (fun _ => s0 (le_of hm rfl) (h (.tps y) ⟨oy, trivial, show 1 ≤ 4 by decide⟩ rfl)) fun _ => s0 (le_of hm rfl) (h (.str y) ⟨oy, trivial, show 1 ≤ 4 by decide⟩ rfl)
  · have fin : ∀ v : Int, Tp v ∧ 0 ≤ v → k (ent (.num v)) σ := fun v hv => h (.num v) ⟨hv, trivial, show 1 ≤ 4 by decide⟩ rfl
    refine bri (fun _ => s0 (le_of hm rfl) (fin _ ⟨?_, Int.fmod_nonneg_of_pos _ (by decide)⟩)) fun _ => ckI b24.2.1 (onO_i hb' (s0 (le_of hm rfl) (fin b hb)))
    have := Int.fmod_lt_of_pos q (b := 4096) (by decide)
    have := Int.fmod_nonneg_of_pos q (b := 4096) (by decide)
    unfold Tp; omega
theorem nmA_of (i : Int) (h : 0 ≤ i) : 65 :: intTx i = nmA i.toNat := by unfold nmA; rw [Int.toNat_of_nonneg h]
noncomputable def wayOf (i : Int) : Way := if i = 3 then .mem else if i = 4 then .idx else if i = 5 then .idt else if i = 6 then .fmem else if i = 7 then .zed else .name
theorem wayOf_ok {i : Int} (h : i < 8) : (wayOf i).ok = true ↔ i ≤ 5 := by
  unfold wayOf
  by_cases z6 : i = 6
  · subst z6; decide
  by_cases z7 : i = 7
  · subst z7; decide
  rw [if_neg z6, if_neg z7]
  refine ⟨fun _ => by omega, fun _ => ?_⟩
  split; rfl; split; rfl; split; rfl; rfl
theorem ways {m : Nat} {l0 l1 l2 l3 : Option D} {y : Tx} {way : Int} {K' : KF} (hm : 3 ≤ m) (h : K' .next [l0, l1, l2, l3, some (.str y), some (.int way), some dE, some ((wayOf way).node y)] σ) : ex tab (wf tab fns m) (match CS.drop 6 c59.code with | .cons s _ => s | _ => .nil) [l0, l1, l2, l3, some (.str y), some (.int way), some dE, none] σ K' x := by
  have hw : ∀ w, wayOf way = w → K' .next [l0, l1, l2, l3, some (.str y), some (.int way), some dE, some (w.node y)] σ := fun w e => e ▸ h
  unfold wayOf at hw
  have S0 := fun k κ a h => s0 (σ := σ) (x := x) (k := k) (κ := κ) (a := a) (le_of hm rfl) h
  have S1 := fun k κ a ks h => s1 (σ := σ) (x := x) (k := k) (κ := κ) (a := a) (ks := ks) (le_of hm rfl) h
  exact bri (fun z => S1 _ _ _ _ (hw .mem (if_pos z))) fun z3 => bri (fun z => S0 _ _ _ (S1 _ _ _ _ (hw .idx ((if_neg z3).trans (if_pos z))))) fun z4 => bri (fun z => S0 _ _ _ (S1 _ _ _ _ (hw .idt ((if_neg z3).trans ((if_neg z4).trans (if_pos z)))))) fun z5 =>
    bri (fun z => S0 _ _ _ (S1 _ _ _ _ (hw .fmem ((if_neg z3).trans ((if_neg z4).trans ((if_neg z5).trans (if_pos z))))))) fun z6 => bri (fun z => S0 _ _ _ (hw .zed ((if_neg z3).trans ((if_neg z4).trans ((if_neg z5).trans ((if_neg z6).trans (if_pos z))))))) fun z7 =>
    S0 _ _ _ (hw .name ((if_neg z3).trans ((if_neg z4).trans ((if_neg z5).trans ((if_neg z6).trans (if_neg z7))))))
theorem s59 {q : Int} (W : WS σ st S ts vals) (hq : 0 ≤ q) (hv : 0 < vals.length) (hn : 4 ≤ n) (h : ∀ t, Good vals t → t.hi = 1 → k (ent t) σ) : wf tab fns n 59 [.h 26, .int q] σ k x := by
  refine wf_go (N := 3) hn (F := c59) rfl rfl fun m hm => ?_
  have hml : (vals.map od).length = vals.length := List.length_map _
  have hL : (0 : Nat) < (vals.map od).length := by rw [hml]; exact hv
  have hLs : (vals.map od).length ≤ 1000 := by rw [hml]; exact Nat.le_trans (Nat.le_trans (Nat.le_add_left _ _) W.small) (by decide)
  obtain ⟨hp, hj, hp0⟩ := fmod_in (q := q) hL (Nat.ble_eq_true_of_le hLs)
  have okd : B64 ((vals.map od).length : Int) ∧ ((vals.map od).length : Int) ≠ 0 := ⟨⟨by omega, by omega⟩, by omega⟩
  have hw8 : (q.fdiv ((vals.map od).length : Int)).fmod 8 < 8 := Int.fmod_lt_of_pos _ (by decide)
  refine ex_set (σ' := σ) (v := .int (q.fmod ((vals.map od).length : Int))) (fun k hk => W.vh (W.vl (ckI W.szv (ckI okd hk)))) ?_
  generalize q.fmod ((vals.map od).length : Int) = p at hp hj hp0
  have hpl : p.toNat < vals.length := hml ▸ hp
  obtain ⟨c, hc⟩ : ∃ c, vals[p.toNat]? = some c := ⟨_, List.getElem?_eq_getElem hpl⟩
  have hc' : (vals.map od)[p.toNat]? = some (od c) := by rw [List.getElem?_map, hc]; rfl
  have hmem : c ∈ vals := List.mem_of_getElem? hc
  refine ex_set (σ' := σ) (v := od c) (fun k hk => W.vh (idxI (W.ms.lt (by decide)) W.vls hj hc' hk)) ?_
  refine ex_if (P := ∃ y, c = some (.s y) ∧ 20 < y.length) (fun k h1 h2 => ?_) (fun _ => s60a (how := 0) W hq (.inl (show (0 : Int) ≠ 5 by decide)) (Nat.le_of_succ_le hm) h) fun hy => ?_
  · cases c with
    | none => exact h2 fun ⟨y, e, _⟩ => by cases e
    | some c =>
      cases c with
      | i a => exact h2 fun ⟨y, e, _⟩ => by cases e
      | s y => exact ckI (show Sz _ from Nat.le_trans ((W.cvs _ hmem).1 : y.length ≤ 10000) (by decide)) (brd (fun z => h1 ⟨y, rfl, Int.ofNat_lt.mp z⟩) fun z => h2 fun ⟨y', e, z'⟩ => by cases e; exact z (Int.ofNat_lt.mpr z'))
  have tp : Tp p := by unfold Tp; omega
  refine ex_set (σ' := σ) (v := .str (nmA p.toNat)) (fun k hk => ckI tp.B (ckI (show Sz (1 + _) from Nat.le_trans (Nat.add_le_add_left (intTx_len tp) 1) (by decide)) (by rw [← nmA_of p hp0] at hk; exact hk))) ?_
  refine ex_set (σ' := σ) (v := .int ((q.fdiv ((vals.map od).length : Int)).fmod 8)) (fun k hk => W.vh (W.vl (ckI W.szv (ckI okd hk)))) ?_
  generalize (q.fdiv ((vals.map od).length : Int)).fmod 8 = way at hw8
  refine ex_set (σ' := σ) (v := dE) (fun k hk => s0 (le_of hm rfl) hk) (ex_step (fun K' hk => ways hm hk) ?_)
  have hw := wayOf_ok hw8
  generalize wayOf way = w at hw
  have small : ∀ d, c = some d → d.Small := fun d e => by
    have := W.cvs d (e ▸ hmem)
    cases d with
    | i a => exact this.1
    | s y => exact ⟨this.2 y rfl, Nat.not_lt.mp fun z => hy ⟨y, e, z⟩⟩
  have g := h (.nam w (nmA p.toNat) c) ⟨⟨fun _ => (lkv_nm hpl).trans (by rw [hc]; rfl), fun _ => lkv_Z _, small⟩, fun _ => ⟨_, hpl, rfl⟩, show 1 ≤ 4 by decide⟩ rfl
  cases c with
  | none => exact g
  | some c =>
    by_cases hw5 : way ≤ 5
    · rw [show ent (.nam w (nmA p.toNat) (some c)) = .tup [w.node (nmA p.toNat), c.node, c.v.d, .int 1] by
        unfold ent Tr.plain Tr.val
        rw [if_pos (hw.mpr hw5), if_pos (hw.mpr hw5)]; rfl] at g
      refine ex_no (fun k hk => by cases c <;> exact brd (fun z => absurd z (Int.not_lt.mpr hw5)) fun _ => hk) ?_
      cases c with
      | i a => exact s58 (c := .i a) (le_of hm rfl) g
      | s y => exact s58 (c := .s y) (le_of hm rfl) g
    · rw [show ent (.nam w (nmA p.toNat) (some c)) = .tup [w.node (nmA p.toNat), w.node (nmA p.toNat), V.left.d, .int 1] by
        unfold ent Tr.plain Tr.val
        rw [if_neg fun z => hw5 (hw.mp z), if_neg fun z => hw5 (hw.mp z)]; rfl] at g
      cases c <;> exact brd (fun _ => g) fun z => absurd (Int.not_le.mp hw5) z
end
end
section
section
variable {n : Nat} {σ : Sto} {k : KV} {x : KX} {st : Int} {S : Nat} {ts : List Tr} {vals : List (Option Cv)}
theorem s60 {how q : Int} (W : WS σ st S ts vals) (hq : 0 ≤ q) (hn : 5 ≤ n) (h : ∀ t, Good vals t → t.hi = 1 → k (ent t) σ) : wf tab fns n 60 [.h 26, .int how, .int q] σ k x := by
  by_cases hh : how ≠ 5 ∨ vals = []
  · exact s60a W hq hh (Nat.le_trans (by decide) hn) h
  · have h5 : how = 5 := Decidable.not_not.mp fun z => hh (.inl z)
    have hv : 0 < vals.length := List.length_pos_iff.mpr fun z => hh (.inr z)
    subst h5
    refine wf_go (N := 4) hn (F := c60) rfl rfl fun m hm => ?_
    exact W.vh (W.vl (ckI W.szv (brd (fun _ => s59 W hq hv hm h) fun z => absurd (Int.ofNat_lt.mpr (by rw [List.length_map]; exact hv)) z)))
theorem vok {t : Tr} (g : Good vals t) : t.val.Ok := val_ok g.ok (Nat.le_succ_of_le g.hi)
theorem s62a {how q : Int} {t : Tr} (g : Good vals t) (hh : t.hi ≤ 3) (hq : 0 ≤ q) (hw : how = 6 ∨ how = 7 ∨ how = 8) (hn : 6 ≤ n) (h : ∀ t', Good vals t' → k (ent t') σ) : wf tab fns n 62 [.int how, .int q, .lst [ent t]] σ k x := by
  refine wf_go (N := 5) hn (F := c62) rfl rfl fun m hm => ?_
  have tail : ∀ (κ : Int) (a : D) (t' : Tr), Good vals t' → t'.node = .node κ a [t.node] → t'.plain = .node κ a [t.plain] → t'.hi = t.hi + 1 → ex tab (wf tab fns m) (CS.drop 2 c62.code) [some (.int how), some (.int q), some (.lst [ent t]), some (.lst [t.val.d]), some (.int κ), some a, some t'.val.d, none] σ (rtF k) x := fun κ a t' g' en ep eh => by
    have g' := h t' g'
    unfold ent at g'
    rw [en, ep, eh, show ((t.hi + 1 : Nat) : Int) = 1 + (t.hi : Int) from Int.add_comm (t.hi : Int) 1] at g'
    exact s1 (le_of hm rfl) (s1 (le_of hm rfl) g')
  have h4 : t.hi + 1 ≤ 4 := Nat.succ_le_succ hh
  rcases hw with rfl | rfl | rfl
  · have b := fmod_in (q := q) (m := 6) (by decide) rfl
    obtain ⟨u, hu⟩ := fronts_at b.1
    exact ckI b.2.1 (onO_i hu (s56 (le_of hm rfl) (vok g) (tail 21 (.str u.tx) (.una u t) ⟨g.ok, g.in_, h4⟩ rfl rfl rfl)))
  · exact tail 33 (.str []) (.par t) ⟨g.ok, g.in_, h4⟩ rfl rfl rfl
  · have b1 := fmod_in (q := q.fdiv 2) (m := 4) (by decide) rfl
    have b2 := fmod_in (q := q.fdiv 8) (m := 4) (by decide) rfl
    have b3 := fmod_in (q := q.fdiv 32) (m := 4) (by decide) rfl
    obtain ⟨y1, hy1, oy1⟩ := pieces_at b1.1
    obtain ⟨y2, hy2, oy2⟩ := pieces_at b2.1
    obtain ⟨y3, hy3, oy3⟩ := pieces_at b3.1
    exact ckI b1.2.1 (onO_i hy1 (ckI b2.2.1 (onO_i hy2 (ckI b3.2.1 (onO_i hy3 ⟨show (0 : Int) ≤ 2 by decide, show (2 : Int) ≤ 3 by decide, s57a (p0 := y1) (p1 := y2) (v := t.val) (le_of hm rfl) (vok g) (Nat.le_trans oy1.2 (by decide)) (Nat.le_trans oy2.2 (by decide))
      (tail 3 (.tup [.str y1, .str y2]) (.tp1 y1 y2 t) ⟨⟨oy1, oy2, g.ok⟩, g.in_, h4⟩ rfl rfl rfl)⟩)))))
theorem maxI (a b : Nat) : (if (b : Int) > (a : Int) then (b : Int) else (a : Int)) = ((max a b : Nat) : Int) := by
  by_cases z : a < b
  · rw [if_pos (Int.ofNat_lt.mpr z), Nat.max_eq_right (Nat.le_of_lt z)]
  · rw [if_neg (fun q => z (Int.ofNat_lt.mp q)), Nat.max_eq_left (Nat.not_lt.mp z)]
theorem s62b {how q : Int} {t t2 : Tr} (g : Good vals t) (g2 : Good vals t2) (hh : t.hi ≤ 3) (hh2 : t2.hi ≤ 3) (hq : 0 ≤ q) (hw : 8 ≤ how) (hn : 6 ≤ n) (h : ∀ t', Good vals t' → k (ent t') σ) : wf tab fns n 62 [.int how, .int q, .lst [ent t, ent t2]] σ k x := by
  refine wf_go (N := 5) hn (F := c62) rfl rfl fun m hm => ?_
  have tail : ∀ (κ : Int) (a : D) (t' : Tr), Good vals t' → t'.node = .node κ a [t.node, t2.node] → t'.plain = .node κ a [t.plain, t2.plain] → t'.hi = max t.hi t2.hi + 1 → ex tab (wf tab fns m) (CS.drop 2 c62.code) [some (.int how), some (.int q), some (.lst [ent t, ent t2]), some (.lst [t.val.d, t2.val.d]), some (.int κ), some a, some t'.val.d, none] σ (rtF k) x := fun κ a t' g' en ep eh => by
    have g' := h t' g'
    unfold ent at g'
    rw [en, ep, eh, show ((max t.hi t2.hi + 1 : Nat) : Int) = 1 + (if (t2.hi : Int) > (t.hi : Int) then (t2.hi : Int) else (t.hi : Int)) by rw [maxI]; exact Int.add_comm ((max t.hi t2.hi : Nat) : Int) 1] at g'
    exact s1 (le_of hm rfl) (s1 (le_of hm rfl) g')
  have h4 : max t.hi t2.hi + 1 ≤ 4 := Nat.succ_le_succ (Nat.max_le.mpr ⟨hh, hh2⟩)
  by_cases h8 : how = 8
  · subst h8
    have b1 := fmod_in (q := q.fdiv 2) (m := 4) (by decide) rfl
    have b2 := fmod_in (q := q.fdiv 8) (m := 4) (by decide) rfl
    have b3 := fmod_in (q := q.fdiv 32) (m := 4) (by decide) rfl
    obtain ⟨y1, hy1, oy1⟩ := pieces_at b1.1
    obtain ⟨y2, hy2, oy2⟩ := pieces_at b2.1
    obtain ⟨y3, hy3, oy3⟩ := pieces_at b3.1
    exact ckI b1.2.1 (onO_i hy1 (ckI b2.2.1 (onO_i hy2 (ckI b3.2.1 (onO_i hy3 ⟨show (0 : Int) ≤ 3 by decide, show (3 : Int) ≤ 3 by decide, s57b (p0 := y1) (p1 := y2) (p2 := y3) (v := t.val) (w := t2.val) (le_of hm rfl) (vok g) (vok g2) (Nat.le_trans oy1.2 (by decide)) (Nat.le_trans oy2.2 (by decide)) (Nat.le_trans oy3.2 (by decide))
      (tail 3 (.tup [.str y1, .str y2, .str y3]) (.tp2 y1 y2 y3 t t2) ⟨⟨oy1, oy2, oy3, g.ok, g2.ok⟩, ⟨g.in_, g2.in_⟩, h4⟩ rfl rfl rfl)⟩)))))
  · have b := fmod_in (q := q) (m := 12) (by decide) rfl
    obtain ⟨o, ho⟩ := signs_at b.1
    refine bri (fun z => absurd (z ▸ hw) (by decide)) fun _ => bri (fun z => absurd (z ▸ hw) (by decide)) fun _ => bri (fun z => absurd z h8) fun _ => ckI b.2.1 (onO_i ho (s61 (le_of hm rfl) (vok g) (vok g2) (s55 (le_of hm rfl) (vok g) (vok g2) ?_)))
    exact tail 23 (.str (meek o t.val t2.val).tx) (.bin (meek o t.val t2.val) t t2) ⟨⟨g.ok, g2.ok⟩, ⟨g.in_, g2.in_⟩, h4⟩ rfl rfl rfl
end
end
section
set_option genCtorIdx false
set_option genSizeOf false
set_option genInjectivity false

theorem lkv_out {vals : List (Option Cv)} {i : Nat} (h : vals.length ≤ i) : lkv vals (nmA i) = none := by
  unfold lkv
  rw [List.find?_eq_none.mpr fun j hj e => Nat.lt_irrefl _ (Nat.lt_of_lt_of_le (List.mem_range.mp hj) (nmA_inj (eq_of_beq e) ▸ h))]
theorem int_self (a : Int) : (a == a) = true := beq_self_eq_true a
theorem tx_self (a : Tx) : (a == a) = true := beq_self_eq_true a
theorem ne_self {σ : Sto} {c : Option Cv} {k : Bool → Prop} (h : k false) : cmpP σ .ne (od c) (od c) k := by
  cases c with
  | none => exact h
  | some c => cases c with
    | i a => show k (!(a == a)); rw [int_self]; exact h
    | s y => show k (!(y == y)); rw [tx_self]; exact h
theorem ne_pr {σ : Sto} {v : V} {k : Bool → Prop} (h : k false) : cmpP σ .ne v.pr v.pr k := by
  cases v with
  | num a p => show k (!(((3 : Int) == 3) && (a == a))); rw [int_self a]; exact h
  | txt y p => show k (!(((5 : Int) == 5) && (y == y))); rw [tx_self y]; exact h
  | nan => exact h
  | out => exact h
  | left => exact h
structure WS2 (σ : Sto) (st : Int) (S : Nat) (ts : List Tr) (vals : List (Option Cv)) : Prop where
  ws : WS σ st S ts vals
  klen : ∀ L, σ.at 29 = .sdict L → L.length ≤ vals.length
theorem WS2.ext {σ σ' : Sto} {st st' : Int} {S : Nat} {ts : List Tr} {vals : List (Option Cv)} (W : WS2 σ st S ts vals) (E : Ext σ σ') (M : MS σ' st' 0) : WS2 σ' st' S ts vals := by
  have f : ∀ i, i < 30 → i ≠ 0 → σ'.at i = σ.at i := fun i h1 h2 => E.same i (W.ws.ms.lt h1) h2
  have hS := W.ws.Sok
  obtain ⟨L, hL, hlk⟩ := W.ws.kn.dict
  exact ⟨⟨M, (f 1 (by decide) (by decide)).trans W.ws.r1, (f 2 (by decide) (by decide)).trans W.ws.r2, (f 7 (by decide) (by decide)).trans W.ws.r7, (f 26 (by decide) (by decide)).trans W.ws.w, ⟨hS.1, Nat.lt_of_lt_of_le hS.2.1 E.len, hS.2.2⟩,
    (E.same S hS.2.1 (Nat.ne_of_gt (Nat.lt_of_lt_of_le (by decide) hS.1))).trans W.ws.stk, (f 28 (by decide) (by decide)).trans W.ws.vls, ⟨Nat.lt_of_lt_of_le W.ws.kn.lt E.len, ⟨L, (f 29 (by decide) (by decide)).trans hL, hlk⟩, W.ws.kn.noE⟩, W.ws.small, W.ws.cvs⟩, fun L' h => W.klen L' ((f 29 (by decide) (by decide)).symm.trans h)⟩
structure New (σ σ' : Sto) (st' : Int) (vals : List (Option Cv)) : Prop where
  ms : MS σ' st' 0
  same : ∀ i, i ≠ 0 → i ≠ 29 → i < σ.length → σ'.at i = σ.at i
  len : σ.length ≤ σ'.length
  kn : Kn σ' 29 (lkv vals)
  klen : ∀ L', σ'.at 29 = .sdict L' → L'.length ≤ vals.length
theorem New.ext {σ σ1 σ2 : Sto} {st1 st2 : Int} {vals : List (Option Cv)} (N : New σ σ1 st1 vals) (E : Ext σ1 σ2) (M : MS σ2 st2 0) : New σ σ2 st2 vals := by
  obtain ⟨L, hL, hlk⟩ := N.kn.dict
  exact ⟨M, fun i h0 h29 hi => (E.same i (Nat.lt_of_lt_of_le hi N.len) h0).trans (N.same i h0 h29 hi), Nat.le_trans N.len E.len, ⟨Nat.lt_of_lt_of_le N.kn.lt E.len, ⟨L, (E.same 29 N.kn.lt (by decide)).trans hL, hlk⟩, N.kn.noE⟩, fun L' h => N.klen L' ((E.same 29 N.kn.lt (by decide)).symm.trans h)⟩
theorem WS2.known {σ : Sto} {st : Int} {S : Nat} {ts : List Tr} {vals : List (Option Cv)} {c : Cv} {L : List (Tx × D)} (W : WS2 σ st S ts vals) (hL : σ.at 29 = .sdict L) : New σ (σ.set 29 (.sdict (putA (nmA vals.length) c.d L))) st (vals ++ [some c]) := by
  obtain ⟨L0, hL0, hlk⟩ := W.ws.kn.dict
  rw [hL] at hL0; cases hL0
  refine ⟨W.ws.ms.setAny (by decide), fun i _ hi _ => at_other (Ne.symm hi), Nat.le_of_eq List.length_set.symm, ⟨by rw [List.length_set]; exact W.ws.kn.lt, ⟨_, at_same W.ws.kn.lt, fun y => ?_⟩, lkv_E _⟩, fun L' h => ?_⟩
  · rw [putA_lookup, lkv_app]
    split
    · rfl
    · exact hlk y
  · cases (at_same W.ws.kn.lt).symm.trans h
    rw [putA_len, List.length_append]
    split
    · exact Nat.le_succ_of_le (W.klen L hL)
    · exact Nat.succ_le_succ (W.klen L hL)
theorem WS2.unknown {σ : Sto} {st : Int} {S : Nat} {ts : List Tr} {vals : List (Option Cv)} (W : WS2 σ st S ts vals) : New σ σ st (vals ++ [none]) := by
  obtain ⟨L, hL, hlk⟩ := W.ws.kn.dict
  refine ⟨W.ws.ms, fun _ _ _ _ => rfl, Nat.le_refl _, ⟨W.ws.kn.lt, ⟨L, hL, fun y => ?_⟩, lkv_E _⟩, fun L' h => Nat.le_trans (W.klen L' h) (by rw [List.length_append]; exact Nat.le_add_right _ _)⟩
  rw [lkv_app, hlk]
  split
  · rename_i z; rw [z, lkv_out (Nat.le_refl _)]
  · rfl
theorem run_cv2 {c : Cv} (h : c.Ok) : Run 16 c.node 2 2 c.v := by
  cases c with
  | s y => exact run_str.mono (by decide) (by decide) (by decide)
  | i a => exact run_cv (c := .i a) h
noncomputable def b64 : CS := match c64.code with | .cons (.for4 _ _ _ _ _ b) _ => b | _ => .nil
section
variable {n m : Nat} {k : KV} {x : KX} {S : Nat} {ts : List Tr}
theorem od_want (v : V) : (if v.pu = true then v.pay else D.none) = od (want v) := by
  cases v with
  | num a p => cases p <;> rfl
  | txt a p => cases p <;> rfl
  | _ => rfl
theorem want_cv {v : V} {c : Cv} (h : want v = some c) : v = c.v := by
  cases v with
  | num a p => cases p <;> cases h; rfl
  | txt a p => cases p <;> cases h; rfl
  | _ => cases h
theorem ex_noQ {T : Tab} {C : Calls} {loc : Loc} {σ : Sto} {K : KF} {t : CE} {a r : CS} {Q : Sto → Prop} (H : ∀ k : KV, (∀ σ', Q σ' → k (.bool false) σ') → ev T C loc t .b σ k x) (h : ∀ σ', Q σ' → ex T C r loc σ' K x) : ex T C (.cons (.ite t a .nil) r) loc σ K x := H _ h
theorem dctF {σ : Sto} {n : Nat} {L : List (Tx × D)} {f : List (Tx × D) → Prop} {dd : Decidable (n < σ.length)} (h : n < σ.length) (r : σ.at n = .sdict L) (q : f L) : @Decidable.rec (n < σ.length) (fun _ => Prop) (fun _ => False) (fun _ => moS (σ.at n) f) dd := ckI h (by rw [r]; exact q)
theorem ne_or {σ : Sto} {c : Option Cv} {A B : Prop} (h : B) : cmpP σ .ne (od c) (od c) fun t => Br t A B := ne_self h
theorem ne_prk {σ : Sto} {v : V} {k : KV} (h : k (.bool false) σ) : cmpP σ .ne v.pr v.pr fun t => k (.bool t) σ := ne_pr h
theorem close_one {σ : Sto} {st : Int} {vals : List (Option Cv)} {t : Tr} {g : Option D} {K : KF} (W : WS2 σ st S ts vals) (G : Good vals t) (hst : 0 ≤ st) (h40 : st ≤ 1900) (hsm : ts.length + vals.length ≤ 90) (hm : 100 ≤ m)
    (h : ∀ σ' st' vals' g', WS2 σ' st' S ts vals' → vals'.length = vals.length + 1 → (∀ t', Good vals t' → Good vals' t') → st ≤ st' → st' ≤ st + 40 → K .next [some (.h 26), some t.node, some t.plain, some t.val.d, some (.int (t.hi : Int)), g'] σ') :
    ex tab (wf tab fns m) b64 [some (.h 26), some t.node, some t.plain, some t.val.d, some (.int (t.hi : Int)), g] σ K x := by
  have hv := vok G
  have W0 := W.ws
  have h5 : t.hi ≤ 5 := Nat.le_succ_of_le G.hi
  have hsz : t.sz ≤ 15 := by
    have := sz_hi t
    have : 2 ^ t.hi ≤ 2 ^ 4 := Nat.pow_le_pow_right (by decide) G.hi
    lia
  have hM : 6 * t.sz + 6 ≤ m := Nat.le_trans (Nat.add_le_add_right (Nat.mul_le_mul_left 6 hsz) 6) (Nat.le_trans (by decide) hm)
  refine ex_set (σ' := σ) (v := od (want t.val)) (fun k hk => ?_) ?_
  · rw [← od_want] at hk
    refine br0 (fun e => ?_) fun e => ?_
    · rw [if_pos e] at hk; exact hk
    · rw [if_neg (by rw [e]; exact Bool.false_ne_true)] at hk; exact hk
  -- enum_value and fold_const
  refine ex_no (fun k hk => dctI (d := .h 29) (W0.ms.lt (by decide)) W0.w rfl (s16 W0.kn _ t (Nat.le_refl _) G.ok h5 m _ _ hM (ne_or (c := want t.val) (dctI (d := .h 29) (W0.ms.lt (by decide)) W0.w rfl (s41 W0.kn _ t (Nat.le_refl _) G.ok h5 m _ _ hM (ne_or (c := want t.val) hk)))))) ?_
  -- the machine's run of the plain tree
  refine ex_noQ (Q := fun σ' => ∃ st2, WS2 σ' st2 S ts vals ∧ st ≤ st2 ∧ st2 ≤ st + 30) (fun k hk => dctI (d := .h 0) (W0.ms.lt (by decide)) W0.w rfl (s63 (run_tree G.ok h5) (by lia) W0.ms hst (by lia) (Int.le_refl _) (by lia) fun σ' st' E' M' b1 b2 => ne_prk (v := t.val) (hk σ' ⟨st', W.ext E' M', b1, by lia⟩))) ?_
  rintro s2 ⟨st2, W2, c1, c2⟩
  have W20 := W2.ws
  have part5 : ∀ s3 st3, New s2 s3 st3 (vals ++ [want t.val]) → st2 ≤ st3 → st3 ≤ st2 + 2 → ex tab (wf tab fns m) (CS.drop 4 b64) [some (.h 26), some t.node, some t.plain, some t.val.d, some (.int (t.hi : Int)), some (od (want t.val))] s3 K x := fun s3 st3 N d1 d2 => by
    have f : ∀ i, i < 30 → i ≠ 0 → i ≠ 29 → s3.at i = s2.at i := fun i h1 h0 h29 => N.same i h0 h29 (W20.ms.lt h1)
    have v3 := (f 28 (by decide) (by decide) (by decide)).trans W20.vls
    have hS := W20.Sok
    refine dctI (d := .h 28) (N.ms.lt (by decide)) ((f 26 (by decide) (by decide) (by decide)).trans W20.w) rfl (okApp (N.ms.lt (by decide)) v3 (lstI (N.ms.lt (by decide)) v3 (ckI (show Sz _ from Nat.succ_le_of_lt (Nat.lt_of_le_of_lt (by rw [List.length_map]; exact Nat.le_trans (Nat.le_add_left _ _) hsm) (by decide))) ?_)))
    have oth : ∀ i, i ≠ 28 → Sto.at (s3.set 28 (.list (vals.map od ++ [od (want t.val)]))) i = s3.at i := fun i hi => at_other (Ne.symm hi)
    have at28 : Sto.at (s3.set 28 (.list (vals.map od ++ [od (want t.val)]))) 28 = .list ((vals ++ [want t.val]).map od) := (at_same (N.ms.lt (by decide))).trans (by rw [List.map_append]; rfl)
    obtain ⟨L3, hL3, hlk3⟩ := N.kn.dict
    have nl : (vals ++ [want t.val]).length = vals.length + 1 := List.length_append
    refine h _ st3 (vals ++ [want t.val]) _ ⟨⟨N.ms.setAny (by decide), (oth 1 (by decide)).trans ((f 1 (by decide) (by decide) (by decide)).trans W20.r1), (oth 2 (by decide)).trans ((f 2 (by decide) (by decide) (by decide)).trans W20.r2), (oth 7 (by decide)).trans ((f 7 (by decide) (by decide) (by decide)).trans W20.r7),
      (oth 26 (by decide)).trans ((f 26 (by decide) (by decide) (by decide)).trans W20.w), ⟨hS.1, by rw [List.length_set]; exact Nat.lt_of_lt_of_le hS.2.1 N.len, hS.2.2⟩, (oth S hS.2.2.1).trans ((N.same S (Nat.ne_of_gt (Nat.lt_of_lt_of_le (by decide) hS.1)) hS.2.2.2 hS.2.1).trans W20.stk), at28,
      ⟨by rw [List.length_set]; exact N.kn.lt, ⟨L3, (oth 29 (by decide)).trans hL3, hlk3⟩, N.kn.noE⟩, by rw [nl]; lia, fun c hc => ?_⟩, fun L' hL' => N.klen L' ((oth 29 (by decide)).symm.trans hL')⟩ nl (fun t' G' => G'.mono) (Int.le_trans c1 d1) (by lia)
    rcases List.mem_append.mp hc with hc | hc
    · exact W20.cvs c hc
    · have hc : want t.val = some c := (List.mem_singleton.mp hc).symm
      refine ⟨want_ok G.ok h5 c hc, fun y e d hd => ?_⟩
      subst e
      rw [want_cv hc] at hv
      exact hv.1 d hd
  cases ew : want t.val with
  | none =>
    rw [ew] at part5
    exact part5 s2 st2 W2.unknown (Int.le_refl _) (Int.le_add_of_nonneg_right (by decide))
  | some c =>
    rw [ew] at part5
    obtain ⟨L, hL, _⟩ := W20.kn.dict
    have N := W2.known (c := c) hL
    have hvl : (vals.map od).length = vals.length := List.length_map _
    have hmA : (65 :: intTx ((vals.map od).length : Int)) = nmA vals.length := by rw [hvl]; rfl
    have tp : Tp ((vals.map od).length : Int) := by rw [hvl]; show vals.length ≤ 9007199254740991; lia
    have part : ∀ K' : KF, (∀ s3 st3, New s2 s3 st3 (vals ++ [some c]) → st2 ≤ st3 → st3 ≤ st2 + 2 → K' .next [some (.h 26), some t.node, some t.plain, some t.val.d, some (.int (t.hi : Int)), some c.d] s3) →
        ex tab (wf tab fns m) (match CS.drop 3 b64 with | .cons (.ite _ a _) _ => a | _ => .nil) [some (.h 26), some t.node, some t.plain, some t.val.d, some (.int (t.hi : Int)), some c.d] s2 K' x := fun K' h' => by
      refine ex_step (loc' := [some (.h 26), some t.node, some t.plain, some t.val.d, some (.int (t.hi : Int)), some c.d]) (σ' := s2.set 29 (.sdict (putA (nmA vals.length) c.d L))) (fun K'' hk => ?_) ?_
      · rw [← hmA] at hk
        exact dctI (d := .h 29) (W20.ms.lt (by decide)) W20.w rfl (W20.vh (W20.vl (ckI W20.szv (ckI tp.B (ckI (show Sz (1 + _) from Nat.le_trans (Nat.add_le_add_left (intTx_len tp) 1) (by decide)) (dctF W20.kn.lt hL (ckI (show Sz _ from Nat.le_trans (Nat.succ_le_succ (W2.klen L hL)) (by lia)) hk)))))))
      · generalize s2.set 29 (.sdict (putA (nmA vals.length) c.d L)) = s4 at N
        refine ex_noQ (Q := fun s3 => ∃ st3, New s2 s3 st3 (vals ++ [some c]) ∧ st2 ≤ st3 ∧ st3 ≤ st2 + 2) (fun k hk => dctI (d := .h 0) (N.ms.lt (by decide)) ((N.same 26 (by decide) (by decide) (W20.ms.lt (by decide))).trans W20.w) rfl (s39 (Nat.le_trans (by decide) hm) (s63 (run_cv2 (want_ok G.ok h5 c ew)) (Nat.le_trans (by decide) hm) N.ms (Int.le_trans hst c1) (by lia) (Int.le_refl _) (by decide) fun σ' st' E' M' b1 b2 => ?_))) fun s3 ⟨st3, N3, d1, d2⟩ => h' s3 st3 N3 d1 d2
        have hk := hk σ' ⟨st', N.ext E' M', b1, b2⟩
        rw [want_cv ew]
        exact ne_prk (v := c.v) hk
    cases c with
    | i a => exact part _ part5
    | s y => exact part _ part5
end
end
section
noncomputable def Inv (σ : Sto) (N : Nat) : Prop := ∃ st S ts vals, WS2 σ st S ts vals ∧ (∀ t ∈ ts, Good vals t) ∧ 0 ≤ st ∧ st ≤ 40 * (vals.length : Int) ∧ ts.length + vals.length ≤ N
noncomputable def InvE (σ : Sto) (N : Nat) : Prop := ∃ st S vals, WS2 σ st S [] vals ∧ 0 ≤ st ∧ st ≤ 40 * (vals.length : Int) ∧ vals.length ≤ N
section
variable {n m : Nat} {k : KV} {x : KX} {σ : Sto} {st : Int} {S : Nat} {ts : List Tr} {vals : List (Option Cv)}
theorem ne_S {i S : Nat} (h : 27 ≤ S) (e : Nat.ble i 26 = true) : S ≠ i := Nat.ne_of_gt (Nat.lt_of_le_of_lt (Nat.le_of_ble_eq_true e) h)
theorem WS2.push {ts' : List Tr} (W : WS2 σ st S ts vals) (hs : ts'.length + vals.length ≤ 100) : WS2 (σ.set S (.list (ts'.map ent))) st S ts' vals := by
  have hS := W.ws.Sok
  have oth : ∀ i, S ≠ i → Sto.at (σ.set S (.list (ts'.map ent))) i = σ.at i := fun i hi => at_other hi
  obtain ⟨L, hL, hlk⟩ := W.ws.kn.dict
  exact ⟨⟨W.ws.ms.setAny (Nat.le_of_succ_le hS.1), (oth 1 (ne_S hS.1 rfl)).trans W.ws.r1, (oth 2 (ne_S hS.1 rfl)).trans W.ws.r2, (oth 7 (ne_S hS.1 rfl)).trans W.ws.r7, (oth 26 (ne_S hS.1 rfl)).trans W.ws.w, ⟨hS.1, by rw [List.length_set]; exact hS.2.1, hS.2.2⟩, at_same hS.2.1,
    (oth 28 hS.2.2.1).trans W.ws.vls, ⟨by rw [List.length_set]; exact W.ws.kn.lt, ⟨L, (oth 29 hS.2.2.2).trans hL, hlk⟩, W.ws.kn.noE⟩, hs, W.ws.cvs⟩, fun L' h => W.klen L' ((oth 29 hS.2.2.2).symm.trans h)⟩
theorem WS2.swap {ts' : List Tr} (W : WS2 σ st S ts vals) (hs : ts'.length + vals.length ≤ 100) :
    WS2 ((σ ++ [MO.list (ts'.map ent)]).set 26 (.sdict [([109], .h 0), ([115, 116, 97, 99, 107], .h σ.length), ([118, 97, 108, 117, 101, 115], .h 28), ([107, 110, 111, 119, 110], .h 29)])) st σ.length ts' vals := by
  have h30 := W.ws.ms.len
  generalize hmo : (MO.sdict [([109], .h 0), ([115, 116, 97, 99, 107], .h σ.length), ([118, 97, 108, 117, 101, 115], .h 28), ([107, 110, 111, 119, 110], .h 29)]) = mo
  have oth : ∀ i, 26 ≠ i → i < σ.length → Sto.at ((σ ++ [MO.list (ts'.map ent)]).set 26 mo) i = σ.at i := fun i hi hl => (at_other hi).trans (at_app hl)
  have lt := fun i (h : i < 30) => W.ws.ms.lt h
  have h26 : 26 < (σ ++ [MO.list (ts'.map ent)]).length := Nat.lt_of_lt_of_le (lt 26 (by decide)) app_le'
  have hne : ∀ i, i < 30 → σ.length ≠ i := fun i h => Nat.ne_of_gt (lt i h)
  obtain ⟨L, hL, hlk⟩ := W.ws.kn.dict
  exact ⟨⟨(W.ws.ms.app _).setAny (Nat.le_refl _), (oth 1 (by decide) (lt 1 (by decide))).trans W.ws.r1, (oth 2 (by decide) (lt 2 (by decide))).trans W.ws.r2, (oth 7 (by decide) (lt 7 (by decide))).trans W.ws.r7, by rw [hmo]; exact at_same h26,
    ⟨Nat.le_trans (by decide) h30, by rw [List.length_set]; exact lt_new, hne 28 (by decide), hne 29 (by decide)⟩, (at_other (hne 26 (by decide)).symm).trans at_new,
    (oth 28 (by decide) (lt 28 (by decide))).trans W.ws.vls, ⟨by rw [List.length_set]; exact Nat.lt_of_lt_of_le W.ws.kn.lt app_le', ⟨L, (oth 29 (by decide) W.ws.kn.lt).trans hL, hlk⟩, W.ws.kn.noE⟩, hs, W.ws.cvs⟩, fun L' h => W.klen L' ((oth 29 (by decide) W.ws.kn.lt).symm.trans h)⟩
theorem loop64 {K : KF} (hm : 100 ≤ m) {rs : List Tr} : ∀ (vals : List (Option Cv)) (σ : Sto) (st : Int) (g1 g2 g3 g4 g5 : Option D), WS2 σ st S ts vals → (∀ t ∈ rs, Good vals t) → 0 ≤ st → st ≤ 40 * (vals.length : Int) → vals.length + rs.length ≤ 45 → ts.length ≤ 45 →
    (∀ σ' st' vals' g1 g2 g3 g4 g5, WS2 σ' st' S ts vals' → vals'.length = vals.length + rs.length → 0 ≤ st' → st' ≤ 40 * (vals'.length : Int) → K .next [some (.h 26), g1, g2, g3, g4, g5] σ') →
    fo (fun σ₂ => S < σ₂.length ∧ σ₂.at S = .list (ts.map ent)) (set4 1 2 3 4 (ex tab (wf tab fns m) b64)) (rs.map ent) [some (.h 26), g1, g2, g3, g4, g5] σ K x := by
  induction rs with
  | nil => exact fun vals σ st g1 g2 g3 g4 g5 W hG h0 h1 h2 h3 h => ⟨⟨W.ws.Sok.2.1, W.ws.stk⟩, h σ st vals _ _ _ _ _ W rfl h0 h1⟩
  | cons t rs ih =>
    intro vals σ st g1 g2 g3 g4 g5 W hG h0 h1 h2 h3 h
    have h2 : vals.length + (rs.length + 1) ≤ 45 := h2
    refine ⟨⟨W.ws.Sok.2.1, W.ws.stk⟩, close_one (g := g5) W (hG t (.head _)) h0 (by lia) (by lia) hm fun σ' st' vals' g' W' hl hmono b1 b2 => ?_⟩
    exact ih vals' σ' st' _ _ _ _ _ W' (fun t' ht => hmono t' (hG t' (.tail _ ht))) (Int.le_trans h0 b1) (by lia) (by lia) h3 fun σ2 st2 vals2 g1 g2 g3 g4 g5 W2 hl2 a1 a2 =>
      h σ2 st2 vals2 _ _ _ _ _ W2 (by rw [hl2, hl, Nat.add_assoc, Nat.add_comm 1]; rfl) a1 a2
theorem s64 {N : Nat} (I : Inv σ N) (hN : N ≤ 42) (hn : 101 ≤ n) (h : ∀ σ', InvE σ' N → k (.bool true) σ') : wf tab fns n 64 [.h 26] σ k x := by
  obtain ⟨st, S, ts, vals, W, hG, h0, h1, h2⟩ := I
  refine wf_go (N := 100) hn (F := c64) rfl rfl fun m hm => ?_
  have hts : ts.length ≤ 42 := Nat.le_trans (Nat.le_trans (Nat.le_add_right _ _) h2) hN
  refine dctI (d := .h S) (W.ws.ms.lt (by decide)) W.ws.w rfl (lstI W.ws.Sok.2.1 W.ws.stk (ckI (show Sz _ by rw [List.length_map]; exact Nat.le_trans hts (by decide)) ?_))
  refine loop64 hm vals σ st none none none none none W hG h0 h1 (by lia) (by lia) fun σ' st' vals' g1 g2 g3 g4 g5 W' hl a1 a2 => ?_
  have hv : vals'.length ≤ N := by rw [hl, Nat.add_comm]; exact h2
  have h26 := W'.ws.ms.lt (i := 26) (by decide)
  refine ckI (Nat.lt_of_lt_of_le h26 app_le') ?_
  rw [at_app h26, W'.ws.w]
  exact h _ (⟨st', σ'.length, vals', W'.swap (ts' := []) (by show 0 + vals'.length ≤ 100; lia), a1, a2, hv⟩)
end
end
section
theorem one_of {α : Type} {l : List α} (h : l.length = 1) : ∃ a, l = [a] := List.length_eq_one_iff.mp h
theorem two_of {α : Type} {l : List α} (h : l.length = 2) : ∃ a b, l = [a, b] := by
  cases l with
  | nil => cases h
  | cons a l => obtain ⟨b, rfl⟩ := one_of (Nat.succ.inj h); exact ⟨a, b, rfl⟩
theorem subs3 (l : List Tr) : subsL 3 (l.map ent) = some (l.map fun t => .int (t.hi : Int)) := by
  induction l with
  | nil => rfl
  | cons t l ih => exact congrArg (Option.map (D.int (t.hi : Int) :: ·)) ih
theorem ex_ife {T : Tab} {C : Calls} {loc : Loc} {σ : Sto} {K : KF} {x : KX} {t : CE} {a b r : CS} {P : Prop} (H : ∀ k : KV, (P → k (.bool true) σ) → (¬ P → k (.bool false) σ) → ev T C loc t .b σ k x)
    (h1 : P → ex T C a loc σ (sqF (fun l s => ex T C r l s K x) K) x) (h2 : ¬ P → ex T C b loc σ (sqF (fun l s => ex T C r l s K x) K) x) : ex T C (.cons (.ite t a b) r) loc σ K x := H _ h1 h2
theorem ex_setQ {T : Tab} {C : Calls} {loc : Loc} {σ : Sto} {K : KF} {x : KX} {e : CE} {r : CS} {i : Nat} {Q : D → Prop} (H : ∀ k : KV, (∀ v, Q v → k v σ) → ev T C loc e .v σ k x) (h : ∀ v, Q v → ex T C r (loc.set i (some v)) σ K x) : ex T C (.cons (.asg i e) r) loc σ K x := H _ h
theorem clampN {n c : Nat} (h : 0 < c) : clampI n (-(c : Int)) = n - c := by
  unfold clampI
  rw [if_pos (Int.neg_neg_of_pos (Int.ofNat_lt.mpr h)), Int.add_comm]
  exact Int.toNat_sub n c
section
variable {n m : Nat} {k : KV} {x : KX} {σ : Sto} {st : Int} {S : Nat} {ts : List Tr} {vals : List (Option Cv)}
theorem WS.sh (W : WS σ st S ts vals) {f : D → Prop} {dd : Decidable (26 < σ.length)} (h : f (.h S)) : @Decidable.rec (26 < σ.length) (fun _ => Prop) (fun _ => False) (fun _ => moS (σ.at 26) fun l => onO (l.lookup [115, 116, 97, 99, 107]) f) dd := dctI (d := .h S) (W.ms.lt (by decide)) W.w rfl h
theorem WS.sl (W : WS σ st S ts vals) {f : List D → Prop} {dd : Decidable (S < σ.length)} (h : f (ts.map ent)) : @Decidable.rec (S < σ.length) (fun _ => Prop) (fun _ => False) (fun _ => moL (σ.at S) f) dd := lstI W.Sok.2.1 W.stk h
theorem good_snoc {t : Tr} {l : List Tr} (hG : ∀ t ∈ l, Good vals t) (g : Good vals t) : ∀ t' ∈ l ++ [t], Good vals t' := fun t' ht => (List.mem_append.mp ht).elim (hG t') fun z => by rw [List.mem_singleton.mp z]; exact g
theorem WS2.leaf {N : Nat} {t : Tr} (W : WS2 σ st S ts vals) (hG : ∀ t ∈ ts, Good vals t) (h0 : 0 ≤ st) (h1 : st ≤ 40 * (vals.length : Int)) (h2 : ts.length + vals.length ≤ N) (hN : N ≤ 41) (g : Good vals t) : Inv (σ.set S (.list (ts.map ent ++ [ent t]))) (N + 1) := by
  have e : (ts ++ [t]).length = ts.length + 1 := List.length_append
  have := W.push (ts' := ts ++ [t]) (by rw [e]; lia)
  rw [List.map_append] at this
  exact ⟨st, S, ts ++ [t], vals, this, good_snoc hG g, h0, h1, by rw [e]; lia⟩
theorem s65 {N : Nat} {a : Int} (I : Inv σ N) (hN : N ≤ 41) (ha : 0 ≤ a) (hn : 102 ≤ n) (h : ∀ σ', Inv σ' (N + 1) → k (.bool true) σ') : wf tab fns n 65 [.h 26, .int a] σ k x := by
  have I0 := I
  obtain ⟨st, S, ts, vals, W, hG, h0, h1, h2⟩ := I
  have W0 := W.ws
  refine wf_go (N := 101) hn (F := c65) rfl rfl fun m hm => ?_
  have hS := W0.Sok
  have hq : 0 ≤ a.fdiv 16 := Int.fdiv_nonneg ha (by decide)
  have hw0 : 0 ≤ a.fmod 16 := Int.fmod_nonneg_of_pos _ (by decide)
  have hw16 : a.fmod 16 < 16 := Int.fmod_lt_of_pos _ (by decide)
  refine ex_set (σ' := σ) (v := .int (a.fmod 16)) (fun k hk => hk) (ex_set (σ' := σ) (v := .int (a.fdiv 16)) (fun k hk => hk) ?_)
  generalize a.fdiv 16 = q at hq
  generalize a.fmod 16 = how at hw0 hw16
  refine ex_ifb (P := how = 15) beq_iff_eq (fun k hk => hk) (fun _ => s64 I0 (Nat.le_succ_of_le hN) hm fun σ' ⟨st', S', vals', W', b0, b1, b2⟩ => h σ' ⟨st', S', [], vals', W', fun t ht => (nomatch ht), b0, b1, by show 0 + vals'.length ≤ N + 1; lia⟩) fun h15 => ?_
  refine ex_setQ (Q := fun v => ∃ c : Nat, v = .int (c : Int) ∧ (c = 1 ∨ c = 2) ∧ (c = 1 → how ≤ 8) ∧ (c = 2 → 8 ≤ how)) (fun k hk => ?_) ?_
  · exact brd (fun z => hk _ ⟨2, rfl, .inr rfl, fun z => (nomatch z), fun _ => Int.le_of_lt z⟩) fun z => bri (fun z2 => bri (fun _ => hk _ ⟨2, rfl, .inr rfl, fun z => (nomatch z), fun _ => Int.le_of_eq z2.symm⟩) fun _ => hk _ ⟨1, rfl, .inl rfl, fun _ => Int.not_lt.mp z, fun z => (nomatch z)⟩) fun _ => hk _ ⟨1, rfl, .inl rfl, fun _ => Int.not_lt.mp z, fun z => (nomatch z)⟩
  rintro _ ⟨c, rfl, hc, hc1, hc2⟩
  have c0 : 0 < c := hc.elim (fun z => by rw [z]; decide) fun z => by rw [z]; decide
  have hml : (ts.map ent).length = ts.length := List.length_map _
  have hts : ts.length ≤ 41 := Nat.le_trans (Nat.le_trans (Nat.le_add_right _ _) h2) hN
  have szs : Sz (ts.map ent).length := by rw [hml]; exact Nat.le_trans hts (by decide)
  have cut1 : cutL (ts.map ent) (clampI (ts.map ent).length (-(c : Int))) (ts.map ent).length = (ts.drop (ts.length - c)).map ent := by
    rw [clampN c0]; unfold cutL; rw [List.take_length, List.map_drop, hml]
  have cut2 : cutL (ts.map ent) 0 (clampI (ts.map ent).length (-(c : Int))) = (ts.take (ts.length - c)).map ent := by
    rw [clampN c0, hml]; unfold cutL; rw [List.drop_zero, List.map_take]
  have hkl : (ts.drop (ts.length - c)).length ≤ c := by rw [List.length_drop]; exact Nat.sub_le_iff_le_add.mpr (Nat.sub_le_iff_le_add'.mp (Nat.le_refl _))
  have hkg : ∀ t ∈ ts.drop (ts.length - c), Good vals t := fun t ht => hG t (List.mem_of_mem_drop ht)
  refine ex_set (σ' := σ) (v := .lst ((ts.drop (ts.length - c)).map ent)) (fun k hk => W0.sh (W0.sl (ckI szs (by show k (.lst (cutL _ _ _)) σ; rw [cut1]; exact hk)))) ?_
  generalize ts.drop (ts.length - c) = ks at hkl hkg
  have hkm : (ks.map ent).length = ks.length := List.length_map _
  have c2 : c ≤ 2 := hc.elim (fun z => by rw [z]; decide) fun z => by rw [z]; decide
  have szk : Sz (ks.map ent).length := by rw [hkm]; exact Nat.le_trans (Nat.le_trans hkl c2) (by decide)
  refine ex_ife (P := how < 6 ∨ ks.length < c ∨ ∃ t ∈ ks, 3 < t.hi) (fun k h1 h2 => ?_) (fun _ => ?_) fun hP => ?_
  · refine brd (fun z => h1 (.inl z)) fun z6 => ckI szk (brd (fun z => h1 (.inr (.inl (hkm ▸ Int.ofNat_lt.mp z)))) fun zl => ckI szk (onO_i (subs3 ks) ?_))
    have hkc : ks.length = c := Nat.le_antisymm hkl (Nat.not_lt.mp fun y => zl (Int.ofNat_lt.mpr (hkm.symm ▸ y)))
    rcases hc with rfl | rfl
    · obtain ⟨t, rfl⟩ := one_of hkc
      exact brd (fun z => h1 (.inr (.inr ⟨t, .head _, Int.ofNat_lt.mp z⟩))) fun z => h2 fun y => y.elim z6 fun y => y.elim (fun y => Nat.lt_irrefl _ y) fun ⟨t', ht, y⟩ => by rw [List.mem_singleton.mp ht] at y; exact z (Int.ofNat_lt.mpr y)
    · obtain ⟨t, u, rfl⟩ := two_of hkc
      refine brd (fun z => h1 (.inr (.inr ?_))) fun z => h2 fun y => y.elim z6 fun y => y.elim (fun y => Nat.lt_irrefl _ y) fun ⟨t', ht, y⟩ => ?_
      · rw [maxI] at z
        by_cases y : 3 < t.hi
        · exact ⟨t, .head _, y⟩
        · exact ⟨u, .tail _ (.head _), Nat.not_le.mp fun w => absurd (Int.ofNat_lt.mp z) (Nat.not_lt.mpr (Nat.max_le.mpr ⟨Nat.not_lt.mp y, w⟩))⟩
      · rw [maxI] at z
        refine z (Int.ofNat_lt.mpr (Nat.lt_of_lt_of_le y ?_))
        rcases List.mem_cons.mp ht with w | w
        · rw [w]; exact Nat.le_max_left _ _
        · rw [List.mem_singleton.mp w]; exact Nat.le_max_right _ _
  · -- a leaf is laid on the stack
    have szl : Sz ((ts.map ent).length + 1) := by rw [hml]; exact Nat.le_trans (Nat.succ_le_succ hts) (by decide)
    have L : ∀ hw, ∀ kk : KV, (∀ t, Good vals t → kk (ent t) σ) → wf tab fns m 60 [.h 26, .int hw, .int q] σ kk x := fun hw kk hk => s60 W0 hq (Nat.le_trans (by decide) hm) fun t g _ => hk t g
    have fin : ∀ t, Good vals t → k (.bool true) (σ.set S (.list (ts.map ent ++ [ent t]))) := fun t g => h _ (W.leaf hG h0 h1 h2 hN g)
    exact W0.sh (okApp hS.2.1 W0.stk (brd (fun _ => L _ _ fun t g => W0.sl (ckI szl (fin t g))) fun _ => L _ _ fun t g => W0.sl (ckI szl (fin t g))))
  · -- a twig takes the kids' place
    have hkc : ks.length = c := Nat.le_antisymm hkl (Nat.not_lt.mp fun y => hP (.inr (.inl y)))
    have h3 : ∀ t ∈ ks, t.hi ≤ 3 := fun t ht => Nat.not_lt.mp fun y => hP (.inr (.inr ⟨t, ht, y⟩))
    have h6 : 6 ≤ how := Int.not_lt.mp fun y => hP (.inl y)
    have grow : ∀ k' : KV, (∀ t', Good vals t' → k' (ent t') σ) → wf tab fns m 62 [.int how, .int q, .lst (ks.map ent)] σ k' x := fun k' hk' => by
      rcases hc with rfl | rfl
      · obtain ⟨t, rfl⟩ := one_of hkc
        exact s62a (hkg t (.head _)) (h3 t (.head _)) hq (by have := hc1 rfl; lia) (Nat.le_trans (by decide) hm) hk'
      · obtain ⟨t, u, rfl⟩ := two_of hkc
        exact s62b (hkg t (.head _)) (hkg u (.tail _ (.head _))) (h3 t (.head _)) (h3 u (.tail _ (.head _))) hq (hc2 rfl) (Nat.le_trans (by decide) hm) hk'
    have tl : (ts.take (ts.length - c)).length ≤ ts.length := List.length_take_le' _ _
    have lt26 := W0.ms.lt (i := 26) (by decide)
    refine W0.sh (W0.sl (ckI szs (grow _ fun t' g' => ckI (show Sz ((cutL (ts.map ent) 0 (clampI (ts.map ent).length (-(c : Int)))).length + 1) by rw [cut2, List.length_map]; exact Nat.le_trans (Nat.succ_le_succ (Nat.le_trans tl hts)) (by decide)) (dctF (Nat.lt_of_lt_of_le lt26 app_le') ((at_app lt26).trans W0.w) ?_))))
    have e : (ts.take (ts.length - c) ++ [t']).length = (ts.take (ts.length - c)).length + 1 := List.length_append
    have fin := h _ ⟨st, σ.length, ts.take (ts.length - c) ++ [t'], vals, W.swap (ts' := ts.take (ts.length - c) ++ [t']) (by rw [e]; lia), good_snoc (fun t ht => hG t (List.mem_of_mem_take ht)) g', h0, h1, by rw [e]; lia⟩
    rw [List.map_append, ← cut2] at fin
    exact fin
end
end
section
theorem mods (a : Int) (l : List Int) : modsL a (l.map .int) = some ((l.map fun n => n.fmod a).map .int) := by
  induction l with
  | nil => rfl
  | cons n l ih => exact congrArg (Option.map (D.int (n.fmod a) :: ·)) ih
section
variable {n m : Nat} {k : KV} {x : KX} {σ : Sto}
noncomputable def mB (st dp : Int) : List (Nat × D) := [(6, .h 1), (7, .h 4), (8, .h 5), (9, .int st), (10, .int 2000), (11, .int dp), (12, .int 44), (13, .h 6), (14, .none), (15, .none), (16, .tup [.int 0, .int 0]), (17, .int (-1)), (18, .h 7), (19, .h 8), (20, .h 9), (21, .h 10), (22, .h 11), (23, .h 12), (24, .h 13), (25, .none)]
noncomputable def σ0 (l : List (Nat × D)) : Sto := [.inst 1 l, .inst 0 [(26, .h 2), (27, .h 3)], .list [], .sdict [], .idict [], .idict [], .list [], .list [], .inst 2 [], .sdict [], .sdict [], .inst 3 [], .inst 4 [], .inst 5 []]
noncomputable def σ1 : Sto := σ0 (mB 0 0)
set_option maxHeartbeats 4000000 in
theorem s68 (hn : 3 ≤ n) (h : k .none σ1) : wf tab fns n 68 [.h 0, .int 2000] [.inst 1 []] k x := by
  refine wf_go (N := 2) hn (F := c68) rfl rfl fun m hm => ?_
  refine wf_go (N := 1) hm (F := c67) rfl rfl fun m' hm' => ?_
  exact wf_go (N := 1) hm (F := c17) rfl rfl fun m' hm' => h
noncomputable def σA (e : List (Int × D)) : Sto := σ0 (mA 0 0) ++ [.idict ((1, .h 15) :: (2, .h 16) :: (3, .h 17) :: (33, .h 18) :: e), .inst 6 [], .inst 7 [], .inst 8 [], .inst 9 []]
noncomputable def σ2 : Sto := σA []
noncomputable def σ2a : Sto := σA [(23, .h 19)] ++ [.inst 10 [(28, .h 20)], .sdict []]
noncomputable def σ2b : Sto := σA [(23, .h 19), (21, .h 21)] ++ [.inst 10 [(28, .h 20)], .sdict [], .inst 11 [(28, .h 22)], .sdict []]
noncomputable def σB (a b : List (Tx × D)) : Sto := σA [(23, .h 19), (21, .h 21)] ++ [.inst 10 [(28, .h 20)], .sdict a, .inst 11 [(28, .h 22)], .sdict b, .inst 12 [], .inst 13 [], .inst 14 []]
noncomputable def σ5 : Sto := σB opL unL ++ [.sdict [([109], .h 0), ([115, 116, 97, 99, 107], .h 27), ([118, 97, 108, 117, 101, 115], .h 28), ([107, 110, 111, 119, 110], .h 29)], .list [], .list [], .sdict []]
theorem rest5 : Rest σ5 := fun i mo h => by
  have e : σ5[14 + i]? = some mo := by
    rw [← List.getElem?_drop, show σ5.drop 14 = restL ++ σ5.drop 26 from rfl, List.getElem?_append_left (List.getElem?_eq_some_iff.mp h).1]; exact h
  unfold Sto.at
  rw [List.getD_eq_getElem?_getD, Nat.add_comm, e]; rfl
theorem inv0 : Inv σ5 0 :=
  ⟨0, 27, [], [], ⟨⟨⟨by decide, rfl, rest5⟩, rfl, rfl, rfl, rfl, ⟨by decide, by decide, by decide, by decide⟩, rfl, rfl, ⟨by decide, ⟨[], rfl, fun y => rfl⟩, rfl⟩, by decide, (fun c hc => nomatch hc)⟩, fun L h => by cases h; exact Nat.le_refl _⟩, (fun t ht => nomatch ht), by decide, by decide, by decide⟩
noncomputable def locM (d e : D) (g3 g4 g5 g6 g7 g8 : Option D) : Loc := [some d, some e, some (.h 0), g3, g4, g5, g6, g7, g8]
theorem law_make {K : KF} {d e : D} (hm : 4 ≤ m) (h : ex tab (wf tab fns m) (c66.code.drop 14) (locM d e (some (.h 23)) (some (.h 24)) (some (.h 25)) (some (.str [126])) (some (.h 26)) none) σ5 K x) :
    ex tab (wf tab fns m) (c66.code.drop 3) [some d, some e, none, none, none, none, none, none, none] [] K x := by
  refine ex_set (v := .h 0) (σ' := σ1) (fun k hk => s68 (le_of hm rfl) hk) ?_
  refine ex_step (loc' := locM d e none none none none none none) (σ' := σ2) (fun K' hk => hk) ?_
  refine ex_step (loc' := locM d e none none none none none none) (σ' := σ2a) (fun K' hk => wf_go (N := 2) (le_of hm rfl) (F := c74) rfl rfl fun m' hm' => hk) ?_
  refine ex_step (loc' := locM d e none none none none none none) (σ' := σ2b) (fun K' hk => wf_go (N := 2) (le_of hm rfl) (F := c77) rfl rfl fun m' hm' => hk) ?_
  refine ex_step (loc' := locM d e (some (.h 23)) none none none none none) (σ' := σ2b ++ [MO.inst 12 []]) (fun K' hk => hk) ?_
  refine ex_step (loc' := locM d e (some (.h 23)) (some (.h 24)) none none none none) (σ' := σ2b ++ [MO.inst 12 [], MO.inst 13 []]) (fun K' hk => hk) ?_
  refine ex_step (loc' := locM d e (some (.h 23)) (some (.h 24)) (some (.h 25)) none none none) (σ' := σB [] []) (fun K' hk => hk) ?_
  refine ex_step (loc' := locM d e (some (.h 23)) (some (.h 24)) (some (.h 25)) (some (.str [42, 42])) none none) (σ' := σB (opL.take 6) []) (fun K' hk => ⟨trivial, trivial, trivial, trivial, trivial, trivial, trivial, hk⟩) ?_
  refine ex_step (loc' := locM d e (some (.h 23)) (some (.h 24)) (some (.h 25)) (some (.str [94])) none none) (σ' := σB opL []) (fun K' hk => ⟨trivial, trivial, trivial, trivial, hk⟩) ?_
  refine ex_step (loc' := locM d e (some (.h 23)) (some (.h 24)) (some (.h 25)) (some (.str [126])) none none) (σ' := σB opL unL) (fun K' hk => ⟨trivial, trivial, trivial, trivial, hk⟩) ?_
  exact ex_step (loc' := locM d e (some (.h 23)) (some (.h 24)) (some (.h 25)) (some (.str [126])) (some (.h 26)) none) (σ' := σ5) (fun K' hk => hk) h
theorem loop66 {K : KF} {d e : D} {g3 g4 g5 g6 : Option D} (hm : 102 ≤ m) {l : List Int} : ∀ (N : Nat) (σ : Sto) (g8 : Option D), Inv σ N → (∀ a ∈ l, 0 ≤ a) → N + l.length ≤ 41 →
    (∀ σ' g8, Inv σ' (N + l.length) → K .next (locM d e g3 g4 g5 g6 (some (.h 26)) g8) σ') →
    fo (fun _ => True) (setL 8 (ex tab (wf tab fns m) (.cons (.ite (.not (.call 65 (.cons (.loc 7) (.cons (.loc 8) .nil)))) (.cons (.ret (.lit (.bool false))) .nil) .nil) .nil))) (l.map .int) (locM d e g3 g4 g5 g6 (some (.h 26)) g8) σ K x := by
  induction l with
  | nil => exact fun N σ g8 I _ _ h => ⟨trivial, h σ g8 I⟩
  | cons a l ih =>
    intro N σ g8 I ha hN h
    have hN : N + (l.length + 1) ≤ 41 := hN
    have e : N + (l.length + 1) = N + 1 + l.length := by rw [Nat.add_comm l.length, Nat.add_assoc]
    refine ⟨trivial, s65 I (Nat.le_trans (Nat.le_add_right _ _) hN) (ha a (.head _)) hm fun σ' I' => ?_⟩
    exact ih (N + 1) σ' _ I' (fun b hb => ha b (.tail _ hb)) (e ▸ hN) fun σ2 g8 I2 => h σ2 g8 (show Inv σ2 (N + (l.length + 1)) from e ▸ I2)
theorem s66 {ns : List Int} (hn : 110 ≤ n) (hns : ns.length ≤ 63) (h : ∀ σ', k (.bool true) σ') : wf tab fns n 66 [.lst (ns.map .int)] [] k x := by
  refine wf_go (N := 109) hn (F := c66) rfl rfl fun m hm => ?_
  have hml : ∀ l : List Int, (l.map D.int).length = l.length := fun l => List.length_map _
  have sz : ∀ l : List Int, l.length ≤ 1000 → Sz (l.map D.int).length := fun l hl => by rw [hml]; exact Nat.le_trans hl (by decide)
  have cl : clampI (ns.map D.int).length 40 = min 40 ns.length := by rw [hml]; rfl
  have hsc : cutL (ns.map D.int) 0 (clampI (ns.map D.int).length 40) = (ns.take (min 40 ns.length)).map .int := by rw [cl]; unfold cutL; rw [List.drop_zero, List.map_take]
  have hl40 : (ns.take (min 40 ns.length)).length ≤ 40 := by rw [List.length_take]; exact Nat.le_trans (Nat.min_le_left _ _) (Nat.min_le_left _ _)
  refine ex_set (σ' := []) (v := .lst ((ns.take (min 40 ns.length)).map .int)) (fun k hk => ckI (sz ns (Nat.le_trans hns (by decide))) (by show k (.lst (cutL _ _ _)) []; rw [hsc]; exact hk)) ?_
  generalize ns.take (min 40 ns.length) = sc at hl40
  refine ex_set (σ' := []) (v := .lst ((sc.map fun n => n.fmod 1048576).map .int)) (fun k hk => ckI (sz sc (Nat.le_trans hl40 (by decide))) (onO_i (mods 1048576 sc) hk)) ?_
  have hp : ∀ a ∈ sc.map fun n => n.fmod 1048576, 0 ≤ a := fun a ha => by obtain ⟨b, _, rfl⟩ := List.mem_map.mp ha; exact Int.fmod_nonneg_of_pos _ (by decide)
  have hl : (sc.map fun n => n.fmod 1048576).length ≤ 40 := by rw [List.length_map]; exact hl40
  generalize (sc.map fun n => n.fmod 1048576) = l1 at hp hl
  have hcl : clampI 4 ((l1.map D.int).length : Int) = min l1.length 4 := by rw [hml]; unfold clampI; rw [if_neg (Int.not_lt.mpr (Int.natCast_nonneg _))]; rfl
  have hcm : cutL [D.int 16, D.int 6, D.int 48, D.int 89] (clampI 4 ((l1.map D.int).length : Int)) 4 = (([16, 6, 48, 89] : List Int).drop (min l1.length 4)).map .int := by rw [hcl, List.map_drop]; rfl
  have hl5 : l1.length + (([16, 6, 48, 89] : List Int).drop (min l1.length 4)).length ≤ 40 := by
    rw [List.length_drop]
    show l1.length + (4 - min l1.length 4) ≤ 40
    by_cases q : l1.length ≤ 4
    · rw [Nat.min_eq_left q, Nat.add_sub_cancel' q]; decide
    · rw [Nat.min_eq_right (Nat.le_of_not_le q)]; exact hl
  refine ex_set (σ' := []) (v := .lst ((l1 ++ ([16, 6, 48, 89] : List Int).drop (min l1.length 4)).map .int)) (fun k hk => ckI (sz l1 (Nat.le_trans hl (by decide))) ?_) ?_
  · show ckz ((l1.map D.int).length + (cutL [D.int 16, D.int 6, D.int 48, D.int 89] (clampI 4 ((l1.map D.int).length : Int)) 4).length) (k (.lst (l1.map D.int ++ cutL [D.int 16, D.int 6, D.int 48, D.int 89] (clampI 4 ((l1.map D.int).length : Int)) 4)) [])
    rw [hcm, ← List.map_append, hml, hml]
    exact ckI (show Sz _ from Nat.le_trans hl5 (by decide)) hk
  have hp : ∀ a ∈ l1 ++ ([16, 6, 48, 89] : List Int).drop (min l1.length 4), 0 ≤ a := fun a ha => (List.mem_append.mp ha).elim (hp a) fun z => (by decide : ∀ a ∈ ([16, 6, 48, 89] : List Int), 0 ≤ a) a (List.mem_of_mem_drop z)
  rw [← List.length_append] at hl5
  generalize l1 ++ ([16, 6, 48, 89] : List Int).drop (min l1.length 4) = l' at hp hl5
  refine law_make (le_of hm rfl) (ckI (sz l' (Nat.le_trans hl5 (by decide))) (loop66 (Nat.le_trans (by decide) hm) 0 σ5 none inv0 hp (by rw [Nat.zero_add]; exact Nat.le_succ_of_le hl5) fun s g8 I => ?_))
  rw [Nat.zero_add] at I
  have rest : ∀ s N, N ≤ 42 → Inv s N → ex tab (wf tab fns m) (c66.code.drop 16) (locM (.lst (sc.map .int)) (.lst (l'.map .int)) (some (.h 23)) (some (.h 24)) (some (.h 25)) (some (.str [126])) (some (.h 26)) g8) s (rtF k) x := fun s N hN I => by
    refine s64 I hN (Nat.le_trans (by decide) hm) fun σ' ⟨st2, S2, vals2, W2, _⟩ => ?_
    have W2 := W2.ws
    have M2 := W2.ms
    exact M2.get (d := .h 7) rfl ⟨W2.r7, M2.lt (by decide), M2.get (d := .h 1) rfl (attI (d := .h 2) (M2.lt (by decide)) W2.r1 rfl ⟨W2.r2, M2.lt (by decide), M2.get (d := .int 0) rfl (h σ')⟩)⟩
  obtain ⟨st, S, ts, vals, W, hG, h0, h1, h2⟩ := id I
  have W0 := W.ws
  have hts : (ts.map ent).length ≤ 40 := by rw [List.length_map]; exact Nat.le_trans (Nat.le_trans (Nat.le_add_right _ _) h2) hl5
  refine ex_ifb (P := ((vals.map od).length : Int) + ((ts.map ent).length : Int) = 0) beq_iff_eq (fun k hk => W0.vh (W0.vl (ckI W0.szv (W0.sh (W0.sl (ckI (show Sz _ from Nat.le_trans hts (by decide)) hk)))))) (fun _ => ?_) fun _ => rest s _ (Nat.le_trans hl5 (by decide)) I
  exact W0.sh (okApp W0.Sok.2.1 W0.stk (s60 W0 (show (0 : Int) ≤ 1 by decide) (Nat.le_trans (by decide) hm) fun t g _ => W0.sl (ckI (show Sz (_ + 1) from Nat.le_trans (Nat.succ_le_succ hts) (by decide)) (rest _ _ (Nat.succ_le_succ (Nat.le_succ_of_le hl5)) (W.leaf hG h0 h1 h2 (Nat.le_succ_of_le hl5) g)))))
end
end
section
noncomputable def atL : List Str := [(⟨⟨[107, 105, 110, 100]⟩⟩ : Str), (⟨⟨[97]⟩⟩ : Str), (⟨⟨[107, 105, 100, 115]⟩⟩ : Str), (⟨⟨[110, 105, 100]⟩⟩ : Str), (⟨⟨[102, 108, 97, 103, 115]⟩⟩ : Str), (⟨⟨[97, 116]⟩⟩ : Str), (⟨⟨[104, 101, 97, 112]⟩⟩ : Str), (⟨⟨[101, 120, 112, 114, 115]⟩⟩ : Str), (⟨⟨[115, 116, 109, 116, 115]⟩⟩ : Str), (⟨⟨[115, 116, 101, 112, 115]⟩⟩ : Str), (⟨⟨[109, 111, 115, 116]⟩⟩ : Str), (⟨⟨[100, 101, 101, 112]⟩⟩ : Str), (⟨⟨[109, 111, 115, 116, 95, 100, 101, 101, 112]⟩⟩ : Str), (⟨⟨[111, 117, 116]⟩⟩ : Str), (⟨⟨[101, 110, 118]⟩⟩ : Str), (⟨⟨[103, 108, 111, 98, 97, 108, 115]⟩⟩ : Str), (⟨⟨[116, 104, 105, 115]⟩⟩ : Str), (⟨⟨[104, 111, 109, 101]⟩⟩ : Str), (⟨⟨[116, 111, 108, 100]⟩⟩ : Str), (⟨⟨[119, 97, 116, 99, 104]⟩⟩ : Str), (⟨⟨[112, 114, 111, 116, 111, 115]⟩⟩ : Str), (⟨⟨[99, 108, 97, 115, 115, 95, 112, 114, 111, 116, 111, 115]⟩⟩ : Str), (⟨⟨[98, 105, 110, 100, 101, 114]⟩⟩ : Str), (⟨⟨[109, 97, 107, 101, 114]⟩⟩ : Str), (⟨⟨[104, 111, 105, 115, 116, 101, 114]⟩⟩ : Str), (⟨⟨[114, 97, 105, 115, 101, 100]⟩⟩ : Str), (⟨⟨[116, 104, 105, 110, 103, 115]⟩⟩ : Str), (⟨⟨[110, 97, 116, 105, 118, 101, 115]⟩⟩ : Str), (⟨⟨[111, 112, 115]⟩⟩ : Str), (⟨⟨[118, 97, 108, 117, 101]⟩⟩ : Str), (⟨⟨[97, 112, 112, 108, 121]⟩⟩ : Str), (⟨⟨[108, 111, 111, 107]⟩⟩ : Str)]
noncomputable def fnNL : List Str := [(⟨⟨[108, 101, 97, 102]⟩⟩ : Str), (⟨⟨[116, 119, 105, 103]⟩⟩ : Str), (⟨⟨[98, 97, 114, 101]⟩⟩ : Str), (⟨⟨[108, 105, 116, 101, 114, 97, 108, 95, 107, 101, 121]⟩⟩ : Str), (⟨⟨[109, 101, 109, 98, 101, 114, 95, 110, 97, 109, 101]⟩⟩ : Str), (⟨⟨[105, 115, 95, 116, 101, 120, 116]⟩⟩ : Str), (⟨⟨[119, 105, 116, 104, 105, 110]⟩⟩ : Str), (⟨⟨[116, 111, 95, 51, 50]⟩⟩ : Str), (⟨⟨[112, 111, 119, 101, 114]⟩⟩ : Str), (⟨⟨[114, 101, 109, 97, 105, 110, 100, 101, 114]⟩⟩ : Str), (⟨⟨[113, 117, 111, 116, 105, 101, 110, 116]⟩⟩ : Str), (⟨⟨[114, 101, 99, 107, 111, 110]⟩⟩ : Str), (⟨⟨[98, 105, 110, 97, 114, 121, 95, 118, 97, 108, 117, 101]⟩⟩ : Str), (⟨⟨[117, 110, 97, 114, 121, 95, 118, 97, 108, 117, 101]⟩⟩ : Str), (⟨⟨[116, 101, 109, 112, 108, 97, 116, 101, 95, 118, 97, 108, 117, 101]⟩⟩ : Str), (⟨⟨[111, 119, 110, 95, 109, 101, 109, 98, 101, 114]⟩⟩ : Str), (⟨⟨[101, 110, 117, 109, 95, 118, 97, 108, 117, 101]⟩⟩ : Str), (⟨⟨[117, 110, 100, 101, 102, 95, 118, 97, 108, 117, 101]⟩⟩ : Str), (⟨⟨[116, 101, 120, 116, 95, 118, 97, 108, 117, 101]⟩⟩ : Str), (⟨⟨[110, 117, 109, 95, 118, 97, 108, 117, 101]⟩⟩ : Str), (⟨⟨[114, 117, 110, 95, 111, 102, 95, 100, 105, 103, 105, 116, 115]⟩⟩ : Str), (⟨⟨[116, 111, 95, 116, 101, 120, 116, 95, 105, 110]⟩⟩ : Str), (⟨⟨[116, 111, 95, 116, 101, 120, 116]⟩⟩ : Str), (⟨⟨[116, 114, 105, 109, 109, 101, 100]⟩⟩ : Str), (⟨⟨[100, 105, 103, 105, 116, 115, 95, 118, 97, 108, 117, 101]⟩⟩ : Str), (⟨⟨[98, 97, 115, 101, 95, 111, 102, 95, 112, 114, 101, 102, 105, 120]⟩⟩ : Str), (⟨⟨[105, 115, 95, 111, 116, 104, 101, 114, 95, 110, 117, 109, 98, 101, 114]⟩⟩ : Str), (⟨⟨[116, 101, 120, 116, 95, 110, 117, 109, 98, 101, 114]⟩⟩ : Str), (⟨⟨[116, 111, 95, 110, 117, 109, 98, 101, 114]⟩⟩ : Str), (⟨⟨[114, 117, 110, 108, 105, 98, 95, 106, 111, 105, 110, 101, 100]⟩⟩ : Str), (⟨⟨[99, 111, 117, 110, 116, 95, 115, 116, 101, 112]⟩⟩ : Str), (⟨⟨[114, 117, 110, 99, 111, 114, 101, 95, 118, 97, 108, 117, 101, 95, 111, 102]⟩⟩ : Str), (⟨⟨[112, 114, 105, 109, 105, 116, 105, 118, 101]⟩⟩ : Str), (⟨⟨[100, 105, 118, 105, 100, 101, 100]⟩⟩ : Str), (⟨⟨[114, 117, 110, 111, 112, 115, 95, 114, 101, 109, 97, 105, 110, 100, 101, 114]⟩⟩ : Str), (⟨⟨[114, 117, 110, 111, 112, 115, 95, 112, 111, 119, 101, 114]⟩⟩ : Str), (⟨⟨[119, 104, 111, 108, 101, 95, 115, 117, 109]⟩⟩ : Str), (⟨⟨[110, 117, 109, 98, 101, 114, 95, 115, 117, 109]⟩⟩ : Str), (⟨⟨[105, 110, 116, 95, 51, 50]⟩⟩ : Str), (⟨⟨[118, 97, 108, 117, 101, 95, 110, 111, 100, 101]⟩⟩ : Str), (⟨⟨[105, 110, 95, 114, 97, 110, 103, 101]⟩⟩ : Str), (⟨⟨[102, 111, 108, 100, 95, 99, 111, 110, 115, 116]⟩⟩ : Str), (⟨⟨[101, 97, 114, 108, 105, 101, 114, 95, 110, 97, 109, 101]⟩⟩ : Str), (⟨⟨[102, 111, 108, 100, 95, 116, 101, 109, 112, 108, 97, 116, 101]⟩⟩ : Str), (⟨⟨[102, 111, 108, 100, 95, 115, 105, 103, 110]⟩⟩ : Str), (⟨⟨[105, 110, 95, 51, 50]⟩⟩ : Str), (⟨⟨[102, 111, 108, 100, 95, 98, 105, 110, 97, 114, 121]⟩⟩ : Str), (⟨⟨[102, 111, 108, 100, 95, 110, 117, 109, 98, 101, 114, 115]⟩⟩ : Str), (⟨⟨[102, 111, 108, 100, 95, 112, 111, 119, 101, 114]⟩⟩ : Str), (⟨⟨[95, 108, 97, 119, 95, 110, 117, 109, 98, 101, 114]⟩⟩ : Str), (⟨⟨[95, 108, 97, 119, 95, 116, 101, 120, 116]⟩⟩ : Str), (⟨⟨[95, 108, 97, 119, 95, 115, 105, 103, 110, 101, 100]⟩⟩ : Str), (⟨⟨[95, 108, 97, 119, 95, 112, 111, 119, 101, 114]⟩⟩ : Str), (⟨⟨[95, 108, 97, 119, 95, 99, 111, 117, 110, 116]⟩⟩ : Str), (⟨⟨[95, 108, 97, 119, 95, 98, 105, 116, 115]⟩⟩ : Str), (⟨⟨[95, 108, 97, 119, 95, 109, 101, 101, 116]⟩⟩ : Str), (⟨⟨[95, 108, 97, 119, 95, 102, 114, 111, 110, 116]⟩⟩ : Str), (⟨⟨[95, 108, 97, 119, 95, 102, 105, 108, 108]⟩⟩ : Str), (⟨⟨[95, 108, 97, 119, 95, 112, 108, 97, 105, 110]⟩⟩ : Str), (⟨⟨[95, 108, 97, 119, 95, 110, 97, 109, 101]⟩⟩ : Str), (⟨⟨[95, 108, 97, 119, 95, 108, 101, 97, 102]⟩⟩ : Str), (⟨⟨[95, 108, 97, 119, 95, 109, 101, 101, 107]⟩⟩ : Str), (⟨⟨[95, 108, 97, 119, 95, 103, 114, 111, 119]⟩⟩ : Str), (⟨⟨[95, 108, 97, 119, 95, 114, 117, 110]⟩⟩ : Str), (⟨⟨[95, 108, 97, 119, 95, 99, 108, 111, 115, 101]⟩⟩ : Str), (⟨⟨[95, 108, 97, 119, 95, 115, 116, 101, 112]⟩⟩ : Str), (⟨⟨[108, 97, 119]⟩⟩ : Str)]
noncomputable def fnAL : List Nat := [49, 56, 63, 70, 77, 84, 91, 98, 105, 112, 119, 126, 133, 140, 147, 154, 161, 291, 298, 305, 312, 382, 389, 396, 403, 410, 417, 424, 431, 438, 647, 654, 799, 806, 813, 820, 827, 834, 860, 952, 959, 966, 973, 980, 987, 994, 1001, 1008, 1015, 1025, 1032, 1039, 1046, 1053, 1060, 1067, 1074, 1081, 1088, 1095, 1102, 1109, 1114, 1121, 1128, 1133, 1138, 277, 591, 598, 694, 675, 732, 713, 773, 780, 787, 914, 921, 848, 874, 940]
noncomputable def clNL : List Str := [(⟨⟨[72, 101, 97, 112]⟩⟩ : Str), (⟨⟨[77, 97, 99, 104, 105, 110, 101]⟩⟩ : Str), (⟨⟨[87, 97, 116, 99, 104, 101, 114]⟩⟩ : Str), (⟨⟨[82, 117, 110, 99, 111, 114, 101, 66, 105, 110, 100, 101, 114]⟩⟩ : Str), (⟨⟨[77, 97, 107, 101, 114]⟩⟩ : Str), (⟨⟨[72, 111, 105, 115, 116, 101, 114]⟩⟩ : Str), (⟨⟨[82, 117, 110, 101, 120, 112, 114, 78, 117, 109, 82, 117, 108, 101]⟩⟩ : Str), (⟨⟨[82, 117, 110, 101, 120, 112, 114, 84, 101, 120, 116, 82, 117, 108, 101]⟩⟩ : Str), (⟨⟨[82, 117, 110, 101, 120, 112, 114, 84, 101, 109, 112, 108, 97, 116, 101, 82, 117, 108, 101]⟩⟩ : Str), (⟨⟨[82, 117, 110, 101, 120, 112, 114, 80, 97, 114, 101, 110, 82, 117, 108, 101]⟩⟩ : Str), (⟨⟨[82, 117, 110, 111, 112, 115, 66, 105, 110, 97, 114, 121, 82, 117, 108, 101]⟩⟩ : Str), (⟨⟨[82, 117, 110, 111, 112, 115, 85, 110, 97, 114, 121, 82, 117, 108, 101]⟩⟩ : Str), (⟨⟨[83, 117, 109, 82, 117, 108, 101]⟩⟩ : Str), (⟨⟨[66, 105, 116, 82, 117, 108, 101]⟩⟩ : Str), (⟨⟨[83, 105, 103, 110, 79, 112]⟩⟩ : Str), (⟨⟨[78, 117, 109, 98, 101, 114, 79, 117, 116]⟩⟩ : Str), (⟨⟨[76, 101, 102, 116, 79, 117, 116]⟩⟩ : Str)]
noncomputable def clAL : List Nat := [280, 636, 496, 524, 552, 573, 697, 678, 735, 716, 790, 924, 851, 877, 943, 240, 200]
noncomputable def glNL : List Str := [(⟨⟨[75, 95, 80, 65, 82, 69, 78]⟩⟩ : Str), (⟨⟨[75, 95, 84, 80, 76]⟩⟩ : Str), (⟨⟨[75, 95, 78, 85, 77]⟩⟩ : Str), (⟨⟨[75, 95, 83, 84, 82]⟩⟩ : Str), (⟨⟨[75, 95, 77, 69, 77, 66, 69, 82]⟩⟩ : Str), (⟨⟨[77, 79, 83, 84]⟩⟩ : Str), (⟨⟨[75, 95, 78, 65, 77, 69]⟩⟩ : Str), (⟨⟨[75, 95, 73, 78, 68, 69, 88]⟩⟩ : Str), (⟨⟨[75, 95, 66, 73, 78, 65, 82, 89]⟩⟩ : Str), (⟨⟨[75, 95, 85, 78, 65, 82, 89]⟩⟩ : Str), (⟨⟨[86, 95, 85, 78, 68, 69, 70]⟩⟩ : Str), (⟨⟨[86, 95, 83, 84, 82]⟩⟩ : Str), (⟨⟨[86, 95, 78, 85, 77]⟩⟩ : Str), (⟨⟨[77, 79, 83, 84, 95, 78, 85, 77, 66, 69, 82]⟩⟩ : Str), (⟨⟨[86, 95, 78, 65, 78]⟩⟩ : Str), (⟨⟨[86, 95, 66, 79, 79, 76]⟩⟩ : Str), (⟨⟨[86, 95, 78, 85, 76, 76]⟩⟩ : Str), (⟨⟨[66, 76, 65, 78, 75, 83]⟩⟩ : Str), (⟨⟨[68, 73, 71, 73, 84, 83]⟩⟩ : Str), (⟨⟨[77, 79, 83, 84, 95, 84, 69, 88, 84]⟩⟩ : Str), (⟨⟨[75, 95, 67, 65, 76, 76]⟩⟩ : Str), (⟨⟨[86, 95, 79, 66, 74]⟩⟩ : Str), (⟨⟨[78, 65, 78]⟩⟩ : Str), (⟨⟨[77, 79, 83, 84, 95, 80, 79, 87, 69, 82]⟩⟩ : Str), (⟨⟨[72, 65, 76, 70]⟩⟩ : Str), (⟨⟨[82, 79, 85, 78, 68]⟩⟩ : Str), (⟨⟨[78, 85, 77, 66, 69, 82, 95, 84, 79, 80]⟩⟩ : Str), (⟨⟨[95, 108, 97, 119, 95, 116, 111, 112]⟩⟩ : Str), (⟨⟨[95, 108, 97, 119, 95, 110, 117, 109, 98, 101, 114, 115]⟩⟩ : Str), (⟨⟨[95, 108, 97, 119, 95, 116, 101, 120, 116, 115]⟩⟩ : Str), (⟨⟨[95, 108, 97, 119, 95, 102, 114, 111, 110, 116, 115]⟩⟩ : Str), (⟨⟨[95, 108, 97, 119, 95, 112, 105, 101, 99, 101, 115]⟩⟩ : Str), (⟨⟨[95, 108, 97, 119, 95, 115, 105, 103, 110, 115]⟩⟩ : Str), (⟨⟨[77, 79, 83, 84, 95, 68, 69, 69, 80]⟩⟩ : Str)]
noncomputable def nmL : List (List Str) := [[(⟨⟨[107, 105, 110, 100]⟩⟩ : Str), (⟨⟨[97]⟩⟩ : Str), (⟨⟨[97, 116]⟩⟩ : Str)],
  [(⟨⟨[107, 105, 110, 100]⟩⟩ : Str), (⟨⟨[97]⟩⟩ : Str), (⟨⟨[107, 105, 100, 115]⟩⟩ : Str), (⟨⟨[97, 116]⟩⟩ : Str)],
  [(⟨⟨[110, 111, 100, 101]⟩⟩ : Str)],
  [(⟨⟨[110, 111, 100, 101]⟩⟩ : Str)],
  [(⟨⟨[110, 111, 100, 101]⟩⟩ : Str)],
  [(⟨⟨[118, 97, 108, 117, 101]⟩⟩ : Str)],
  [(⟨⟨[110]⟩⟩ : Str)],
  [(⟨⟨[110]⟩⟩ : Str)],
  [(⟨⟨[108]⟩⟩ : Str), (⟨⟨[114]⟩⟩ : Str)],
  [(⟨⟨[108]⟩⟩ : Str), (⟨⟨[114]⟩⟩ : Str), (⟨⟨[114, 101, 115, 116]⟩⟩ : Str)],
  [(⟨⟨[108]⟩⟩ : Str), (⟨⟨[114]⟩⟩ : Str)],
  [(⟨⟨[115, 105, 103, 110]⟩⟩ : Str), (⟨⟨[108]⟩⟩ : Str), (⟨⟨[114]⟩⟩ : Str)],
  [(⟨⟨[110, 111, 100, 101]⟩⟩ : Str), (⟨⟨[115, 111, 102, 97, 114]⟩⟩ : Str), (⟨⟨[111, 119, 110]⟩⟩ : Str), (⟨⟨[108]⟩⟩ : Str), (⟨⟨[114]⟩⟩ : Str)],
  [(⟨⟨[110, 111, 100, 101]⟩⟩ : Str), (⟨⟨[115, 111, 102, 97, 114]⟩⟩ : Str), (⟨⟨[111, 119, 110]⟩⟩ : Str), (⟨⟨[118, 97, 108, 117, 101]⟩⟩ : Str)],
  [(⟨⟨[110, 111, 100, 101]⟩⟩ : Str), (⟨⟨[115, 111, 102, 97, 114]⟩⟩ : Str), (⟨⟨[111, 119, 110]⟩⟩ : Str), (⟨⟨[116, 101, 120, 116]⟩⟩ : Str), (⟨⟨[112, 108, 97, 99, 101]⟩⟩ : Str), (⟨⟨[118, 97, 108, 117, 101]⟩⟩ : Str)],
  [(⟨⟨[110, 111, 100, 101]⟩⟩ : Str), (⟨⟨[111, 119, 110]⟩⟩ : Str)],
  [(⟨⟨[110, 111, 100, 101]⟩⟩ : Str), (⟨⟨[115, 111, 102, 97, 114]⟩⟩ : Str), (⟨⟨[111, 119, 110]⟩⟩ : Str)],
  [],
  [(⟨⟨[116, 101, 120, 116]⟩⟩ : Str)],
  [(⟨⟨[110]⟩⟩ : Str)],
  [(⟨⟨[116, 101, 120, 116]⟩⟩ : Str), (⟨⟨[97, 116]⟩⟩ : Str)],
  [(⟨⟨[104, 101, 97, 112]⟩⟩ : Str), (⟨⟨[118]⟩⟩ : Str), (⟨⟨[115, 101, 101, 110]⟩⟩ : Str), (⟨⟨[116, 97, 103]⟩⟩ : Str)],
  [(⟨⟨[104, 101, 97, 112]⟩⟩ : Str), (⟨⟨[118]⟩⟩ : Str)],
  [(⟨⟨[116, 101, 120, 116]⟩⟩ : Str), (⟨⟨[108, 111, 119]⟩⟩ : Str), (⟨⟨[104, 105, 103, 104]⟩⟩ : Str)],
  [(⟨⟨[116, 101, 120, 116]⟩⟩ : Str), (⟨⟨[98, 97, 115, 101]⟩⟩ : Str), (⟨⟨[116, 111, 116, 97, 108]⟩⟩ : Str), (⟨⟨[108, 101, 116, 116, 101, 114]⟩⟩ : Str), (⟨⟨[100, 105, 103, 105, 116]⟩⟩ : Str)],
  [(⟨⟨[116, 101, 120, 116]⟩⟩ : Str)],
  [(⟨⟨[98, 111, 100, 121]⟩⟩ : Str), (⟨⟨[97, 116]⟩⟩ : Str), (⟨⟨[100, 105, 103, 105, 116, 115]⟩⟩ : Str), (⟨⟨[98, 101, 104, 105, 110, 100]⟩⟩ : Str), (⟨⟨[115, 116, 97, 114, 116]⟩⟩ : Str)],
  [(⟨⟨[116, 101, 120, 116]⟩⟩ : Str), (⟨⟨[98, 111, 100, 121]⟩⟩ : Str), (⟨⟨[98, 97, 115, 101]⟩⟩ : Str), (⟨⟨[110]⟩⟩ : Str), (⟨⟨[109, 105, 110, 117, 115]⟩⟩ : Str)],
  [(⟨⟨[118]⟩⟩ : Str), (⟨⟨[116, 97, 103]⟩⟩ : Str)],
  [(⟨⟨[112, 97, 114, 116, 115]⟩⟩ : Str), (⟨⟨[115, 101, 112]⟩⟩ : Str), (⟨⟨[116, 111, 116, 97, 108]⟩⟩ : Str), (⟨⟨[112, 97, 114, 116]⟩⟩ : Str)],
  [(⟨⟨[109]⟩⟩ : Str)],
  [(⟨⟨[109]⟩⟩ : Str), (⟨⟨[110, 111, 100, 101]⟩⟩ : Str), (⟨⟨[114, 117, 108, 101]⟩⟩ : Str), (⟨⟨[118]⟩⟩ : Str)],
  [(⟨⟨[109]⟩⟩ : Str), (⟨⟨[118]⟩⟩ : Str)],
  [(⟨⟨[97]⟩⟩ : Str), (⟨⟨[98]⟩⟩ : Str)],
  [(⟨⟨[97]⟩⟩ : Str), (⟨⟨[98]⟩⟩ : Str), (⟨⟨[114, 101, 115, 116]⟩⟩ : Str)],
  [(⟨⟨[97]⟩⟩ : Str), (⟨⟨[98]⟩⟩ : Str)],
  [(⟨⟨[115, 105, 103, 110]⟩⟩ : Str), (⟨⟨[97]⟩⟩ : Str), (⟨⟨[98]⟩⟩ : Str)],
  [(⟨⟨[115, 105, 103, 110]⟩⟩ : Str), (⟨⟨[97]⟩⟩ : Str), (⟨⟨[98]⟩⟩ : Str)],
  [(⟨⟨[118]⟩⟩ : Str), (⟨⟨[110]⟩⟩ : Str), (⟨⟨[108, 111, 119]⟩⟩ : Str)],
  [(⟨⟨[118, 97, 108, 117, 101]⟩⟩ : Str), (⟨⟨[97, 116]⟩⟩ : Str)],
  [(⟨⟨[110, 117, 109, 98, 101, 114]⟩⟩ : Str)],
  [(⟨⟨[110, 111, 100, 101]⟩⟩ : Str), (⟨⟨[107, 110, 111, 119, 110]⟩⟩ : Str), (⟨⟨[111, 119, 110]⟩⟩ : Str), (⟨⟨[107, 105, 110, 100]⟩⟩ : Str), (⟨⟨[108, 101, 102, 116]⟩⟩ : Str), (⟨⟨[110, 97, 109, 101]⟩⟩ : Str)],
  [(⟨⟨[110, 111, 100, 101]⟩⟩ : Str), (⟨⟨[111, 119, 110]⟩⟩ : Str), (⟨⟨[111, 98, 106]⟩⟩ : Str)],
  [(⟨⟨[110, 111, 100, 101]⟩⟩ : Str), (⟨⟨[107, 110, 111, 119, 110]⟩⟩ : Str), (⟨⟨[111, 119, 110]⟩⟩ : Str), (⟨⟨[116, 101, 120, 116]⟩⟩ : Str), (⟨⟨[112, 108, 97, 99, 101]⟩⟩ : Str), (⟨⟨[118, 97, 108, 117, 101]⟩⟩ : Str)],
  [(⟨⟨[111, 112]⟩⟩ : Str), (⟨⟨[118, 97, 108, 117, 101]⟩⟩ : Str)],
  [(⟨⟨[110, 117, 109, 98, 101, 114]⟩⟩ : Str)],
  [(⟨⟨[111, 112]⟩⟩ : Str), (⟨⟨[108, 101, 102, 116]⟩⟩ : Str), (⟨⟨[114, 105, 103, 104, 116]⟩⟩ : Str), (⟨⟨[109, 97, 100, 101]⟩⟩ : Str)],
  [(⟨⟨[111, 112]⟩⟩ : Str), (⟨⟨[108, 101, 102, 116]⟩⟩ : Str), (⟨⟨[114, 105, 103, 104, 116]⟩⟩ : Str), (⟨⟨[114, 101, 115, 116]⟩⟩ : Str)],
  [(⟨⟨[108, 101, 102, 116]⟩⟩ : Str), (⟨⟨[114, 105, 103, 104, 116]⟩⟩ : Str)],
  [(⟨⟨[118]⟩⟩ : Str), (⟨⟨[98, 111, 100, 121]⟩⟩ : Str), (⟨⟨[100, 105, 103, 105, 116, 115]⟩⟩ : Str), (⟨⟨[110]⟩⟩ : Str)],
  [(⟨⟨[118]⟩⟩ : Str)],
  [(⟨⟨[119, 111, 114, 100]⟩⟩ : Str)],
  [(⟨⟨[120]⟩⟩ : Str), (⟨⟨[121]⟩⟩ : Str), (⟨⟨[116, 111, 116, 97, 108]⟩⟩ : Str), (⟨⟨[103, 111]⟩⟩ : Str)],
  [(⟨⟨[115, 105, 103, 110]⟩⟩ : Str), (⟨⟨[120]⟩⟩ : Str), (⟨⟨[121]⟩⟩ : Str), (⟨⟨[110]⟩⟩ : Str), (⟨⟨[114, 101, 115, 116]⟩⟩ : Str)],
  [(⟨⟨[115, 105, 103, 110]⟩⟩ : Str), (⟨⟨[120]⟩⟩ : Str), (⟨⟨[121]⟩⟩ : Str), (⟨⟨[97]⟩⟩ : Str), (⟨⟨[98]⟩⟩ : Str), (⟨⟨[98, 111, 116, 104]⟩⟩ : Str)],
  [(⟨⟨[115, 105, 103, 110]⟩⟩ : Str), (⟨⟨[108]⟩⟩ : Str), (⟨⟨[114]⟩⟩ : Str), (⟨⟨[119, 111, 114, 100, 115]⟩⟩ : Str), (⟨⟨[112, 117, 114, 101]⟩⟩ : Str), (⟨⟨[120]⟩⟩ : Str), (⟨⟨[121]⟩⟩ : Str), (⟨⟨[110]⟩⟩ : Str)],
  [(⟨⟨[115, 105, 103, 110]⟩⟩ : Str), (⟨⟨[118]⟩⟩ : Str), (⟨⟨[110]⟩⟩ : Str), (⟨⟨[112, 117, 114, 101]⟩⟩ : Str)],
  [(⟨⟨[116, 101, 120, 116, 115]⟩⟩ : Str), (⟨⟨[118, 97, 108, 117, 101, 115]⟩⟩ : Str), (⟨⟨[111, 117, 116]⟩⟩ : Str), (⟨⟨[112, 117, 114, 101]⟩⟩ : Str), (⟨⟨[112, 108, 97, 99, 101]⟩⟩ : Str)],
  [(⟨⟨[118, 97, 108, 117, 101]⟩⟩ : Str)],
  [(⟨⟨[119]⟩⟩ : Str), (⟨⟨[113]⟩⟩ : Str), (⟨⟨[112, 108, 97, 99, 101]⟩⟩ : Str), (⟨⟨[118, 97, 108, 117, 101]⟩⟩ : Str), (⟨⟨[110, 97, 109, 101]⟩⟩ : Str), (⟨⟨[119, 97, 121]⟩⟩ : Str), (⟨⟨[111, 119, 110]⟩⟩ : Str), (⟨⟨[110, 111, 100, 101]⟩⟩ : Str)],
  [(⟨⟨[119]⟩⟩ : Str), (⟨⟨[104, 111, 119]⟩⟩ : Str), (⟨⟨[113]⟩⟩ : Str), (⟨⟨[116, 101, 120, 116]⟩⟩ : Str), (⟨⟨[110, 111, 100, 101]⟩⟩ : Str), (⟨⟨[110]⟩⟩ : Str)],
  [(⟨⟨[115, 105, 103, 110]⟩⟩ : Str), (⟨⟨[108]⟩⟩ : Str), (⟨⟨[114]⟩⟩ : Str), (⟨⟨[120]⟩⟩ : Str), (⟨⟨[121]⟩⟩ : Str)],
  [(⟨⟨[104, 111, 119]⟩⟩ : Str), (⟨⟨[113]⟩⟩ : Str), (⟨⟨[107, 105, 100, 115]⟩⟩ : Str), (⟨⟨[118, 97, 108, 117, 101, 115]⟩⟩ : Str), (⟨⟨[107, 105, 110, 100]⟩⟩ : Str), (⟨⟨[97]⟩⟩ : Str), (⟨⟨[118]⟩⟩ : Str), (⟨⟨[110, 111, 100, 101]⟩⟩ : Str)],
  [(⟨⟨[109]⟩⟩ : Str), (⟨⟨[110, 111, 100, 101]⟩⟩ : Str)],
  [(⟨⟨[119]⟩⟩ : Str), (⟨⟨[110, 111, 100, 101]⟩⟩ : Str), (⟨⟨[112, 108, 97, 105, 110]⟩⟩ : Str), (⟨⟨[118]⟩⟩ : Str), (⟨⟨[104, 105, 103, 104]⟩⟩ : Str), (⟨⟨[119, 97, 110, 116]⟩⟩ : Str)],
  [(⟨⟨[119]⟩⟩ : Str), (⟨⟨[120]⟩⟩ : Str), (⟨⟨[104, 111, 119]⟩⟩ : Str), (⟨⟨[113]⟩⟩ : Str), (⟨⟨[99, 111, 117, 110, 116]⟩⟩ : Str), (⟨⟨[107, 105, 100, 115]⟩⟩ : Str)],
  [(⟨⟨[115, 99, 114, 105, 112, 116]⟩⟩ : Str), (⟨⟨[110, 117, 109, 115]⟩⟩ : Str), (⟨⟨[109]⟩⟩ : Str), (⟨⟨[115, 117, 109, 115]⟩⟩ : Str), (⟨⟨[98, 105, 116, 115]⟩⟩ : Str), (⟨⟨[102, 114, 111, 110, 116]⟩⟩ : Str), (⟨⟨[115, 105, 103, 110]⟩⟩ : Str), (⟨⟨[119]⟩⟩ : Str), (⟨⟨[120]⟩⟩ : Str)],
  [(⟨⟨[115, 101, 108, 102]⟩⟩ : Str)],
  [(⟨⟨[115, 101, 108, 102]⟩⟩ : Str), (⟨⟨[98, 111, 117, 110, 100]⟩⟩ : Str)],
  [(⟨⟨[115, 101, 108, 102]⟩⟩ : Str), (⟨⟨[110, 111, 100, 101]⟩⟩ : Str)],
  [(⟨⟨[115, 101, 108, 102]⟩⟩ : Str), (⟨⟨[109]⟩⟩ : Str), (⟨⟨[110, 111, 100, 101]⟩⟩ : Str)],
  [(⟨⟨[115, 101, 108, 102]⟩⟩ : Str), (⟨⟨[109]⟩⟩ : Str), (⟨⟨[110, 111, 100, 101]⟩⟩ : Str)],
  [(⟨⟨[115, 101, 108, 102]⟩⟩ : Str), (⟨⟨[109]⟩⟩ : Str), (⟨⟨[110, 111, 100, 101]⟩⟩ : Str), (⟨⟨[112, 97, 114, 116, 115]⟩⟩ : Str), (⟨⟨[112, 108, 97, 99, 101]⟩⟩ : Str)],
  [(⟨⟨[115, 101, 108, 102]⟩⟩ : Str), (⟨⟨[109]⟩⟩ : Str), (⟨⟨[110, 111, 100, 101]⟩⟩ : Str)],
  [(⟨⟨[115, 101, 108, 102]⟩⟩ : Str)],
  [(⟨⟨[115, 101, 108, 102]⟩⟩ : Str), (⟨⟨[109]⟩⟩ : Str), (⟨⟨[110, 111, 100, 101]⟩⟩ : Str), (⟨⟨[97]⟩⟩ : Str), (⟨⟨[98]⟩⟩ : Str)],
  [(⟨⟨[115, 101, 108, 102]⟩⟩ : Str), (⟨⟨[109]⟩⟩ : Str), (⟨⟨[115, 105, 103, 110]⟩⟩ : Str), (⟨⟨[97]⟩⟩ : Str), (⟨⟨[98]⟩⟩ : Str), (⟨⟨[110, 105, 100]⟩⟩ : Str), (⟨⟨[114, 117, 108, 101]⟩⟩ : Str)],
  [(⟨⟨[115, 101, 108, 102]⟩⟩ : Str)],
  [(⟨⟨[115, 101, 108, 102]⟩⟩ : Str), (⟨⟨[109]⟩⟩ : Str), (⟨⟨[110, 111, 100, 101]⟩⟩ : Str), (⟨⟨[114, 117, 108, 101]⟩⟩ : Str)],
  [(⟨⟨[115, 101, 108, 102]⟩⟩ : Str), (⟨⟨[109]⟩⟩ : Str), (⟨⟨[115, 105, 103, 110]⟩⟩ : Str), (⟨⟨[97]⟩⟩ : Str), (⟨⟨[98]⟩⟩ : Str), (⟨⟨[110, 105, 100]⟩⟩ : Str), (⟨⟨[120]⟩⟩ : Str), (⟨⟨[121]⟩⟩ : Str)],
  [(⟨⟨[115, 101, 108, 102]⟩⟩ : Str), (⟨⟨[109]⟩⟩ : Str), (⟨⟨[115, 105, 103, 110]⟩⟩ : Str), (⟨⟨[97]⟩⟩ : Str), (⟨⟨[98]⟩⟩ : Str), (⟨⟨[110, 105, 100]⟩⟩ : Str), (⟨⟨[120]⟩⟩ : Str), (⟨⟨[121]⟩⟩ : Str)],
  [(⟨⟨[115, 101, 108, 102]⟩⟩ : Str), (⟨⟨[109]⟩⟩ : Str), (⟨⟨[110, 111, 100, 101]⟩⟩ : Str), (⟨⟨[118]⟩⟩ : Str), (⟨⟨[110]⟩⟩ : Str)]]
noncomputable def atNf (i : Nat) : Str := match atL[i]? with | some s => s | none => ⟨#[0, i]⟩
noncomputable def tb : Tb := ⟨tab, atNf, fun i => fnNL.getD i "", fun i => fnAL.getD i 0, fun i => clNL.getD (min i 16) "", fun i => clAL.getD (min i 16) 0, fun i => glNL.getD i "", 38, 35, 29, 32, 15, 67, 34⟩
noncomputable def ck1 (K : Frag) : Bool := (List.range 15).all fun c => atL.all fun x => stOk K (tb.clsA c) x
noncomputable def ck0 (K : Frag) : Bool := (List.range 15).all fun c => (List.range 29).all fun i => atOk K (tb.clsA c) (tb.atN i)
noncomputable def ck2 (K : Frag) : Bool := (List.range 4).all (fun i => atOk K tb.nodeC (tb.atN i)) && (List.range 6).all (fun i => stOk K tb.nodeC (tb.atN i))
noncomputable def ck3 (K : Frag) : Bool := (List.range 67).all fun f => ktsB K (tb.fnN f) (.ref (tb.fnA f)) && keepIn K (.ref (tb.fnA f))
noncomputable def ck4 (K : Frag) : Bool := (List.range 15).all fun c => ktsB K (tb.clN c) (.ref (tb.clsA c)) && initB K (tb.clsA c) ((tb.tab.init c).map tb.fnA)
noncomputable def ck5 (K : Frag) : Bool := (List.range 15).all fun c => (List.range 32).all fun i => match tb.tab.meth c i with | some f => methB K (tb.clsA c) (tb.atN i) (tb.fnA f) | none => true
noncomputable def ck6 (K : Frag) : Bool := [BF.len, .str, .abs, .int, .max, .isStr, .divmod, .all].all (fun f => ktsB K (bfN f) (bfV f)) && ktsB K "Node" (.ref tb.nodeC) && initB K tb.nodeC (some tb.nodeI) && nodeB K tb && ktsB K "range" (.type "range")
noncomputable def exI (c : Nat) : Addr := if c ≤ 15 then 237 else 197
noncomputable def ck7 (K : Frag) : Bool := [15, 16].all (fun c => ktsB K (tb.clN c) (.ref (tb.clsA c)) && exB K (tb.clsA c) (exI c)) && exN K (tb.clsA 15) (tb.clsA 16) && exN K (tb.clsA 16) (tb.clsA 15)
noncomputable def ck8 (K : Frag) (f : Nat) : Bool := match fns f with | some F => fnB K tb F (tb.fnA f) (nmL.getD f []) | none => true
end
section
open PySem.SeqAt
set_option genCtorIdx false
set_option genSizeOf false
set_option genInjectivity false
noncomputable def kR1 (d : D) (v : Value) : Bool := match d with
  | .int i => (match v with | .int j _ => i == j | _ => false)
  | .str x => (match v with | .str y _ => y == toS x | _ => false)
  | _ => false
noncomputable def kRL : List D → List Value → Bool
  | [], vs => vs.isEmpty
  | d :: ds, vs => bC vs fun v vs => kR1 d v && kRL ds vs
noncomputable def kRep (K : Frag) (d : D) (v : Value) : Bool := match d with
  | .tup l => bO (refO v) fun a => bO (K.lookup a) fun o => o.cls == .type "tuple" && bO (seqO o) fun its => kRL l its.1.toList
  | _ => kR1 d v
theorem kR1_rep {X : Cx} {h : Heap} {d : D} {v : Value} (e : kR1 d v = true) : Rep X h [] [] d v := by
  cases d with
  | int i => cases v with
    | int j t => exact ⟨t, by rw [beq_iff_eq.mp e]⟩
    | _ => exact absurd e Bool.false_ne_true
  | str x => cases v with
    | str y t => exact ⟨t, by rw [beq_iff_eq.mp e]⟩
    | _ => exact absurd e Bool.false_ne_true
  | _ => exact absurd e Bool.false_ne_true
theorem kRL_rep {X : Cx} {h : Heap} : ∀ {ds : List D} {vs : List Value}, kRL ds vs = true → RepL X h [] [] ds vs := by
  intro ds
  induction ds with
  | nil => intro vs e; exact List.isEmpty_iff.mp e
  | cons d ds ih => intro vs e; exact bC_el (P := fun vs => RepL X h [] [] (d :: ds) vs) e fun v vs e => RepL.cons (kR1_rep (bAnd e).1) (ih (bAnd e).2)
theorem freeNil {a : Addr} : Free [] [] a := ⟨(fun h => nomatch h), fun p hp => nomatch hp⟩
theorem kRep_rep {X : Cx} {h : Heap} {d : D} {v : Value} (KX : X.K.In h) (e : kRep X.K d v = true) : Rep X h [] [] d v := by
  cases d with
  | tup l =>
    obtain ⟨a, hv, e⟩ := bO_inv (show bO (refO v) _ = true from e)
    obtain ⟨⟨oc, od, dt, sl⟩, hk, e⟩ := bO_inv e
    obtain ⟨hc, e⟩ := bAnd e
    obtain ⟨⟨its, n⟩, hs, e⟩ := bO_inv e
    cases refO_inv hv
    cases seqO_inv hs
    cases (beq_iff_eq.mp hc : oc = _)
    exact ⟨a, its.toList, rfl, ⟨n, od, freeNil, sl, by rw [KX _ _ hk]⟩, kRL_rep e⟩
  | _ => exact kR1_rep e

noncomputable def dictO (o : Obj) : Option (Array DictEntry × Nat) := match o.data with | .dict es n => some (es, n) | _ => none
noncomputable def esOf (K : Frag) (a : Addr) : Array DictEntry := match (K.lookup a).bind dictO with | some p => p.1 | none => #[]
noncomputable def epOf (K : Frag) (a : Addr) : Nat := match (K.lookup a).bind dictO with | some p => p.2 | none => 0
noncomputable def kS (v : Value) : Str := match v with | .str x _ => x | _ => ⟨#[]⟩
noncomputable def isS (v : Value) : Bool := match v with | .str _ _ => true | _ => false
noncomputable def isI (j : Int) (v : Value) : Bool := match v with | .int i _ => i == j | _ => false
theorem isS_of {v : Value} (h : isS v = true) : ∃ t, v = .str (kS v) t := by cases v <;> first | exact ⟨_, rfl⟩ | exact absurd h Bool.false_ne_true
theorem isI_of {j : Int} {v : Value} (h : isI j v = true) : ∃ t, v = .int j t := by cases v <;> first | exact ⟨_, by rw [beq_iff_eq.mp h]⟩ | exact absurd h Bool.false_ne_true
structure Pref (K : Frag) (P : Params) : Prop where
  obj : K.lookup 263 = some ⟨.type "dict", none, .dict (esOf K 263) (epOf K 263), #[]⟩
  hash : (esOf K 263).toList.map (·.hash) = (esOf K 263).toList.map fun e => PyData.keyHash P (kS e.key)
  keys : ((esOf K 263).toList.map fun e => (isS e.key, kS e.key)) = [(true, toS [48, 120]), (true, toS [48, 111]), (true, toS [48, 98])]
  vals : bC (esOf K 263).toList (fun a l => b2 l fun b c => isI 16 a.val && isI 8 b.val && isI 2 c.val) = true
  name : nsIn K mainGlobals ("PREFIX_BASES" : Str) = some (some (.ref 263))
theorem keysLit_of {P : Params} : ∀ {l : List DictEntry}, (∀ e ∈ l, isS e.key = true) → l.map (·.hash) = l.map (fun e => PyData.keyHash P (kS e.key)) → KeysLit P l := by
  intro l
  induction l with
  | nil => exact fun _ _ => trivial
  | cons e l ih =>
    intro h q
    obtain ⟨q1, q2⟩ := List.cons.inj q
    obtain ⟨t, ht⟩ := isS_of (h e (.head _))
    exact ⟨⟨kS e.key, t, ht, q1⟩, ih (fun e he => h e (.tail _ he)) q2⟩
theorem keyB {v : Value} {x y : Tx} (hv : isS v = true) (hk : kS v = toS y) : Value.isStrOf (toS x) v = (x == y) := by
  obtain ⟨t, ht⟩ := isS_of hv
  rw [ht, hk]
  rw [← toS_beq x y]
  first | rfl | (show (toS y == toS x) = _; rw [Bool.beq_comm])
theorem prefOk_of {X : Cx} (KX : X.K.In X.base) (p : Pref X.K X.w.params) : PrefOk X := by
  obtain ⟨h1, h2, h3, h4, h5⟩ := p
  have hk : ktsB X.K ("PREFIX_BASES" : Str) (.ref 263) = true := by unfold ktsB; rw [h5]; rfl
  have hs : ∀ e ∈ (esOf X.K 263).toList, isS e.key = true := fun e he => by
    have q := List.mem_map_of_mem (f := fun e : DictEntry => (isS e.key, kS e.key)) he
    rw [h3] at q
    rcases List.mem_cons.mp q with q | q
    · exact (Prod.mk.inj q).1
    · rcases List.mem_cons.mp q with q | q
      · exact (Prod.mk.inj q).1
      · exact (Prod.mk.inj (List.mem_singleton.mp q)).1
  refine ⟨263, _, hk, mapOf_K KX h1 (keysLit_of hs h2), by decide, fun x => ?_⟩
  have ha : esOf X.K 263 = (esOf X.K 263).toList.toArray := by rw [Array.toArray_toList]
  rw [ha]
  clear ha h1 h2 hs
  revert h3
  refine bC_el (P := fun l => l.map (fun e : DictEntry => (isS e.key, kS e.key)) = _ → match findBy _ l.toArray (toS x) with | some v => ∃ t, v = .int (prefB x) t | none => prefB x = 10) h4 fun a l h4 => b2_el (P := fun l => (a :: l).map (fun e : DictEntry => (isS e.key, kS e.key)) = _ → match findBy _ (a :: l).toArray (toS x) with | some v => ∃ t, v = .int (prefB x) t | none => prefB x = 10) h4 fun b c h4 h3 => ?_
  obtain ⟨v12, v3⟩ := bAnd h4
  obtain ⟨v1, v2⟩ := bAnd v12
  obtain ⟨k1, h3⟩ := List.cons.inj h3
  obtain ⟨k2, h3⟩ := List.cons.inj h3
  obtain ⟨k3, _⟩ := List.cons.inj h3
  unfold findBy
  rw [List.find?_toArray, List.find?_cons, List.find?_cons, List.find?_cons, List.find?_nil, keyB (Prod.mk.inj k1).1 (Prod.mk.inj k1).2, keyB (Prod.mk.inj k2).1 (Prod.mk.inj k2).2, keyB (Prod.mk.inj k3).1 (Prod.mk.inj k3).2]
  unfold prefB
  cases q1 : x == [48, 120] with
  | true => exact isI_of v1
  | false =>
    cases q2 : x == [48, 111] with
    | true => exact isI_of v2
    | false =>
      cases q3 : x == [48, 98] with
      | true => exact isI_of v3
      | false => rfl
end
section
open PySem.SeqAt
set_option genCtorIdx false
set_option genSizeOf false
set_option genInjectivity false
noncomputable def ckG (K : Frag) : Bool := (List.range 34).all fun g => bO (nsIn K mainGlobals (tb.glN g)) fun o => bO o fun v => kRep K (tb.tab.glob g) v
structure Cks (K : Frag) (P : Params) : Prop where
  c0 : ck0 K = true
  c1 : ck1 K = true
  c2 : ck2 K = true
  c3 : ck3 K = true
  c4 : ck4 K = true
  c5 : ck5 K = true
  c6 : ck6 K = true
  c7 : ck7 K = true
  c8 : (List.range 82).all (ck8 K) = true
  cG : ckG K = true
  pf : Pref K P
  law : nsIn K mainGlobals ("law" : Str) = some (some (.ref 1138))
  there : (K.lookup 1138).isSome = true
theorem atL_nodup : atL.Nodup := by decide +kernel
theorem atL_no : ∀ x ∈ atL, x.cps[0]? ≠ some 0 := by decide +kernel
theorem atL_len : 32 ≤ atL.length := by decide +kernel
theorem atNf_inj : ∀ i j, atNf i = atNf j → i = j := by
  intro i j e
  unfold atNf at e
  cases hs : atL[i]? with
  | some s =>
    rw [hs] at e
    cases ht : atL[j]? with
    | some t =>
      rw [ht] at e
      have e : s = t := e
      subst e
      obtain ⟨hi, ei⟩ := List.getElem?_eq_some_iff.mp hs
      obtain ⟨hj, ej⟩ := List.getElem?_eq_some_iff.mp ht
      rcases Nat.lt_trichotomy i j with h | h | h
      · exact absurd (ei.trans ej.symm) (List.pairwise_iff_getElem.mp atL_nodup i j hi hj h)
      · exact h
      · exact absurd (ej.trans ei.symm) (List.pairwise_iff_getElem.mp atL_nodup j i hj hi h)
    | none =>
      rw [ht] at e
      have e : s = ⟨#[0, j]⟩ := e
      exact absurd (by rw [e]; rfl) (atL_no s (List.mem_of_getElem? hs))
  | none =>
    rw [hs] at e
    cases ht : atL[j]? with
    | some t =>
      rw [ht] at e
      have e : ⟨#[0, i]⟩ = t := e
      exact absurd (by rw [← e]; rfl) (atL_no t (List.mem_of_getElem? ht))
    | none =>
      rw [ht] at e
      have e : (⟨#[0, i]⟩ : Str) = ⟨#[0, j]⟩ := e
      have := congrArg (fun s : Str => s.cps[1]?) e
      simpa using this
theorem atN_mem {i : Nat} (h : i < 29) : tb.atN i ∈ atL := by
  show atNf i ∈ atL
  have : i < atL.length := Nat.lt_of_lt_of_le (by lia) atL_len
  unfold atNf
  rw [List.getElem?_eq_getElem this]
  exact List.getElem_mem this
theorem fns_none {f : Nat} (h : 82 ≤ f) : fns f = none := by
  unfold fns
  exact List.getElem?_eq_none (Nat.le_trans (by decide) h)
theorem ex_range {p : Nat → Bool} {n : Nat} (h : (List.range n).all p = true) {i : Nat} (hi : i < n) : p i = true := List.all_eq_true.mp h i (List.mem_range.mpr hi)

section
variable {prog : Program} {w : World} {view : Program} {loose : List Str} {mg mb : Str → Option Value} {s₁ : Shared} {K : Frag}
noncomputable def cutH (h : Heap) (n : Nat) : Heap := ⟨h.objs.extract 0 n, h.life⟩
theorem cut_ex (h : Heap) : ∀ n, n ≤ h.objs.size → (∀ b, n ≤ b → h.get? b = none) → ∃ n', n' ≤ n ∧ (∀ b, (cutH h n').get? b = h.get? b) ∧ Last (cutH h n') := by
  intro n
  induction n with
  | zero =>
    intro _ hz
    refine ⟨0, Nat.le_refl _, fun b => ?_, .inl (by simp [cutH])⟩
    rw [hz b (Nat.zero_le _)]
    unfold Heap.get? cutH
    simp
  | succ n ih =>
    intro hn hz
    cases q : h.get? n with
    | none =>
      obtain ⟨n', a, b⟩ := ih (by lia) (fun b hb => by
        rcases Nat.lt_or_ge n b with h1 | h1
        · exact hz b h1
        · obtain rfl : b = n := by lia
          exact q)
      exact ⟨n', by lia, b⟩
    | some o =>
      have same : ∀ b, (cutH h (n + 1)).get? b = h.get? b := fun b => by
        rcases Nat.lt_or_ge b (n + 1) with h1 | h1
        · unfold Heap.get? cutH
          have : (h.objs.extract 0 (n + 1))[b]? = h.objs[b]? := by
            rw [Array.getElem?_extract]
            rw [if_pos (by lia)]
            simp
          simp only [this]
        · rw [hz b h1]
          unfold Heap.get? cutH
          have : (h.objs.extract 0 (n + 1))[b]? = none := by
            rw [Array.getElem?_eq_none]
            simp
            lia
          simp only [this]
      refine ⟨n + 1, Nat.le_refl _, same, .inr ⟨o, ?_⟩⟩
      rw [same]
      have : (cutH h (n + 1)).objs.size = n + 1 := by simp [cutH]; lia
      rw [this]
      exact q

theorem law_call (C : Cks K w.params) (KI : K.In s₁.heap) (T : TopRead view loose mg mb s₁.heap) {l : Addr} {vs : List Value} {ns : List Int} (hns : ns.length ≤ 63)
    (hL : s₁.heap.IsList l vs.toArray) (hI : IntsAre vs ns) :
    wpAny (model prog w) callerA (call (.ref 1138) [.ref l]) (fun v s' => v = .bool true ∧ (∀ b o, s₁.heap.get? b = some o → s'.heap.get? b = some o) ∧ s'.os = s₁.os ∧ s'.gens = s₁.gens) (fun _ _ => False) s₁ := by
  obtain ⟨n', hn', same, LA⟩ := cut_ex s₁.heap s₁.heap.objs.size (Nat.le_refl _) (fun b hb => Heap.get?_none_of_le hb)
  let X : Cx := ⟨prog, w, cutH s₁.heap n', K, view, loose, mg, mb, tb, s₁.gens, s₁.os⟩
  have keep : ∀ b o, s₁.heap.get? b = some o → X.base.get? b = some o := fun b o e => (same b).trans e
  have KX : X.K.In X.base := fun a o e => keep a o (KI a o e)
  have hs : sysModules < X.base.objs.size := by
    obtain ⟨o, ho⟩ := Option.isSome_iff_exists.mp C.there
    exact Nat.lt_trans (by decide) (Heap.lt_size (KX _ _ ho))
  have O : X.Ok := by
    refine ⟨KX, T.keeps keep, atNf_inj, fun c hc i hi => ?_, fun i hi => ?_, fun c hc i hi => ?_, fun i hi => ?_, trivial, fun f hf => ?_, fun c hc => ?_, fun c hc i hi f hf => ?_, fun f => ?_, ?_, fun g hg => ?_⟩
    · exact ex_range (ex_range C.c0 hc) hi
    · have := C.c2; unfold ck2 at this; exact ex_range (Bool.and_eq_true_iff.mp this).1 hi
    · exact List.all_eq_true.mp (ex_range C.c1 hc) _ (atN_mem hi)
    · have := C.c2; unfold ck2 at this; exact ex_range (Bool.and_eq_true_iff.mp this).2 hi
    · exact Bool.and_eq_true_iff.mp (ex_range C.c3 hf)
    · exact Bool.and_eq_true_iff.mp (ex_range C.c4 hc)
    · have := ex_range (ex_range C.c5 hc) hi
      revert this
      show (match tb.tab.meth c i with | some f => methB K (tb.clsA c) (tb.atN i) (tb.fnA f) | none => true) = true → _
      have hf : tb.tab.meth c i = some f := hf
      rw [hf]
      exact id
    · have := C.c6
      unfold ck6 at this
      simp only [Bool.and_eq_true, List.all_cons, List.all_nil] at this
      obtain ⟨⟨⟨⟨⟨a1, a2, a3, a4, a5, a6, a7, a8, -⟩, -⟩, -⟩, -⟩, -⟩ := this
      cases f <;> assumption
    · have := C.c6
      unfold ck6 at this
      simp only [Bool.and_eq_true] at this
      exact ⟨this.1.1.1.2, this.1.1.2⟩
    · have := ex_range C.cG hg
      obtain ⟨o, hv, this⟩ := bO_inv this
      obtain ⟨v, rfl, this⟩ := bO_inv this
      exact ⟨v, by unfold ktsB; rw [show nsIn X.K mainGlobals (X.B.glN g) = _ from hv]; simp, kRep_rep KX this⟩
  have PO : PrefOk X := prefOk_of KX C.pf
  have c6 := C.c6
  unfold ck6 at c6
  simp only [Bool.and_eq_true] at c6
  have c7 := C.c7
  unfold ck7 at c7
  simp only [Bool.and_eq_true, List.all_cons, List.all_nil, Bool.and_true] at c7
  have cl16 : ∀ c, 16 ≤ c → tb.clN c = tb.clN 16 ∧ tb.clsA c = tb.clsA 16 ∧ exI c = exI 16 := fun c hc => by
    have : min c 16 = 16 := by lia
    refine ⟨?_, ?_, ?_⟩
    · show clNL.getD (min c 16) "" = clNL.getD (min 16 16) ""; rw [this]; rfl
    · show clAL.getD (min c 16) 0 = clAL.getD (min 16 16) 0; rw [this]; rfl
    · unfold exI; rw [if_neg (by lia), if_neg (by lia)]
  have XO : ExcOk X := ⟨exI, fun c hc => by
    have hc : 15 ≤ c := hc
    rcases Nat.lt_or_ge c 16 with h | h
    · obtain rfl : c = 15 := by lia
      exact c7.1.1.1
    · obtain ⟨a, b, d⟩ := cl16 c h
      show ktsB K (tb.clN c) (.ref (tb.clsA c)) = true ∧ exB K (tb.clsA c) (exI c) = true
      rw [a, b, d]
      exact c7.1.1.2⟩
  have XS : ExcSep X := fun c c' hc hc' hne => by
    have hc : 15 ≤ c := hc
    have hc' : 15 ≤ c' := hc'
    have hne : tb.clsA c ≠ tb.clsA c' := hne
    show exN K (tb.clsA c) (tb.clsA c') = true
    have two : ∀ c, 15 ≤ c → tb.clsA c = tb.clsA 15 ∨ tb.clsA c = tb.clsA 16 := fun c hc => by
      rcases Nat.lt_or_ge c 16 with h | h
      · obtain rfl : c = 15 := by lia
        exact .inl rfl
      · exact .inr (cl16 c h).2.1
    rcases two c hc with a | a <;> rcases two c' hc' with b | b <;> rw [a, b]
    · exact absurd (a.trans b.symm) hne
    · exact c7.1.2
    · exact c7.2
    · exact absurd (a.trans b.symm) hne
  have FS : FnsOk X fns := fun f F hF => by
    rcases Nat.lt_or_ge f 82 with h | h
    · have := ex_range C.c8 h
      unfold ck8 at this
      rw [hF] at this
      exact ⟨_, this⟩
    · rw [fns_none h] at hF; cases hF
  have W := wf_sound O c6.1.2 PO XO XS c6.2 LA FS 110
  have g : G X [] [] [] s₁ := ⟨fun b o e => (same b).symm.trans e, trivial, rfl, (fun n mo p a _ => nomatch (List.getElem?_nil.symm.trans a : none = some mo)), (fun p hp => nomatch hp), (fun i j p q a _ _ => nomatch (List.getElem?_nil.symm.trans a : none = some p)), rfl, rfl, hs, (fun p hp => nomatch hp)⟩
  have R : RepL X s₁.heap [] (banOf []) [.lst (ns.map .int)] [.ref l] := by
    obtain ⟨⟨oc, od, odt, osl⟩, ho, hc, n, hd⟩ := hL
    cases hc; cases hd
    refine RepL.cons ⟨l, vs, rfl, ⟨n, od, freeNil, osl, ho⟩, ?_⟩ RepL.nil
    clear ho hns
    induction hI with
    | nil => exact RepL.nil
    | cons n t _ ih => exact RepL.cons ⟨_, rfl⟩ ih
  refine wpAny_call (codeAny_mono (W callerA [] 66 _ _ [] [] s₁ (fun d _ => d = .bool true) (fun _ _ => False) ⟨rfl, rfl, by decide, by decide⟩ g R (s66 (Nat.le_refl _) hns fun _ => rfl)) fun r s' q => ?_)
  rcases r with e | (v | _ | _ | _)
  · obtain ⟨_, _, _, _, _, _, z⟩ := q; exact z.elim
  · exact q.elim
  · exact q.elim
  · exact q.elim
  · obtain ⟨d, σ', lay', g', E', R', rfl⟩ := q
    exact ⟨R', fun b o e => E'.keep b o e freeNil, g'.os, g'.gens⟩
end
end
section
open PySem.SeqAt
set_option maxRecDepth 100000
theorem walk_of {q : Program} {loose : List Str} {XP : (Str → Option Value) → Heap → Prop} {K : Params → Frag} {as : List Addr} {e : ∀ P, as = (K P).map (·.1)} {d : DefRec} {kwd : List (Str × Expr)}
    (C : ∀ P, Cks (K P) P) (hn : d.name = ("law" : Str)) : WalkO q loose XP (kHook K as e).says PySem.Challenge.rw_sj0094_01.row.toRowW d kwd (fun f vs => PySem.call f vs) := by
  intro w s₀ s₁ mg mb G Y a o pm cd doc dV kV ho hd hcd hD hmg hg args vals as hpre hlay hrd hwl hlo
  have KX := kIn_of Y
  have T := topRead_of G.T
  have C := C w.params
  rw [hn] at hmg
  wrow_args hpre hlay hrd hwl hlo
  rename_i ns _ _ _ _ _ _ _ _ vs _ hL _ _ _ hI _ hns _
  obtain rfl : a = 1138 := by
    have h := mg_of KX T.g C.law
    rw [hmg] at h
    injection h with h
    injection h
  refine wpAny_mono (law_call C KX T (by omega) hL hI) (fun v s' ⟨hv, k, os, gens⟩ => ?_) fun _ _ z => z.elim
  subst hv
  exact GoodW.toG ⟨.inl ⟨_, .bool true, [], rfl, raisesW_false (by wrow_none_raised), .bool true, by wrow_post, unshared_nil⟩, k, os, gens.trans hg⟩
end
end Mine
namespace Mine.head
theorem tw10005452208157733855 : True := ⟨⟩
theorem tw10010264046613662565 : True := ⟨⟩
theorem tw10015159338476511836 : True := ⟨⟩
theorem tw10018764681926925449 : True := ⟨⟩
theorem tw10021064610941686981 : True := ⟨⟩
theorem tw10059252607514160932 : True := ⟨⟩
theorem tw10070411193226618655 : True := ⟨⟩
theorem tw10079960370226730655 : True := ⟨⟩
theorem tw10110233660360586483 : True := ⟨⟩
theorem tw10116942457455264815 : True := ⟨⟩
theorem tw10128390137947593754 : True := ⟨⟩
theorem tw10128820837102578890 : True := ⟨⟩
theorem tw10205530081349824492 : True := ⟨⟩
theorem tw10219969208760847505 : True := ⟨⟩
theorem tw10242447542790323104 : True := ⟨⟩
theorem tw10258521583956687137 : True := ⟨⟩
theorem tw10261356005730403935 : True := ⟨⟩
theorem tw10270352894671993868 : True := ⟨⟩
theorem tw10317212456122042642 : True := ⟨⟩
theorem tw10333954764705244698 : True := ⟨⟩
theorem tw10340462753498674063 : True := ⟨⟩
theorem tw10366927770000222440 : True := ⟨⟩
theorem tw10400636543074173776 : True := ⟨⟩
theorem tw10431609616501453582 : True := ⟨⟩
theorem tw10457615780465708087 : True := ⟨⟩
theorem tw10467814448475477596 : True := ⟨⟩
theorem tw10472834687351259785 : True := ⟨⟩
theorem tw10473046153238643847 : True := ⟨⟩
theorem tw10504981510240967646 : True := ⟨⟩
theorem tw1050551135032985961 : True := ⟨⟩
theorem tw10510183946089719056 : True := ⟨⟩
theorem tw10510622979536455646 : True := ⟨⟩
theorem tw10519217271611395807 : True := ⟨⟩
theorem tw10521553517811329670 : True := ⟨⟩
theorem tw10533634037010066435 : True := ⟨⟩
theorem tw10543949373246347543 : True := ⟨⟩
theorem tw1056085985882870562 : True := ⟨⟩
theorem tw1057231242359075819 : True := ⟨⟩
theorem tw10573961123116132518 : True := ⟨⟩
theorem tw1060599470133986369 : True := ⟨⟩
theorem tw1061700454162486011 : True := ⟨⟩
theorem tw10620185905779755679 : True := ⟨⟩
theorem tw10668533816033670360 : True := ⟨⟩
theorem tw10698650227242318774 : True := ⟨⟩
theorem tw10706776884845955466 : True := ⟨⟩
theorem tw10709215830434865391 : True := ⟨⟩
theorem tw10728099843983068593 : True := ⟨⟩
theorem tw10730805705081004914 : True := ⟨⟩
theorem tw10735254221757914791 : True := ⟨⟩
theorem tw10736139440505347576 : True := ⟨⟩
theorem tw10746725682022337571 : True := ⟨⟩
theorem tw10786079294511566085 : True := ⟨⟩
theorem tw10812213935944405949 : True := ⟨⟩
theorem tw1082313596108445148 : True := ⟨⟩
theorem tw10840385229135970747 : True := ⟨⟩
theorem tw10845400790151957771 : True := ⟨⟩
theorem tw10865165270600546614 : True := ⟨⟩
theorem tw10875119458065257276 : True := ⟨⟩
theorem tw10900948863051656163 : True := ⟨⟩
theorem tw10936905620487946977 : True := ⟨⟩
theorem tw10948677003083999065 : True := ⟨⟩
theorem tw10987702880554017565 : True := ⟨⟩
theorem tw10988817232074504935 : True := ⟨⟩
theorem tw11008383303370536362 : True := ⟨⟩
theorem tw11052631288978436188 : True := ⟨⟩
theorem tw11063524718261073790 : True := ⟨⟩
theorem tw11081218982966106116 : True := ⟨⟩
theorem tw11097941207591946120 : True := ⟨⟩
theorem tw11105056867450500199 : True := ⟨⟩
theorem tw11116721612917661325 : True := ⟨⟩
theorem tw11180365069992382532 : True := ⟨⟩
theorem tw1125430239929706018 : True := ⟨⟩
theorem tw11255790879490906821 : True := ⟨⟩
theorem tw11288620263138037190 : True := ⟨⟩
theorem tw11289835788462762251 : True := ⟨⟩
theorem tw11290360913936777911 : True := ⟨⟩
theorem tw11296743742662292762 : True := ⟨⟩
theorem tw11305582741114486441 : True := ⟨⟩
theorem tw11308087075614649832 : True := ⟨⟩
theorem tw11338825007792423415 : True := ⟨⟩
theorem tw1134157569726261602 : True := ⟨⟩
theorem tw11402027661713467040 : True := ⟨⟩
theorem tw11426403942048686318 : True := ⟨⟩
theorem tw11427066125472700054 : True := ⟨⟩
theorem tw11434997419882176723 : True := ⟨⟩
theorem tw1146124256749630112 : True := ⟨⟩
theorem tw11484358847640170188 : True := ⟨⟩
theorem tw11484797826999851062 : True := ⟨⟩
theorem tw11489841586311698586 : True := ⟨⟩
theorem tw11544532188706048022 : True := ⟨⟩
theorem tw11569442021236766091 : True := ⟨⟩
theorem tw11582096051123008839 : True := ⟨⟩
theorem tw11597336398036118778 : True := ⟨⟩
theorem tw11613311375368785083 : True := ⟨⟩
theorem tw11628534518673281344 : True := ⟨⟩
theorem tw11629762434490789354 : True := ⟨⟩
theorem tw11636873012791513418 : True := ⟨⟩
theorem tw11680266561614322678 : True := ⟨⟩
theorem tw11692735721529064706 : True := ⟨⟩
theorem tw11704837465938651953 : True := ⟨⟩
theorem tw11714945338242495837 : True := ⟨⟩
theorem tw11715283913529211631 : True := ⟨⟩
theorem tw11724780754615379514 : True := ⟨⟩
theorem tw1172538174109094731 : True := ⟨⟩
theorem tw11732908120936727654 : True := ⟨⟩
theorem tw11770459041652445329 : True := ⟨⟩
theorem tw11819297519747316193 : True := ⟨⟩
theorem tw11821203517306503961 : True := ⟨⟩
theorem tw11857307637417881527 : True := ⟨⟩
theorem tw11862927689305589065 : True := ⟨⟩
theorem tw11875222034059031058 : True := ⟨⟩
theorem tw11893822550167381502 : True := ⟨⟩
theorem tw11904684991359361074 : True := ⟨⟩
theorem tw11923155195566972133 : True := ⟨⟩
theorem tw11925700103697007601 : True := ⟨⟩
theorem tw11988142204041823098 : True := ⟨⟩
theorem tw12024539317367501503 : True := ⟨⟩
theorem tw12032222614953749359 : True := ⟨⟩
theorem tw12037728316022314418 : True := ⟨⟩
theorem tw12074249297620881909 : True := ⟨⟩
theorem tw12084453891678590660 : True := ⟨⟩
theorem tw1211024037004892549 : True := ⟨⟩
theorem tw12120646240234225243 : True := ⟨⟩
theorem tw12147184966966947637 : True := ⟨⟩
theorem tw12155874385896679157 : True := ⟨⟩
theorem tw12157662564070965069 : True := ⟨⟩
theorem tw1216361941278037836 : True := ⟨⟩
theorem tw12182850187970735909 : True := ⟨⟩
theorem tw12207028300977255130 : True := ⟨⟩
theorem tw12212823987433534256 : True := ⟨⟩
theorem tw12214093580764582487 : True := ⟨⟩
theorem tw12244833863542804788 : True := ⟨⟩
theorem tw1224924573807776437 : True := ⟨⟩
theorem tw12249523057431388528 : True := ⟨⟩
theorem tw12275693417441809861 : True := ⟨⟩
theorem tw12280473595433404654 : True := ⟨⟩
theorem tw12287978374625458572 : True := ⟨⟩
theorem tw12310735299239354703 : True := ⟨⟩
theorem tw12324890628731678277 : True := ⟨⟩
theorem tw12328230846540189838 : True := ⟨⟩
theorem tw12339793173418651155 : True := ⟨⟩
theorem tw12352672977532951062 : True := ⟨⟩
theorem tw12359489953124434286 : True := ⟨⟩
theorem tw12364624919760631829 : True := ⟨⟩
theorem tw12371566548271132015 : True := ⟨⟩
theorem tw12394069701764826827 : True := ⟨⟩
theorem tw12398312691204496596 : True := ⟨⟩
theorem tw12417293695627231756 : True := ⟨⟩
theorem tw12428389735305899900 : True := ⟨⟩
theorem tw12454854806295420828 : True := ⟨⟩
theorem tw12459896231500858982 : True := ⟨⟩
theorem tw12460202669355646752 : True := ⟨⟩
theorem tw12472887615940459650 : True := ⟨⟩
theorem tw12475708393154427166 : True := ⟨⟩
theorem tw12478146576626367362 : True := ⟨⟩
theorem tw12573619785200380473 : True := ⟨⟩
theorem tw12581593161143036515 : True := ⟨⟩
theorem tw12596154207471609045 : True := ⟨⟩
theorem tw12604462930493870256 : True := ⟨⟩
theorem tw12611893724949602041 : True := ⟨⟩
theorem tw12630350610049390935 : True := ⟨⟩
theorem tw12666380852390969779 : True := ⟨⟩
theorem tw12682429181067543257 : True := ⟨⟩
theorem tw12695399030622205104 : True := ⟨⟩
theorem tw12704426703380559182 : True := ⟨⟩
theorem tw12727220549172885185 : True := ⟨⟩
theorem tw12740806245664736207 : True := ⟨⟩
theorem tw12741294794224977040 : True := ⟨⟩
theorem tw12763952150808568291 : True := ⟨⟩
theorem tw12764128322984676335 : True := ⟨⟩
theorem tw1276956409769668328 : True := ⟨⟩
theorem tw12773685731770592110 : True := ⟨⟩
theorem tw12795389718870424448 : True := ⟨⟩
theorem tw12799616582074740251 : True := ⟨⟩
theorem tw12799966317143952679 : True := ⟨⟩
theorem tw12822298378996975857 : True := ⟨⟩
theorem tw12841863872788715202 : True := ⟨⟩
theorem tw12851702773856589430 : True := ⟨⟩
theorem tw12856577281151766611 : True := ⟨⟩
theorem tw12858780395421280599 : True := ⟨⟩
theorem tw12865059321931465230 : True := ⟨⟩
theorem tw12870424476946447624 : True := ⟨⟩
theorem tw12875325457547866274 : True := ⟨⟩
theorem tw12892129938458570674 : True := ⟨⟩
theorem tw12897481986808888594 : True := ⟨⟩
theorem tw12903917746401883607 : True := ⟨⟩
theorem tw12908475990344208633 : True := ⟨⟩
theorem tw1291722185910714397 : True := ⟨⟩
theorem tw12949380547846470161 : True := ⟨⟩
theorem tw12998212659555988865 : True := ⟨⟩
theorem tw13002585709282622103 : True := ⟨⟩
theorem tw13017206433863751270 : True := ⟨⟩
theorem tw13065621461132903086 : True := ⟨⟩
theorem tw13078646160514809887 : True := ⟨⟩
theorem tw13086575352542018947 : True := ⟨⟩
theorem tw13103776942435016318 : True := ⟨⟩
theorem tw13180129090757240718 : True := ⟨⟩
theorem tw13198292447841614426 : True := ⟨⟩
theorem tw13199516396595161752 : True := ⟨⟩
theorem tw1319983325249436295 : True := ⟨⟩
theorem tw13207290145799261777 : True := ⟨⟩
theorem tw13213268828098156179 : True := ⟨⟩
theorem tw13227620805987009915 : True := ⟨⟩
theorem tw13249071542605338262 : True := ⟨⟩
theorem tw13276723143375012678 : True := ⟨⟩
theorem tw13294958713779813728 : True := ⟨⟩
theorem tw13295082483830516422 : True := ⟨⟩
theorem tw13295774097974887486 : True := ⟨⟩
theorem tw13335025841360890868 : True := ⟨⟩
theorem tw13337238644230332656 : True := ⟨⟩
theorem tw13357441389134331599 : True := ⟨⟩
theorem tw13379354915994877463 : True := ⟨⟩
theorem tw13381877923881390905 : True := ⟨⟩
theorem tw13381936622781507537 : True := ⟨⟩
theorem tw13397106695672350980 : True := ⟨⟩
theorem tw13478637309914159250 : True := ⟨⟩
theorem tw13508044439285423174 : True := ⟨⟩
theorem tw13510609219080548989 : True := ⟨⟩
theorem tw13537664574400122534 : True := ⟨⟩
theorem tw13585267454733459922 : True := ⟨⟩
theorem tw13600378441667735501 : True := ⟨⟩
theorem tw13605870324054321959 : True := ⟨⟩
theorem tw13631071318896544983 : True := ⟨⟩
theorem tw13637325136056909300 : True := ⟨⟩
theorem tw13653928888864918839 : True := ⟨⟩
theorem tw13664066127859960707 : True := ⟨⟩
theorem tw13687475568465949530 : True := ⟨⟩
theorem tw13689084217373910675 : True := ⟨⟩
theorem tw13716612621254738421 : True := ⟨⟩
theorem tw13743032657059413451 : True := ⟨⟩
theorem tw13750642191701924398 : True := ⟨⟩
theorem tw13800718416732639697 : True := ⟨⟩
theorem tw13801937863458859944 : True := ⟨⟩
theorem tw13846591363081406657 : True := ⟨⟩
theorem tw13896987355042952010 : True := ⟨⟩
theorem tw13906610036690215845 : True := ⟨⟩
theorem tw13910694723763315657 : True := ⟨⟩
theorem tw13930179049932442014 : True := ⟨⟩
theorem tw13932022402069264104 : True := ⟨⟩
theorem tw13942192884097748152 : True := ⟨⟩
theorem tw13954853420313727417 : True := ⟨⟩
theorem tw13955511503576765797 : True := ⟨⟩
theorem tw1398043889541792783 : True := ⟨⟩
theorem tw13986843968525588388 : True := ⟨⟩
theorem tw13988103294471073821 : True := ⟨⟩
theorem tw13999681649124312864 : True := ⟨⟩
theorem tw140066278072042493 : True := ⟨⟩
theorem tw14028522991509751376 : True := ⟨⟩
theorem tw14052462110222582248 : True := ⟨⟩
theorem tw14059167943309011982 : True := ⟨⟩
theorem tw14061139507663348314 : True := ⟨⟩
theorem tw14086173767186703872 : True := ⟨⟩
theorem tw14112020806712329415 : True := ⟨⟩
theorem tw14112051064653734678 : True := ⟨⟩
theorem tw14127983276867164173 : True := ⟨⟩
theorem tw14139502460874162764 : True := ⟨⟩
theorem tw14139617269561922093 : True := ⟨⟩
theorem tw14149492867418468938 : True := ⟨⟩
theorem tw14158537116620707164 : True := ⟨⟩
theorem tw14168692526580214153 : True := ⟨⟩
theorem tw14195316510222423288 : True := ⟨⟩
theorem tw14205479233844494046 : True := ⟨⟩
theorem tw14220653579789841498 : True := ⟨⟩
theorem tw14235953900361662071 : True := ⟨⟩
theorem tw14241001667801471300 : True := ⟨⟩
theorem tw1425459126675767727 : True := ⟨⟩
theorem tw14277528927401260903 : True := ⟨⟩
theorem tw14306030232151103276 : True := ⟨⟩
theorem tw14330330676051879864 : True := ⟨⟩
theorem tw14344768424176206936 : True := ⟨⟩
theorem tw14349913743752837093 : True := ⟨⟩
theorem tw14364637388885140079 : True := ⟨⟩
theorem tw14385403278947933607 : True := ⟨⟩
theorem tw1438866918597655640 : True := ⟨⟩
theorem tw14393718171448925343 : True := ⟨⟩
theorem tw14412733801367601576 : True := ⟨⟩
theorem tw14417885227837004991 : True := ⟨⟩
theorem tw14427283581363961175 : True := ⟨⟩
theorem tw14432977821161478157 : True := ⟨⟩
theorem tw14488727979953464203 : True := ⟨⟩
theorem tw14512941343882779238 : True := ⟨⟩
theorem tw14513887754847984766 : True := ⟨⟩
theorem tw14524160177008508720 : True := ⟨⟩
theorem tw14531177953140590962 : True := ⟨⟩
theorem tw14565420633037775528 : True := ⟨⟩
theorem tw1457377512435260902 : True := ⟨⟩
theorem tw14586503196746008701 : True := ⟨⟩
theorem tw14597329475937083939 : True := ⟨⟩
theorem tw14615432700455777464 : True := ⟨⟩
theorem tw14628233357713752721 : True := ⟨⟩
theorem tw14631306762972528136 : True := ⟨⟩
theorem tw14631705268626504575 : True := ⟨⟩
theorem tw1463646239528298992 : True := ⟨⟩
theorem tw14637134836413734856 : True := ⟨⟩
theorem tw14643560169476415855 : True := ⟨⟩
theorem tw14643959010103036307 : True := ⟨⟩
theorem tw14646466228836335164 : True := ⟨⟩
theorem tw14667470093908496907 : True := ⟨⟩
theorem tw14676189674455941282 : True := ⟨⟩
theorem tw14679116673082234219 : True := ⟨⟩
theorem tw14699528089545365996 : True := ⟨⟩
theorem tw14699756766385990792 : True := ⟨⟩
theorem tw14720509044617813951 : True := ⟨⟩
theorem tw14735301032572234722 : True := ⟨⟩
theorem tw14740928361383774428 : True := ⟨⟩
theorem tw14744981736328886265 : True := ⟨⟩
theorem tw14746898714274692784 : True := ⟨⟩
theorem tw14759185912286986992 : True := ⟨⟩
theorem tw14768688571040804171 : True := ⟨⟩
theorem tw14788773977795034992 : True := ⟨⟩
theorem tw14796412885826930917 : True := ⟨⟩
theorem tw14818019229276831692 : True := ⟨⟩
theorem tw14843749296085226474 : True := ⟨⟩
theorem tw1489404036187247834 : True := ⟨⟩
theorem tw14909605222495392915 : True := ⟨⟩
theorem tw14956371261235936329 : True := ⟨⟩
theorem tw1495726902847802894 : True := ⟨⟩
theorem tw14959218684248593190 : True := ⟨⟩
theorem tw14969385696402013904 : True := ⟨⟩
theorem tw14969395210118534408 : True := ⟨⟩
theorem tw14982685227137828758 : True := ⟨⟩
theorem tw14983349147647662914 : True := ⟨⟩
theorem tw1499353310998574721 : True := ⟨⟩
theorem tw14999265807660949796 : True := ⟨⟩
theorem tw15001418939266856263 : True := ⟨⟩
theorem tw15012772271602616124 : True := ⟨⟩
theorem tw1503407388533364548 : True := ⟨⟩
theorem tw15035418422258542911 : True := ⟨⟩
theorem tw15037083628117588352 : True := ⟨⟩
theorem tw15039987702171664376 : True := ⟨⟩
theorem tw1506576300011279404 : True := ⟨⟩
theorem tw15095179193122606544 : True := ⟨⟩
theorem tw15112835437128306455 : True := ⟨⟩
theorem tw15139545383330560262 : True := ⟨⟩
theorem tw15142167089309388077 : True := ⟨⟩
theorem tw15148963937461231693 : True := ⟨⟩
theorem tw15171285062763278426 : True := ⟨⟩
theorem tw15204471325056678010 : True := ⟨⟩
theorem tw15215111219801757744 : True := ⟨⟩
theorem tw1522823579158628613 : True := ⟨⟩
theorem tw1524684057812940815 : True := ⟨⟩
theorem tw15248001044337979736 : True := ⟨⟩
theorem tw15250023729529759990 : True := ⟨⟩
theorem tw15253147559959296200 : True := ⟨⟩
theorem tw15253846138512369154 : True := ⟨⟩
theorem tw15256841493749336786 : True := ⟨⟩
theorem tw15263674166054382079 : True := ⟨⟩
theorem tw15276008635203760711 : True := ⟨⟩
theorem tw15305915472762889579 : True := ⟨⟩
theorem tw15317023959539522800 : True := ⟨⟩
theorem tw15328847239876097677 : True := ⟨⟩
theorem tw15330342782969278459 : True := ⟨⟩
theorem tw15392136045813129965 : True := ⟨⟩
theorem tw15399148058966210843 : True := ⟨⟩
theorem tw15410735652082386980 : True := ⟨⟩
theorem tw15452280279296900796 : True := ⟨⟩
theorem tw15468718075485040107 : True := ⟨⟩
theorem tw15501141472565082077 : True := ⟨⟩
theorem tw15506723302920939300 : True := ⟨⟩
theorem tw15515612801736034068 : True := ⟨⟩
theorem tw15520248196984853422 : True := ⟨⟩
theorem tw15564447279633807951 : True := ⟨⟩
theorem tw15582730294447300881 : True := ⟨⟩
theorem tw15604011560834605598 : True := ⟨⟩
theorem tw15638870477510070732 : True := ⟨⟩
theorem tw15647610678857825673 : True := ⟨⟩
theorem tw15656768269340197940 : True := ⟨⟩
theorem tw15666658371737129944 : True := ⟨⟩
theorem tw15676425527210111115 : True := ⟨⟩
theorem tw15682741785845805564 : True := ⟨⟩
theorem tw15735840784391694233 : True := ⟨⟩
theorem tw15736342250582547807 : True := ⟨⟩
theorem tw15781038721244158349 : True := ⟨⟩
theorem tw15782939476341012554 : True := ⟨⟩
theorem tw15785421084128741142 : True := ⟨⟩
theorem tw15794997505209512671 : True := ⟨⟩
theorem tw15796087645652482245 : True := ⟨⟩
theorem tw15798066900824788120 : True := ⟨⟩
theorem tw15827502805916655846 : True := ⟨⟩
theorem tw15838623164411332158 : True := ⟨⟩
theorem tw15840312062823119879 : True := ⟨⟩
theorem tw15841401105113185080 : True := ⟨⟩
theorem tw15845715064670954444 : True := ⟨⟩
theorem tw15873191416987729925 : True := ⟨⟩
theorem tw15894371620910866019 : True := ⟨⟩
theorem tw15895748673760503845 : True := ⟨⟩
theorem tw15898109809663626304 : True := ⟨⟩
theorem tw15898970277018273793 : True := ⟨⟩
theorem tw15924019268735266097 : True := ⟨⟩
theorem tw1593561654347908568 : True := ⟨⟩
theorem tw15967466079928408925 : True := ⟨⟩
theorem tw16065720564569863766 : True := ⟨⟩
theorem tw16072502192527678464 : True := ⟨⟩
theorem tw16078238667976319046 : True := ⟨⟩
theorem tw16106133796442146334 : True := ⟨⟩
theorem tw16111715859725283846 : True := ⟨⟩
theorem tw16128420640991077102 : True := ⟨⟩
theorem tw16166440364842034014 : True := ⟨⟩
theorem tw16169396229317227677 : True := ⟨⟩
theorem tw16172288393029767808 : True := ⟨⟩
theorem tw16175233474957185256 : True := ⟨⟩
theorem tw1618804561499322139 : True := ⟨⟩
theorem tw1620002657737552111 : True := ⟨⟩
theorem tw16226220715811633075 : True := ⟨⟩
theorem tw16272097951300814418 : True := ⟨⟩
theorem tw16278871845796110771 : True := ⟨⟩
theorem tw16385634705727604063 : True := ⟨⟩
theorem tw16415787539773345739 : True := ⟨⟩
theorem tw1642545813376747948 : True := ⟨⟩
theorem tw1643771367246577777 : True := ⟨⟩
theorem tw16441004959143088680 : True := ⟨⟩
theorem tw16446913148795680959 : True := ⟨⟩
theorem tw16470739840699324481 : True := ⟨⟩
theorem tw16472945084836616533 : True := ⟨⟩
theorem tw16474958459275807246 : True := ⟨⟩
theorem tw16481179823495478772 : True := ⟨⟩
theorem tw16530349751119242087 : True := ⟨⟩
theorem tw16572314662081343053 : True := ⟨⟩
theorem tw16576625349610184965 : True := ⟨⟩
theorem tw16582591585412914238 : True := ⟨⟩
theorem tw16604199759994364997 : True := ⟨⟩
theorem tw1660877005871194693 : True := ⟨⟩
theorem tw16640130746408290383 : True := ⟨⟩
theorem tw16659920880120507502 : True := ⟨⟩
theorem tw16714887947964762639 : True := ⟨⟩
theorem tw1673358830478937286 : True := ⟨⟩
theorem tw16769997242578385675 : True := ⟨⟩
theorem tw16800043278716471037 : True := ⟨⟩
theorem tw16817119741492734445 : True := ⟨⟩
theorem tw16821450928103126590 : True := ⟨⟩
theorem tw16845296645482713644 : True := ⟨⟩
theorem tw16847831306532103052 : True := ⟨⟩
theorem tw16871623187472473471 : True := ⟨⟩
theorem tw16874305072444578374 : True := ⟨⟩
theorem tw16888070154925205155 : True := ⟨⟩
theorem tw1689142752476645926 : True := ⟨⟩
theorem tw16894393574925625578 : True := ⟨⟩
theorem tw16894561301568121468 : True := ⟨⟩
theorem tw16903022960794457021 : True := ⟨⟩
theorem tw16917608666046251313 : True := ⟨⟩
theorem tw16922147877168347812 : True := ⟨⟩
theorem tw1693818546310300448 : True := ⟨⟩
theorem tw16952181060025214987 : True := ⟨⟩
theorem tw16962450398199861240 : True := ⟨⟩
theorem tw16966009324859112401 : True := ⟨⟩
theorem tw16966782803476497645 : True := ⟨⟩
theorem tw16974685034882416825 : True := ⟨⟩
theorem tw16997897962222511 : True := ⟨⟩
theorem tw17002534310236347988 : True := ⟨⟩
theorem tw17008234436448823602 : True := ⟨⟩
theorem tw17017319662998615 : True := ⟨⟩
theorem tw17024340208454683379 : True := ⟨⟩
theorem tw17037872496334206203 : True := ⟨⟩
theorem tw17039324001796647390 : True := ⟨⟩
theorem tw17047625674926534286 : True := ⟨⟩
theorem tw17050696954950088759 : True := ⟨⟩
theorem tw17093656651364094606 : True := ⟨⟩
theorem tw17109638464079675080 : True := ⟨⟩
theorem tw1714602735852981970 : True := ⟨⟩
theorem tw17156091980717111821 : True := ⟨⟩
theorem tw17173245716831642929 : True := ⟨⟩
theorem tw17173436117698932495 : True := ⟨⟩
theorem tw17175692086777646585 : True := ⟨⟩
theorem tw1718890006036334650 : True := ⟨⟩
theorem tw17188972718952451159 : True := ⟨⟩
theorem tw17194126546080390198 : True := ⟨⟩
theorem tw17197444120159719569 : True := ⟨⟩
theorem tw17238610979035211840 : True := ⟨⟩
theorem tw17243387458012846398 : True := ⟨⟩
theorem tw17265401458761052179 : True := ⟨⟩
theorem tw17287069475806534740 : True := ⟨⟩
theorem tw1728724042893426364 : True := ⟨⟩
theorem tw17297054508065495485 : True := ⟨⟩
theorem tw17304152732226823993 : True := ⟨⟩
theorem tw17306198084081397603 : True := ⟨⟩
theorem tw17332727794074296334 : True := ⟨⟩
theorem tw17339705970751849611 : True := ⟨⟩
theorem tw17348764703882912863 : True := ⟨⟩
theorem tw17371765431496345816 : True := ⟨⟩
theorem tw17377423518514600169 : True := ⟨⟩
theorem tw174166394780034911 : True := ⟨⟩
theorem tw17444863063712431705 : True := ⟨⟩
theorem tw17453365369857097546 : True := ⟨⟩
theorem tw17458890533420659534 : True := ⟨⟩
theorem tw17464823870196871000 : True := ⟨⟩
theorem tw1748456618969930982 : True := ⟨⟩
theorem tw17486074103640542121 : True := ⟨⟩
theorem tw17522360388414511382 : True := ⟨⟩
theorem tw17525636777796739105 : True := ⟨⟩
theorem tw17539234302018041193 : True := ⟨⟩
theorem tw17541063381433097499 : True := ⟨⟩
theorem tw17552560543380974038 : True := ⟨⟩
theorem tw17577399041416155939 : True := ⟨⟩
theorem tw17608190574486352970 : True := ⟨⟩
theorem tw17646911460466567920 : True := ⟨⟩
theorem tw1764952784847918493 : True := ⟨⟩
theorem tw17658000642845759554 : True := ⟨⟩
theorem tw1766074496371839085 : True := ⟨⟩
theorem tw17674571679781333832 : True := ⟨⟩
theorem tw17700853532424174462 : True := ⟨⟩
theorem tw17722614448605708867 : True := ⟨⟩
theorem tw17725469503822016867 : True := ⟨⟩
theorem tw17768545326873755256 : True := ⟨⟩
theorem tw17782148633632673465 : True := ⟨⟩
theorem tw17783093436913651231 : True := ⟨⟩
theorem tw17784522201281872271 : True := ⟨⟩
theorem tw17788742646020836255 : True := ⟨⟩
theorem tw17789423225533864492 : True := ⟨⟩
theorem tw17821319399108415887 : True := ⟨⟩
theorem tw17826015225549371706 : True := ⟨⟩
theorem tw17836260108008149386 : True := ⟨⟩
theorem tw17844492200522320778 : True := ⟨⟩
theorem tw17850378814381688901 : True := ⟨⟩
theorem tw17854890406432584798 : True := ⟨⟩
theorem tw17854896373637125580 : True := ⟨⟩
theorem tw17856945458846924246 : True := ⟨⟩
theorem tw1786199778172832133 : True := ⟨⟩
theorem tw17889261914703972767 : True := ⟨⟩
theorem tw17890245599415353634 : True := ⟨⟩
theorem tw17894702793023417833 : True := ⟨⟩
theorem tw17905491414393134947 : True := ⟨⟩
theorem tw17972497016974392416 : True := ⟨⟩
theorem tw17975491588444890076 : True := ⟨⟩
theorem tw17988201657351507238 : True := ⟨⟩
theorem tw18007968972792079559 : True := ⟨⟩
theorem tw18014224886719972007 : True := ⟨⟩
theorem tw18080951475816111786 : True := ⟨⟩
theorem tw18095809974233413182 : True := ⟨⟩
theorem tw18100283295969611417 : True := ⟨⟩
theorem tw18165431152234640623 : True := ⟨⟩
theorem tw18176413224385145225 : True := ⟨⟩
theorem tw18177109656662797139 : True := ⟨⟩
theorem tw18192872963121912645 : True := ⟨⟩
theorem tw18215824643853355119 : True := ⟨⟩
theorem tw18254194996027185994 : True := ⟨⟩
theorem tw18260194641540637818 : True := ⟨⟩
theorem tw18277060748420158845 : True := ⟨⟩
theorem tw18282902561792777199 : True := ⟨⟩
theorem tw18310999140377845807 : True := ⟨⟩
theorem tw18327299859598349382 : True := ⟨⟩
theorem tw1832916270232011604 : True := ⟨⟩
theorem tw18331334602107656470 : True := ⟨⟩
theorem tw18406743620681020301 : True := ⟨⟩
theorem tw18419137052163196841 : True := ⟨⟩
theorem tw18433677622606106133 : True := ⟨⟩
theorem tw1852205218256702202 : True := ⟨⟩
theorem tw1858156416291392539 : True := ⟨⟩
theorem tw1894759731626308040 : True := ⟨⟩
theorem tw1909714482019496454 : True := ⟨⟩
theorem tw1914692607248247194 : True := ⟨⟩
theorem tw1919001801439425371 : True := ⟨⟩
theorem tw1919890906376249811 : True := ⟨⟩
theorem tw1939405473400901271 : True := ⟨⟩
theorem tw1966224132733831507 : True := ⟨⟩
theorem tw1970811146720035896 : True := ⟨⟩
theorem tw1971652810694446911 : True := ⟨⟩
theorem tw1976755195193171425 : True := ⟨⟩
theorem tw1985537357303476512 : True := ⟨⟩
theorem tw1992862871153497056 : True := ⟨⟩
theorem tw1995287165650055613 : True := ⟨⟩
theorem tw203279951241792120 : True := ⟨⟩
theorem tw2035680199648653684 : True := ⟨⟩
theorem tw2041922666546174627 : True := ⟨⟩
theorem tw2066564036433440168 : True := ⟨⟩
theorem tw2096541523181747872 : True := ⟨⟩
theorem tw210108674670695074 : True := ⟨⟩
theorem tw2118377178292867602 : True := ⟨⟩
theorem tw2123727595537733498 : True := ⟨⟩
theorem tw2154566216772986472 : True := ⟨⟩
theorem tw2172669909848549399 : True := ⟨⟩
theorem tw2201313380682377074 : True := ⟨⟩
theorem tw2203363585012173787 : True := ⟨⟩
theorem tw2237326684586592538 : True := ⟨⟩
theorem tw2260579728952749127 : True := ⟨⟩
theorem tw2298694737197419510 : True := ⟨⟩
theorem tw2307047085170396653 : True := ⟨⟩
theorem tw2326617092838664518 : True := ⟨⟩
theorem tw2336085555427514152 : True := ⟨⟩
theorem tw2340069552987342377 : True := ⟨⟩
theorem tw2343260813663018654 : True := ⟨⟩
theorem tw2350586252961548244 : True := ⟨⟩
theorem tw2355103038987944067 : True := ⟨⟩
theorem tw2393098407364606883 : True := ⟨⟩
theorem tw2400818531096893172 : True := ⟨⟩
theorem tw2415559669582209859 : True := ⟨⟩
theorem tw2428695696106030784 : True := ⟨⟩
theorem tw2437478716016495240 : True := ⟨⟩
theorem tw2441957057352720082 : True := ⟨⟩
theorem tw2450084395675817526 : True := ⟨⟩
theorem tw2491421050496283774 : True := ⟨⟩
theorem tw2506711637615833298 : True := ⟨⟩
theorem tw2518057956044344595 : True := ⟨⟩
theorem tw2529948359932261575 : True := ⟨⟩
theorem tw2545145822199252752 : True := ⟨⟩
theorem tw2581250870941146908 : True := ⟨⟩
theorem tw2584910155360889176 : True := ⟨⟩
theorem tw2588942769649879372 : True := ⟨⟩
theorem tw2591067827882107080 : True := ⟨⟩
theorem tw2599346099135257874 : True := ⟨⟩
theorem tw2624612372273768290 : True := ⟨⟩
theorem tw2625984366357065906 : True := ⟨⟩
theorem tw266100023129296208 : True := ⟨⟩
theorem tw2661039320868540944 : True := ⟨⟩
theorem tw2681166955253090778 : True := ⟨⟩
theorem tw2694075680205673411 : True := ⟨⟩
theorem tw2705560170217086799 : True := ⟨⟩
theorem tw2717208847683956309 : True := ⟨⟩
theorem tw2720062776625057999 : True := ⟨⟩
theorem tw2753283235347674219 : True := ⟨⟩
theorem tw2764016085172604524 : True := ⟨⟩
theorem tw2781723093108153277 : True := ⟨⟩
theorem tw2797894973233656403 : True := ⟨⟩
theorem tw2800570052845255841 : True := ⟨⟩
theorem tw2825341998796452840 : True := ⟨⟩
theorem tw284086516184904499 : True := ⟨⟩
theorem tw2857895335220236748 : True := ⟨⟩
theorem tw2864405669816312776 : True := ⟨⟩
theorem tw2879759524354350568 : True := ⟨⟩
theorem tw290710125855613696 : True := ⟨⟩
theorem tw2907111362388958804 : True := ⟨⟩
theorem tw2946737518818760889 : True := ⟨⟩
theorem tw2973143901146584636 : True := ⟨⟩
theorem tw2976249973925969801 : True := ⟨⟩
theorem tw2994772191003457714 : True := ⟨⟩
theorem tw3003556698199096280 : True := ⟨⟩
theorem tw300626226527484142 : True := ⟨⟩
theorem tw3021114989795446570 : True := ⟨⟩
theorem tw3040085230504974413 : True := ⟨⟩
theorem tw3062044705579621278 : True := ⟨⟩
theorem tw3083302935323014018 : True := ⟨⟩
theorem tw3088210815446039105 : True := ⟨⟩
theorem tw3089916443595474862 : True := ⟨⟩
theorem tw3103639331685909893 : True := ⟨⟩
theorem tw3127049524044150859 : True := ⟨⟩
theorem tw3160712208675142370 : True := ⟨⟩
theorem tw3164961170700492040 : True := ⟨⟩
theorem tw3185377453876500656 : True := ⟨⟩
theorem tw3186774066764743411 : True := ⟨⟩
theorem tw322437386772585718 : True := ⟨⟩
theorem tw3244951577380529755 : True := ⟨⟩
theorem tw3264716943610762504 : True := ⟨⟩
theorem tw3287593724567304683 : True := ⟨⟩
theorem tw3304075619188804072 : True := ⟨⟩
theorem tw3307856608211204613 : True := ⟨⟩
theorem tw3321875119742208626 : True := ⟨⟩
theorem tw3333069708870698940 : True := ⟨⟩
theorem tw3340124654517525194 : True := ⟨⟩
theorem tw3342127626655828140 : True := ⟨⟩
theorem tw3364305129493290686 : True := ⟨⟩
theorem tw3368030927266983236 : True := ⟨⟩
theorem tw3368474557548986910 : True := ⟨⟩
theorem tw3390878434225100092 : True := ⟨⟩
theorem tw3404819636646143723 : True := ⟨⟩
theorem tw3405375401864073989 : True := ⟨⟩
theorem tw3453547403478019728 : True := ⟨⟩
theorem tw3453787792041028874 : True := ⟨⟩
theorem tw3500380475922496097 : True := ⟨⟩
theorem tw3512634313551410195 : True := ⟨⟩
theorem tw3514389088698752745 : True := ⟨⟩
theorem tw3547030090768783262 : True := ⟨⟩
theorem tw3547240966391284428 : True := ⟨⟩
theorem tw3547811175951651099 : True := ⟨⟩
theorem tw3548660455928884018 : True := ⟨⟩
theorem tw3556061257289618393 : True := ⟨⟩
theorem tw3581614266968435656 : True := ⟨⟩
theorem tw3615648651819825313 : True := ⟨⟩
theorem tw3616486834168423931 : True := ⟨⟩
theorem tw3618040419372981184 : True := ⟨⟩
theorem tw3651205649096709438 : True := ⟨⟩
theorem tw3657744606055017977 : True := ⟨⟩
theorem tw3659646283403374670 : True := ⟨⟩
theorem tw3665506230870052707 : True := ⟨⟩
theorem tw3688799982635324794 : True := ⟨⟩
theorem tw3696042808614700290 : True := ⟨⟩
theorem tw3715144110773694964 : True := ⟨⟩
theorem tw3715584954343283195 : True := ⟨⟩
theorem tw3746228215898030841 : True := ⟨⟩
theorem tw3749026756887285471 : True := ⟨⟩
theorem tw377444749377882612 : True := ⟨⟩
theorem tw3790771472595898956 : True := ⟨⟩
theorem tw3794523003379204399 : True := ⟨⟩
theorem tw3806097482856845009 : True := ⟨⟩
theorem tw3821945547825155762 : True := ⟨⟩
theorem tw3839736740360565264 : True := ⟨⟩
theorem tw3860651933079915558 : True := ⟨⟩
theorem tw3863384581746538084 : True := ⟨⟩
theorem tw3869590956505411354 : True := ⟨⟩
theorem tw3880867118405822719 : True := ⟨⟩
theorem tw3898573915619166781 : True := ⟨⟩
theorem tw3910526619309349007 : True := ⟨⟩
theorem tw3928599903575798129 : True := ⟨⟩
theorem tw3944913497352057107 : True := ⟨⟩
theorem tw3973953319845086491 : True := ⟨⟩
theorem tw3986194592780655508 : True := ⟨⟩
theorem tw3991279037241028524 : True := ⟨⟩
theorem tw4005429485061764775 : True := ⟨⟩
theorem tw4009957668330374740 : True := ⟨⟩
theorem tw4018983750718401802 : True := ⟨⟩
theorem tw4023466491090337370 : True := ⟨⟩
theorem tw4053978428183960486 : True := ⟨⟩
theorem tw4063747431996464497 : True := ⟨⟩
theorem tw4090201507572337743 : True := ⟨⟩
theorem tw4160124254940468481 : True := ⟨⟩
theorem tw4163069186122357367 : True := ⟨⟩
theorem tw4176204533620912855 : True := ⟨⟩
theorem tw4196546014268931301 : True := ⟨⟩
theorem tw4235852798576303577 : True := ⟨⟩
theorem tw4273228799998304602 : True := ⟨⟩
theorem tw4277651752456152607 : True := ⟨⟩
theorem tw4277740039236721715 : True := ⟨⟩
theorem tw4318500180640689126 : True := ⟨⟩
theorem tw4357005996527412928 : True := ⟨⟩
theorem tw4377270945021899497 : True := ⟨⟩
theorem tw4381510469713062047 : True := ⟨⟩
theorem tw4387028780061031483 : True := ⟨⟩
theorem tw4389056084150536348 : True := ⟨⟩
theorem tw4389747894416019800 : True := ⟨⟩
theorem tw4405531762615560363 : True := ⟨⟩
theorem tw4405734404675932169 : True := ⟨⟩
theorem tw4407807290196491609 : True := ⟨⟩
theorem tw4415685298772064003 : True := ⟨⟩
theorem tw4419558321834357505 : True := ⟨⟩
theorem tw4433315090154635215 : True := ⟨⟩
theorem tw44622916816846810 : True := ⟨⟩
theorem tw4473611206160876864 : True := ⟨⟩
theorem tw45052839361067614 : True := ⟨⟩
theorem tw4528443807372415038 : True := ⟨⟩
theorem tw4562895721964481617 : True := ⟨⟩
theorem tw4576125674228380541 : True := ⟨⟩
theorem tw4585157591006285545 : True := ⟨⟩
theorem tw4607607821588926596 : True := ⟨⟩
theorem tw4652900348082922388 : True := ⟨⟩
theorem tw466721876749952763 : True := ⟨⟩
theorem tw4673441458371412756 : True := ⟨⟩
theorem tw467416434755642258 : True := ⟨⟩
theorem tw4691952243595246448 : True := ⟨⟩
theorem tw4693820183103290663 : True := ⟨⟩
theorem tw4702340293382431092 : True := ⟨⟩
theorem tw4709128311485490483 : True := ⟨⟩
theorem tw4746297304354101679 : True := ⟨⟩
theorem tw4764554697811233 : True := ⟨⟩
theorem tw4834694072379752904 : True := ⟨⟩
theorem tw4857777746444614323 : True := ⟨⟩
theorem tw4874392174073282168 : True := ⟨⟩
theorem tw4885112425497105109 : True := ⟨⟩
theorem tw4932745802714450591 : True := ⟨⟩
theorem tw4964814941381164201 : True := ⟨⟩
theorem tw4965378191221513410 : True := ⟨⟩
theorem tw497287684792784471 : True := ⟨⟩
theorem tw4975070653579243887 : True := ⟨⟩
theorem tw4991397462208424806 : True := ⟨⟩
theorem tw4993741786232285773 : True := ⟨⟩
theorem tw5013180600929471838 : True := ⟨⟩
theorem tw5015311536963163689 : True := ⟨⟩
theorem tw5019597260055213698 : True := ⟨⟩
theorem tw5038994553942263901 : True := ⟨⟩
theorem tw5061997093462229610 : True := ⟨⟩
theorem tw5064764789634828332 : True := ⟨⟩
theorem tw5092371620264689978 : True := ⟨⟩
theorem tw5096742575497195690 : True := ⟨⟩
theorem tw5104563664521345299 : True := ⟨⟩
theorem tw5129616035191883695 : True := ⟨⟩
theorem tw5140934472235413692 : True := ⟨⟩
theorem tw5141578139466067413 : True := ⟨⟩
theorem tw5182153607120983317 : True := ⟨⟩
theorem tw5187041380464763778 : True := ⟨⟩
theorem tw5195771902682577575 : True := ⟨⟩
theorem tw5240702290290941181 : True := ⟨⟩
theorem tw5250025526955580050 : True := ⟨⟩
theorem tw5271886537152271918 : True := ⟨⟩
theorem tw527386997569798941 : True := ⟨⟩
theorem tw5274623360512300857 : True := ⟨⟩
theorem tw5319049981483164881 : True := ⟨⟩
theorem tw532055438628499158 : True := ⟨⟩
theorem tw5331137831679937033 : True := ⟨⟩
theorem tw533756555076263647 : True := ⟨⟩
theorem tw5346772772824661884 : True := ⟨⟩
theorem tw5363715690607933 : True := ⟨⟩
theorem tw5392078452651409485 : True := ⟨⟩
theorem tw5401097623525119610 : True := ⟨⟩
theorem tw5406177342311749660 : True := ⟨⟩
theorem tw5407718363533321033 : True := ⟨⟩
theorem tw5418945672586834282 : True := ⟨⟩
theorem tw5435450948005128870 : True := ⟨⟩
theorem tw5438144065070405397 : True := ⟨⟩
theorem tw545888858418189544 : True := ⟨⟩
theorem tw5467695095851852608 : True := ⟨⟩
theorem tw5479459121986351116 : True := ⟨⟩
theorem tw5487235932777146282 : True := ⟨⟩
theorem tw5501060405047882677 : True := ⟨⟩
theorem tw5506250874072839755 : True := ⟨⟩
theorem tw5508695066786827253 : True := ⟨⟩
theorem tw5515381820778694223 : True := ⟨⟩
theorem tw5575573150383494877 : True := ⟨⟩
theorem tw5593727005144783397 : True := ⟨⟩
theorem tw5599997604879368025 : True := ⟨⟩
theorem tw5612995960945425718 : True := ⟨⟩
theorem tw5617373736292572815 : True := ⟨⟩
theorem tw5638995163158488052 : True := ⟨⟩
theorem tw5651425540991249520 : True := ⟨⟩
theorem tw5665678832679643181 : True := ⟨⟩
theorem tw5667425289904016906 : True := ⟨⟩
theorem tw5697773043789114877 : True := ⟨⟩
theorem tw5723944856813171866 : True := ⟨⟩
theorem tw5725584637647431893 : True := ⟨⟩
theorem tw5737951250597237232 : True := ⟨⟩
theorem tw5751227541892866231 : True := ⟨⟩
theorem tw5764021196749891206 : True := ⟨⟩
theorem tw5776309275727910279 : True := ⟨⟩
theorem tw5788372791699333521 : True := ⟨⟩
theorem tw5797013207949663412 : True := ⟨⟩
theorem tw5844781237557850387 : True := ⟨⟩
theorem tw5865467396996320769 : True := ⟨⟩
theorem tw5869485362099743711 : True := ⟨⟩
theorem tw5874639182527098836 : True := ⟨⟩
theorem tw5881713671565795756 : True := ⟨⟩
theorem tw5901594920499545818 : True := ⟨⟩
theorem tw5906241406904858968 : True := ⟨⟩
theorem tw5906749814970224870 : True := ⟨⟩
theorem tw5915552362696249034 : True := ⟨⟩
theorem tw5927865893512547691 : True := ⟨⟩
theorem tw5944183977427860380 : True := ⟨⟩
theorem tw5944575059761466720 : True := ⟨⟩
theorem tw597074169871860151 : True := ⟨⟩
theorem tw5973763720392745831 : True := ⟨⟩
theorem tw5986637957666399235 : True := ⟨⟩
theorem tw5987550445186205895 : True := ⟨⟩
theorem tw5996384718915585738 : True := ⟨⟩
theorem tw604627371996746742 : True := ⟨⟩
theorem tw6053997905714604814 : True := ⟨⟩
theorem tw6079359036626576793 : True := ⟨⟩
theorem tw6085824867444503733 : True := ⟨⟩
theorem tw6088685845774392931 : True := ⟨⟩
theorem tw6099028997845504075 : True := ⟨⟩
theorem tw6110071263904590700 : True := ⟨⟩
theorem tw6121141971511671821 : True := ⟨⟩
theorem tw6153569298028143949 : True := ⟨⟩
theorem tw6154953350570954606 : True := ⟨⟩
theorem tw6161856959107265637 : True := ⟨⟩
theorem tw6174258528820157971 : True := ⟨⟩
theorem tw6202090305015876224 : True := ⟨⟩
theorem tw6202622434921078099 : True := ⟨⟩
theorem tw6207834228037699737 : True := ⟨⟩
theorem tw6211381574409162282 : True := ⟨⟩
theorem tw6212921109956642855 : True := ⟨⟩
theorem tw6215453301258677876 : True := ⟨⟩
theorem tw6226413525154113608 : True := ⟨⟩
theorem tw6229939688011154569 : True := ⟨⟩
theorem tw6237802210402583469 : True := ⟨⟩
theorem tw6240353410654795137 : True := ⟨⟩
theorem tw6247268493268985975 : True := ⟨⟩
theorem tw6260244149815935644 : True := ⟨⟩
theorem tw6265338273532641288 : True := ⟨⟩
theorem tw6272251169252508156 : True := ⟨⟩
theorem tw6304676298305806467 : True := ⟨⟩
theorem tw6307057079134178644 : True := ⟨⟩
theorem tw6327039764776113722 : True := ⟨⟩
theorem tw6342581108930332356 : True := ⟨⟩
theorem tw6369041477666114370 : True := ⟨⟩
theorem tw6388477656530123435 : True := ⟨⟩
theorem tw6402496994288996404 : True := ⟨⟩
theorem tw6474009502463322548 : True := ⟨⟩
theorem tw6490947042161328123 : True := ⟨⟩
theorem tw649443455394278489 : True := ⟨⟩
theorem tw6497301856786237229 : True := ⟨⟩
theorem tw6507506987150044280 : True := ⟨⟩
theorem tw6518409114910312394 : True := ⟨⟩
theorem tw6521490308693473283 : True := ⟨⟩
theorem tw6522505103286579628 : True := ⟨⟩
theorem tw6526830475164118762 : True := ⟨⟩
theorem tw6536181036136497285 : True := ⟨⟩
theorem tw6544681653968885310 : True := ⟨⟩
theorem tw6562009823351158392 : True := ⟨⟩
theorem tw6585138550035349233 : True := ⟨⟩
theorem tw6587087628758450585 : True := ⟨⟩
theorem tw6595020158993437323 : True := ⟨⟩
theorem tw6595276589069765893 : True := ⟨⟩
theorem tw6600165084710513979 : True := ⟨⟩
theorem tw6602476347957198060 : True := ⟨⟩
theorem tw6604829842348296887 : True := ⟨⟩
theorem tw6638625709723660006 : True := ⟨⟩
theorem tw6640010369347007910 : True := ⟨⟩
theorem tw6684978435548883818 : True := ⟨⟩
theorem tw6692803169904595997 : True := ⟨⟩
theorem tw67086481866811729 : True := ⟨⟩
theorem tw6737735255597943219 : True := ⟨⟩
theorem tw6763335052953634553 : True := ⟨⟩
theorem tw6772502638888315869 : True := ⟨⟩
theorem tw6791874446421159577 : True := ⟨⟩
theorem tw6836605351468522007 : True := ⟨⟩
theorem tw6836608696283027097 : True := ⟨⟩
theorem tw6846597200999610202 : True := ⟨⟩
theorem tw6846866878297920324 : True := ⟨⟩
theorem tw6847273489543275152 : True := ⟨⟩
theorem tw6858743491597560450 : True := ⟨⟩
theorem tw6861794922711700498 : True := ⟨⟩
theorem tw6870361546347238192 : True := ⟨⟩
theorem tw6871339299614917876 : True := ⟨⟩
theorem tw6889739017440866108 : True := ⟨⟩
theorem tw6910089277995645325 : True := ⟨⟩
theorem tw6930615606355531631 : True := ⟨⟩
theorem tw6931653728971238233 : True := ⟨⟩
theorem tw6968674436765558698 : True := ⟨⟩
theorem tw69809265629811306 : True := ⟨⟩
theorem tw7044984988248179734 : True := ⟨⟩
theorem tw7046380642943354848 : True := ⟨⟩
theorem tw7055862646019118517 : True := ⟨⟩
theorem tw7090939061502383884 : True := ⟨⟩
theorem tw709382114072422158 : True := ⟨⟩
theorem tw7096138990903361605 : True := ⟨⟩
theorem tw7119846925741900413 : True := ⟨⟩
theorem tw7148437315225170067 : True := ⟨⟩
theorem tw7156519585557434892 : True := ⟨⟩
theorem tw7179252675378151715 : True := ⟨⟩
theorem tw7181452741857391679 : True := ⟨⟩
theorem tw7195933706287572923 : True := ⟨⟩
theorem tw7216541266383003146 : True := ⟨⟩
theorem tw7253898381062576733 : True := ⟨⟩
theorem tw7256407767356113836 : True := ⟨⟩
theorem tw7270002223443293236 : True := ⟨⟩
theorem tw7272792461964422541 : True := ⟨⟩
theorem tw7273171245171862726 : True := ⟨⟩
theorem tw7277520189549225825 : True := ⟨⟩
theorem tw7287109101882759415 : True := ⟨⟩
theorem tw7309950759910210094 : True := ⟨⟩
theorem tw7313386461004707312 : True := ⟨⟩
theorem tw733406405333840765 : True := ⟨⟩
theorem tw7358512011923840914 : True := ⟨⟩
theorem tw7392004362435642628 : True := ⟨⟩
theorem tw739537129135343663 : True := ⟨⟩
theorem tw7396500232308049434 : True := ⟨⟩
theorem tw7417405269818204032 : True := ⟨⟩
theorem tw7421959067914383049 : True := ⟨⟩
theorem tw7494366503370351645 : True := ⟨⟩
theorem tw7498250532897285284 : True := ⟨⟩
theorem tw7512725033676591148 : True := ⟨⟩
theorem tw7523532297153676066 : True := ⟨⟩
theorem tw7575806435727305068 : True := ⟨⟩
theorem tw7582878936473852414 : True := ⟨⟩
theorem tw7596824489109172434 : True := ⟨⟩
theorem tw7599496313472250701 : True := ⟨⟩
theorem tw7604411431414283762 : True := ⟨⟩
theorem tw7616930195647119758 : True := ⟨⟩
theorem tw7624658959004494543 : True := ⟨⟩
theorem tw763314674957123698 : True := ⟨⟩
theorem tw7656372460463219624 : True := ⟨⟩
theorem tw7658410731251134818 : True := ⟨⟩
theorem tw7659462814917621580 : True := ⟨⟩
theorem tw7680146299302783591 : True := ⟨⟩
theorem tw7688317290187622652 : True := ⟨⟩
theorem tw7704315382344345624 : True := ⟨⟩
theorem tw7705420606127192585 : True := ⟨⟩
theorem tw7712916153251135833 : True := ⟨⟩
theorem tw7732209734871044160 : True := ⟨⟩
theorem tw7743085818281968155 : True := ⟨⟩
theorem tw7748693106545578708 : True := ⟨⟩
theorem tw7758381527925395934 : True := ⟨⟩
theorem tw779419810087314491 : True := ⟨⟩
theorem tw780477332936465449 : True := ⟨⟩
theorem tw7805308653706644653 : True := ⟨⟩
theorem tw7835671542029378175 : True := ⟨⟩
theorem tw7846308304327970078 : True := ⟨⟩
theorem tw7863069845667510935 : True := ⟨⟩
theorem tw7885897083568230588 : True := ⟨⟩
theorem tw7906546307943345882 : True := ⟨⟩
theorem tw792300799171563205 : True := ⟨⟩
theorem tw7940748693946456147 : True := ⟨⟩
theorem tw7961726388155042601 : True := ⟨⟩
theorem tw7992697801930647134 : True := ⟨⟩
theorem tw7994106446794305319 : True := ⟨⟩
theorem tw8035625575855466936 : True := ⟨⟩
theorem tw8041791342521497567 : True := ⟨⟩
theorem tw8047541715743884091 : True := ⟨⟩
theorem tw8057295282393585546 : True := ⟨⟩
theorem tw807299193193998342 : True := ⟨⟩
theorem tw8080564770884197611 : True := ⟨⟩
theorem tw8100529080337985053 : True := ⟨⟩
theorem tw8101760021730824546 : True := ⟨⟩
theorem tw8150599627031302055 : True := ⟨⟩
theorem tw8159583801465064534 : True := ⟨⟩
theorem tw8169693465737517768 : True := ⟨⟩
theorem tw8172283286065499403 : True := ⟨⟩
theorem tw8182079617134344778 : True := ⟨⟩
theorem tw8182465387277545410 : True := ⟨⟩
theorem tw8185714761375850791 : True := ⟨⟩
theorem tw8187629637223713605 : True := ⟨⟩
theorem tw8216834362191484069 : True := ⟨⟩
theorem tw82346015518353585 : True := ⟨⟩
theorem tw8294209007407230114 : True := ⟨⟩
theorem tw8299393411229908732 : True := ⟨⟩
theorem tw8337448324364255386 : True := ⟨⟩
theorem tw8382746154173761051 : True := ⟨⟩
theorem tw8402214883040486957 : True := ⟨⟩
theorem tw8402328212356670530 : True := ⟨⟩
theorem tw8408249889716310983 : True := ⟨⟩
theorem tw8409189969818401543 : True := ⟨⟩
theorem tw8414573866900348196 : True := ⟨⟩
theorem tw8442580359016245169 : True := ⟨⟩
theorem tw8451055240067260542 : True := ⟨⟩
theorem tw8451290768687142514 : True := ⟨⟩
theorem tw8453659626754050520 : True := ⟨⟩
theorem tw8476951943066225111 : True := ⟨⟩
theorem tw8518231567759158271 : True := ⟨⟩
theorem tw8534208459206503383 : True := ⟨⟩
theorem tw8535708456716222715 : True := ⟨⟩
theorem tw8541356943393881859 : True := ⟨⟩
theorem tw8546719886708726068 : True := ⟨⟩
theorem tw8549075639274686408 : True := ⟨⟩
theorem tw8569104457590258164 : True := ⟨⟩
theorem tw8586521899292070991 : True := ⟨⟩
theorem tw8603420104599213669 : True := ⟨⟩
theorem tw8618353936845011185 : True := ⟨⟩
theorem tw8626486368039343599 : True := ⟨⟩
theorem tw8627200689577751383 : True := ⟨⟩
theorem tw86301839051661876 : True := ⟨⟩
theorem tw8671685427711848851 : True := ⟨⟩
theorem tw8704771223992077307 : True := ⟨⟩
theorem tw8715499118904818895 : True := ⟨⟩
theorem tw8733578408476508925 : True := ⟨⟩
theorem tw8758324158161630591 : True := ⟨⟩
theorem tw8773370040425892893 : True := ⟨⟩
theorem tw8812732774380208333 : True := ⟨⟩
theorem tw8838475285390394957 : True := ⟨⟩
theorem tw883913982201973750 : True := ⟨⟩
theorem tw8866670633112419022 : True := ⟨⟩
theorem tw8874674299285249911 : True := ⟨⟩
theorem tw8881269060482585022 : True := ⟨⟩
theorem tw8895791426145780158 : True := ⟨⟩
theorem tw8912104118211102971 : True := ⟨⟩
theorem tw8988664977312594650 : True := ⟨⟩
theorem tw8997269238129315039 : True := ⟨⟩
theorem tw9005204637564801583 : True := ⟨⟩
theorem tw9030979908501067730 : True := ⟨⟩
theorem tw9062998866958442273 : True := ⟨⟩
theorem tw9065935926736091543 : True := ⟨⟩
theorem tw907359911958329709 : True := ⟨⟩
theorem tw9083612298779875492 : True := ⟨⟩
theorem tw9089795715530709647 : True := ⟨⟩
theorem tw9101448428047585222 : True := ⟨⟩
theorem tw9103479521544129834 : True := ⟨⟩
theorem tw9107825763807709430 : True := ⟨⟩
theorem tw9133290819911140118 : True := ⟨⟩
theorem tw9142320679590124636 : True := ⟨⟩
theorem tw9145527808636388435 : True := ⟨⟩
theorem tw9162278640276766204 : True := ⟨⟩
theorem tw9171846695823722306 : True := ⟨⟩
theorem tw9186546921256032858 : True := ⟨⟩
theorem tw9196398404247428943 : True := ⟨⟩
theorem tw9197122456581196581 : True := ⟨⟩
theorem tw9198962664997412088 : True := ⟨⟩
theorem tw9202431907968578930 : True := ⟨⟩
theorem tw9213911765573242809 : True := ⟨⟩
theorem tw9234455393454914656 : True := ⟨⟩
theorem tw9258293945399652946 : True := ⟨⟩
theorem tw930087139818521243 : True := ⟨⟩
theorem tw9318794584737855082 : True := ⟨⟩
theorem tw9325057278558614444 : True := ⟨⟩
theorem tw9325123708862168440 : True := ⟨⟩
theorem tw9353324838224930552 : True := ⟨⟩
theorem tw9354026244260953042 : True := ⟨⟩
theorem tw9368406320212774489 : True := ⟨⟩
theorem tw9374387883903384206 : True := ⟨⟩
theorem tw9380374249521086144 : True := ⟨⟩
theorem tw9388430590476628193 : True := ⟨⟩
theorem tw940147379719373870 : True := ⟨⟩
theorem tw9407594320385231609 : True := ⟨⟩
theorem tw9420838687424145684 : True := ⟨⟩
theorem tw9435046350415534400 : True := ⟨⟩
theorem tw9449176361245260279 : True := ⟨⟩
theorem tw9464831228461672588 : True := ⟨⟩
theorem tw946586880256125082 : True := ⟨⟩
theorem tw9493678621577581731 : True := ⟨⟩
theorem tw9495540839478616804 : True := ⟨⟩
theorem tw9515422150858430662 : True := ⟨⟩
theorem tw9553506758532729402 : True := ⟨⟩
theorem tw9592777112578238593 : True := ⟨⟩
theorem tw9601497413559074677 : True := ⟨⟩
theorem tw9610264321537646536 : True := ⟨⟩
theorem tw9613649512242289415 : True := ⟨⟩
theorem tw9646481798937456297 : True := ⟨⟩
theorem tw9658139154387788515 : True := ⟨⟩
theorem tw9701577420580846637 : True := ⟨⟩
theorem tw9702098958229961203 : True := ⟨⟩
theorem tw9716329373054682134 : True := ⟨⟩
theorem tw9717200733822644074 : True := ⟨⟩
theorem tw9718778162690014751 : True := ⟨⟩
theorem tw9767149119325585590 : True := ⟨⟩
theorem tw976808484645153763 : True := ⟨⟩
theorem tw9777900189565919194 : True := ⟨⟩
theorem tw9802980913210911633 : True := ⟨⟩
theorem tw9820158181544301314 : True := ⟨⟩
theorem tw9823536610671039419 : True := ⟨⟩
theorem tw9827913525700040407 : True := ⟨⟩
theorem tw9838509708139735780 : True := ⟨⟩
theorem tw9881340216297992761 : True := ⟨⟩
theorem tw9894326130215728876 : True := ⟨⟩
theorem tw9909477652473797434 : True := ⟨⟩
theorem tw9966027542202029443 : True := ⟨⟩
theorem tw9978949632667528635 : True := ⟨⟩
theorem tw9983174893691179580 : True := ⟨⟩
theorem tw9984397402777080727 : True := ⟨⟩
theorem tw9987851973559822609 : True := ⟨⟩
theorem tw999222835498014148 : True := ⟨⟩
theorem tw9997931420998421608 : True := ⟨⟩
end Mine.head
namespace Mine
set_option maxRecDepth 100000 in
set_option maxHeartbeats 16000000 in
theorem head : PySem.Challenge.rw_sj0094_01.Holds := by
  w_on
  o_law
  k_head
  (case hw => w_witness2)
  exact walk_of (fun P => ⟨by kernel_rfl, by kernel_rfl, by kernel_rfl, by kernel_rfl, by kernel_rfl, by kernel_rfl, by kernel_rfl, by kernel_rfl, by kernel_rfl, by kernel_rfl, ⟨by kernel_rfl, by kernel_rfl, by kernel_rfl, by kernel_rfl, by kernel_rfl⟩, by kernel_rfl, by kernel_rfl⟩) rfl
end Mine

theorem PySem.Challenge.cw_sj0094_01_holds : PySem.Challenge.rw_sj0094_01.Holds :=
  Mine.head

import PyProof.Rows.All
import Wide.All
import OpenK.AllK
import Wide.FinOn
import PyProof.InstStoreFacts
import PyProof.InstLoad
import PyProof.ExcInit
import PyProof.ExcArgsOwn
import PyProof.AttrMissHeap
import KE.KDictOf
import PySem.Challenge.RW_xm0939_01
set_option Elab.async false
set_option maxRecDepth 100000
set_option compiler.extract_closed false
set_option linter.all false
set_option genInjectivity false
set_option genSizeOf false
namespace Mine
section
open PySem PySem.W PyProof.Rows
theorem sk {α : Type} (ne : Nonempty α) (P : α → Prop) (h : P (@Classical.epsilon α ne (fun c => ¬ P c))) (c : α) : P c :=
  Classical.byContradiction fun n => (@Classical.epsilon_spec α (fun c => ¬ P c) ⟨c, n⟩) h
structure Hide (P : Prop) : Prop where
  out : P
noncomputable def eps {α : Type} (ne : Nonempty α) (P : α → Prop) : { c : α // Hide (P c) → ∀ x, Hide (P x) } :=
  ⟨@Classical.epsilon α ne (fun c => ¬ P c), fun h c => ⟨sk ne P h.out c⟩⟩
theorem epsH {α : Type} {P : α → Prop} (z : { c : α // Hide (P c) → ∀ x, Hide (P x) }) (h : P z.1) (c : α) : P c := (z.2 ⟨h⟩ c).out
noncomputable def world0 : World := ⟨fun _ _ => 0, {strHash := fun _ => default, shareClass := default, mergeTok := default, idOf := default, idOfShared := default, followText := default, idOfImm := default}⟩
theorem lt_conj {a d x : Nat} {r : Prop} (h : x < d ∧ r) (k : x < d ∧ r → a < d) : a < d := k h
theorem ne_conj {a d x : Nat} {r : Prop} (h : x ≠ d ∧ r) (k : x ≠ d ∧ r → a ≠ d) : a ≠ d := k h
end
section
open PySem PySem.W PyProof.Rows
structure Boxed {α : Type} (Q Q' : α → Shared → Prop) : Prop where
  out : ∀ v s, Q v s → Q' v s
theorem box {α : Type} {M : Model} {A : Around} {c : Sem α} {Q : α → Shared → Prop} {E : Value → Shared → Prop} {s : Shared} (h : ∀ Q' : α → Shared → Prop, Boxed Q Q' → wpAny M A c Q' E s) : wpAny M A c Q E s := h Q ⟨fun _ _ x => x⟩
theorem unbox {α : Type} {Q Q' : α → Shared → Prop} {v : α} {s : Shared} (h : Boxed Q Q') (x : Q v s) : Q' v s := h.out v s x
theorem reveal {α : Type} {M : Model} {A : Around} {c : Sem α} {Q Q' : α → Shared → Prop} {E : Value → Shared → Prop} {s : Shared} (h : Boxed Q Q') (x : wpAny M A c Q E s) : wpAny M A c Q' E s := wpAny_mono x h.out (fun _ _ x => x)
theorem tok_any {α : Type} {M : Model} {A : Around} {c : Sem α} {Q : α → Shared → Prop} {E : Value → Shared → Prop} {h : Heap} {g : Array GenState} {d : Drawn} {t : Tok} {o : OsState} (x : ∀ t', wpAny M A c Q E ⟨h, g, d, t', o⟩) : wpAny M A c Q E ⟨h, g, d, t, o⟩ := x t
theorem cps {P : Prop} (h : ∀ G : Prop, (P → G) → G) : P := h P id
end
section
set_option exponentiation.threshold 3000
theorem qcl {a b : Nat} (h : a < b) : (a : Int) < (b : Int) := Int.ofNat_lt.2 h
theorem qce {a b : Nat} (h : a ≤ b) : (a : Int) ≤ (b : Int) := Int.ofNat_le.2 h
theorem qlc {a b : Nat} (h : (a : Int) < (b : Int)) : a < b := Int.ofNat_lt.1 h
theorem qci {a b : Nat} (h : (a : Int) = (b : Int)) : a = b := Int.ofNat.inj h
theorem qcj {a b : Nat} (h : a = b) : (a : Int) = (b : Int) := congrArg _ h
theorem qcn {a b : Nat} (h : (a : Int) ≠ (b : Int)) : a ≠ b := fun e => h (congrArg _ e)
theorem qcm {a b : Nat} (h : a ≠ b) : (a : Int) ≠ (b : Int) := fun e => h (Int.ofNat.inj e)
theorem qz0 {i : Nat} : (0 : Int) ≤ 0 + (i : Int) := (Int.zero_add (i : Int)).symm ▸ Int.natCast_nonneg i
theorem qzi {i : Nat} : ((0 : Int) + (i : Int)).toNat = i := (congrArg Int.toNat (Int.zero_add (i : Int))).trans rfl
theorem qzl {i : Nat} {x : Int} (h : (i : Int) < x) : (0 : Int) + (i : Int) < x := (Int.zero_add (i : Int)).symm ▸ h
theorem qzle {i : Nat} {x : Int} (h : (i : Int) ≤ x) : (0 : Int) + (i : Int) ≤ x := (Int.zero_add (i : Int)).symm ▸ h
theorem qze {i a : Nat} (h : (a : Int) = 0 + (i : Int)) : a = i := Int.ofNat.inj (h.trans (Int.zero_add _))
theorem qzn {i a : Nat} (h : (a : Int) ≠ 0 + (i : Int)) : a ≠ i := fun e => h ((congrArg _ e).trans (Int.zero_add _).symm)
theorem qzz {i : Nat} : (0 : Int) + (i : Int) = (i : Int) := Int.zero_add _
theorem qti {i : Nat} : ((i : Int)).toNat = i := rfl
theorem qtl {x : Int} {n : Nat} (h0 : 0 ≤ x) (h : x < (n : Int)) : x.toNat < n := (Int.toNat_lt h0).2 h
theorem qtl0 {x : Int} {n : Nat} (hn : 0 < n) (h : x < (n : Int)) : x.toNat < n := by omega
theorem qtlk {x : Int} {n k : Nat} (e : k = n) (h0 : 0 ≤ x) (h : x < (n : Int)) : x.toNat < k := e ▸ qtl h0 h
theorem qtl8 {x : Int} {k : Nat} (e : k = 8) (h0 : 0 ≤ x) (h : x < 8) : x.toNat < k := e ▸ qtl (n := 8) h0 h
theorem qib {i k : Nat} (h : i ≤ k) (d : k ≤ 1000) : (i : Int) < 2 ^ 63 := Int.lt_of_le_of_lt (Int.ofNat_le.2 (Nat.le_trans h d)) (by decide)
theorem qiB {x : Int} {k : Nat} (h : x < (k : Int)) (d : k ≤ 1000) : x < 2 ^ 63 := Int.lt_of_lt_of_le h (Int.le_trans (Int.ofNat_le.2 d) (by decide))
theorem qi62 {i k : Nat} (h : i ≤ k) (d : k ≤ 1000) : i < 2 ^ 62 := Nat.lt_of_le_of_lt (Nat.le_trans h d) (by decide)
theorem qnb {i k : Nat} (h : i ≤ k) (d : k ≤ 1000) : (i : Int).natAbs < 1073741824 := Nat.lt_of_le_of_lt (Nat.le_trans h d) (by decide)
theorem qi10 {x : Int} {k : Nat} (h : x < (k : Int)) (d : k ≤ 1000) : x < 10 ^ 10 := Int.lt_of_lt_of_le h (Int.le_trans (Int.ofNat_le.2 d) (by decide))
theorem qi19 {x : Int} {k : Nat} (h : x < (k : Int)) (d : k ≤ 1000) : x < 2 ^ 1920 := Int.lt_of_lt_of_le h (Int.le_trans (Int.ofNat_le.2 d) (by decide +kernel))
theorem qm19 {x : Int} (h : 0 ≤ x) : -2 ^ 1920 < x := Int.lt_of_lt_of_le (by decide +kernel) h
theorem qm2 {x : Int} (h : 0 ≤ x) : -2 ≤ x := Int.le_trans (by decide) h
theorem q16 {i k : Nat} (h : i ≤ k) (d : k ≤ 16777216) : i ≤ 16777216 := Nat.le_trans h d
theorem q1k {i k : Nat} (h : i ≤ k) (d : k ≤ 1000) : i ≤ 1000 := Nat.le_trans h d
theorem qp1 {a b : Nat} (h : a ≤ b) : a + 1 ≤ b + 1 := Nat.succ_le_succ h
theorem ql1 {a b : Nat} (h : a < b) : a < b + 1 := Nat.lt_succ_of_lt h
theorem ql3 {a b : Nat} (h : a < b) : a < b + 1 + 1 + 1 := ql1 (ql1 (ql1 h))
theorem qle1 {a b : Nat} (h : a ≤ b) : a < b + 1 := Nat.lt_succ_of_le h
theorem qles {a b : Nat} (h : a ≤ b) : a ≤ b + 1 := Nat.le_succ_of_le h
theorem qs1 {a b : Nat} (h : a + 1 ≤ b) : a < b := h
theorem qs2 {a b : Nat} (h : a < b) : a + 1 ≤ b := h
theorem qs3 {a b : Nat} (h : a < b + 1) : a ≤ b := Nat.le_of_lt_succ h
theorem qge {a b : Nat} (h : a ≥ b) : b ≤ a := h
theorem qgt {a b : Nat} (h : a > b) : b < a := h
theorem qnl {a b : Nat} (h : ¬ a < b) : b ≤ a := Nat.le_of_not_lt h
theorem qlee {a b c : Nat} (h : a < b) (e : c = b) : a < c := e ▸ h
theorem qlef {a b c : Nat} (h : a < b) (e : b = c) : a < c := e ▸ h
theorem qele {a b c : Nat} (e : a = b) (h : b ≤ c) : a ≤ c := e ▸ h
theorem qelf {a b c : Nat} (e : b = a) (h : b ≤ c) : a ≤ c := e ▸ h
theorem qelt {a b c : Nat} (e : a = b) (h : b < c) : a < c := e ▸ h
theorem qeet {a b c : Nat} (e : b = a) (h : b < c) : a < c := e ▸ h
theorem qlle {a b c : Nat} (h : a ≤ b) (e : c = b) : a ≤ c := e ▸ h
theorem qllf {a b c : Nat} (h : a ≤ b) (e : b = c) : a ≤ c := e ▸ h
theorem qnlt {a b c : Nat} (e : b = c) (h : ¬ a < b) : ¬ a < c := e ▸ h
theorem qpos {a b : Nat} (h : a < b) : 0 < b := Nat.lt_of_le_of_lt (Nat.zero_le a) h
theorem qpos1 {a : Nat} (h : 1 ≤ a) : 0 < a := h
theorem qpos2 {a : Nat} (h : 2 ≤ a) : 0 < a := Nat.lt_of_lt_of_le (by decide) h
theorem qcp {n : Nat} (h : 0 < n) : (0 : Int) < (n : Int) := Int.ofNat_lt.2 h
theorem q3n {n : Nat} : (0 : Int) ≤ 3 + (n : Int) := Int.natCast_nonneg (3 + n)
theorem qn0 {n : Nat} (h : 0 < n) : (n : Int) ≠ 0 := fun e => Nat.ne_of_gt h (Int.ofNat.inj e)
theorem q05 {i n : Nat} (h : i < n) (k : n ≤ 5) : (0 : Int) + (i : Int) ≤ 5 := qzle (Int.ofNat_le.2 (Nat.le_trans (Nat.le_of_lt h) k))
theorem qne {a b : Nat} (h : a < b) : a ≠ b := Nat.ne_of_lt h
theorem qng {a b : Nat} (h : b < a) : a ≠ b := Nat.ne_of_gt h
theorem qnn {a b : Nat} (h : a ≠ b) : a + 1 ≠ b + 1 := fun e => h (Nat.succ.inj e)
theorem qls {a : Nat} : a < a + 1 := Nat.lt_succ_self a
theorem qls' {a : Nat} : a ≤ a + 1 := Nat.le_succ a
theorem qn1 {a : Nat} : a ≠ a + 1 := qne qls
theorem qn2 {a : Nat} : a ≠ a + 1 + 1 := qne (ql1 qls)
theorem qn3 {a : Nat} : a ≠ a + 1 + 1 + 1 := qne (ql1 (ql1 qls))
theorem qn4 {a : Nat} : a ≠ a + 1 + 1 + 1 + 1 := qne (ql3 qls)
theorem qn5 {a : Nat} : a ≠ a + 1 + 1 + 1 + 1 + 1 := qne (ql1 (ql3 qls))
theorem qm1 {a : Nat} : a + 1 ≠ a := qn1.symm
theorem qm2' {a : Nat} : a + 1 + 1 ≠ a := qn2.symm
theorem qm3 {a : Nat} : a + 1 + 1 + 1 ≠ a := qn3.symm
theorem qm4 {a : Nat} : a + 1 + 1 + 1 + 1 ≠ a := qn4.symm
theorem qm5 {a : Nat} : a + 1 + 1 + 1 + 1 + 1 ≠ a := qn5.symm
theorem qadd {a b c : Nat} (h : a + b ≤ c) : a ≤ c := Nat.le_trans (Nat.le_add_right a b) h
theorem qadd' {a b c : Nat} (h : a + b ≤ c) : b ≤ c := Nat.le_trans (Nat.le_add_left b a) h
theorem qadd2 {a b c : Nat} (h : a + 2 * b ≤ c) : b ≤ c := Nat.le_trans (Nat.le_mul_of_pos_left b (by decide)) (qadd' h)
theorem qal {a b c d : Nat} (h : b ≤ d) (k : c ≤ a + b) : c ≤ a + d := Nat.le_trans k (Nat.add_le_add_left h a)
theorem qar {a b c d : Nat} (h : a ≤ d) (k : c ≤ a + b) : c ≤ d + b := Nat.le_trans k (Nat.add_le_add_right h b)
theorem qmu {a b n : Nat} (h : b < n) : a * n + b < a * n + n := Nat.add_lt_add_left h _
theorem qr1 {a r : Nat} : a + (0 + 1) + r ≤ a + (r + 1) := Nat.le_of_eq (by rw [Nat.add_assoc, Nat.add_comm (0 + 1)])
theorem q01 {a b : Nat} (h : a + 1 ≤ b) : a + (0 + 1) ≤ b := h
theorem q01' {a b : Nat} (h : a ≤ b + 1) : a ≤ b + (0 + 1) := h
theorem qg1 {i k n : Nat} (h : i + (k + 1) = n) : i < n := h ▸ Nat.lt_add_of_pos_right (Nat.succ_pos k)
theorem qg2 {i k n : Nat} (h : i + (k + 1) = n) : i + 1 + k = n := (Nat.succ_add i k).trans h
theorem qh1 {a b c : Nat} (h : a + (b + 1) ≤ c) : a + 1 + b ≤ c := Nat.le_trans (Nat.le_of_eq (Nat.succ_add a b)) h
theorem qh2 {a b c : Nat} (h : a + 2 * (b + 1) ≤ c) : a + (0 + 1 + 1) + 2 * b ≤ c := Nat.le_trans (Nat.le_of_eq (by rw [Nat.mul_succ, Nat.add_assoc, Nat.add_comm (0 + 1 + 1)])) h
theorem qh3 {a b c : Nat} (h : a + 2 * (b + 1) ≤ c) : a + 1 + 2 * b ≤ c := Nat.le_trans (Nat.add_le_add_right (Nat.le_succ (a + 1)) _) (qh2 h)
theorem qdb {a b : Nat} (h : a ≤ 2 * b + 1) : a + 1 + 1 ≤ 2 * (b + 1) + 1 := Nat.succ_le_succ (Nat.succ_le_succ h)
theorem qdc {a b : Nat} (h : a ≤ 2 * b + 1) : a + 1 ≤ 2 * (b + 1) + 1 := Nat.le_of_lt (qdb h)
theorem qlt {a b : Nat} (h : a < b + 1) (k : a ≠ b) : a < b := Nat.lt_of_le_of_ne (Nat.le_of_lt_succ h) k
theorem qmn {a b c : Nat} (h : a < min b c) : a < b := Nat.lt_of_lt_of_le h (Nat.min_le_left b c)
theorem qmo {a b c k : Nat} (h : b ≤ k) (e : a = min c b) : a ≤ k := e ▸ Nat.le_trans (Nat.min_le_right c b) h
theorem qmp {a b c k : Nat} (h : c ≤ k) : min c b ≤ k := Nat.le_trans (Nat.min_le_left c b) h
theorem q63n {n : Nat} (h : ¬ (63 : Int) < (n : Int)) : n ≤ 63 := Int.ofNat_le.1 (Int.not_lt.1 h)
theorem qna {x : Int} {n : Nat} (h : ((n : Nat) : Int) = x) : 0 ≤ x := h ▸ Int.natCast_nonneg n
theorem qff {a b : Nat} {P : Prop} (h : b < a) (k : a ≤ 0) : P := absurd (Nat.lt_of_lt_of_le h k) (Nat.not_lt_zero b)
theorem qfl {a b : Nat} (h : a < b) (e : a = b) : False := Nat.ne_of_lt h e
end
section
/-! the plain law: a machine of n states, two letters or more, two answers -/
structure Mach where
  n : Nat
  lt : Nat → Int
  n1 : Nat → Nat
  n0 : Nat → Nat
structure Mach.Ok (M : Mach) : Prop where
  h1 : ∀ i, i < M.n → M.n1 i < M.n
  h0 : ∀ i, i < M.n → M.n0 i < M.n
namespace Mach
variable (M : Mach)
noncomputable def step (i : Nat) (b : Int) : Nat := if b = 1 then M.n1 i else M.n0 i
noncomputable def path (i : Nat) : List Int → List Nat
  | [] => [i]
  | b :: r => i :: path (M.step i b) r
noncomputable def fin (i : Nat) (w : List Int) : Nat := w.foldl M.step i
noncomputable def key (f : Nat → Nat) (j : Nat) : Nat × Nat × Nat := (f j, f (M.n1 j), f (M.n0 j))
/-- the first place below n at which p holds (n if none) -/
noncomputable def first (n : Nat) (p : Nat → Bool) : Nat := ((List.range n).findIdx? p).getD n
noncomputable def lots0 (i : Nat) : Nat := first M.n (fun j => M.lt j == M.lt i)
noncomputable def refine (f : Nat → Nat) (i : Nat) : Nat := first M.n (fun j => M.key f j == M.key f i)
theorem first_spec {n : Nat} {p : Nat → Bool} {i : Nat} (hi : i < n) (hp : p i = true) : first n p ≤ i ∧ p (first n p) = true ∧ ∀ j, j < first n p → p j = false := by
  unfold first
  cases h : (List.range n).findIdx? p with
  | none =>
    rw [List.findIdx?_eq_none_iff] at h
    have := h i (List.mem_range.mpr hi)
    rw [hp] at this; cases this
  | some k =>
    rw [List.findIdx?_eq_some_iff_getElem] at h
    obtain ⟨hk, h1, h2⟩ := h
    simp only [List.length_range] at hk
    simp only [List.getElem_range] at h1 h2
    have hle : k ≤ i := by
      rcases Nat.lt_or_ge i k with hlt | hge
      · exact absurd hp (h2 i hlt)
      · exact hge
    exact ⟨hle, h1, fun j hj => by simpa using h2 j hj⟩
/-- f gives each state the first state of its lot -/
structure Canon (f : Nat → Nat) : Prop where
  le : ∀ i, i < M.n → f i ≤ i
  idem : ∀ i, i < M.n → f (f i) = f i
  least : ∀ i j, i < M.n → j < M.n → f j = f i → f i ≤ j
theorem lots0_eq {i j : Nat} (hi : i < M.n) (hj : j < M.n) : M.lots0 i = M.lots0 j ↔ M.lt i = M.lt j := by
  constructor
  · intro h
    have a := (first_spec (p := fun k => M.lt k == M.lt i) hi (by simp)).2.1
    have b := (first_spec (p := fun k => M.lt k == M.lt j) hj (by simp)).2.1
    unfold lots0 at h
    rw [h] at a
    simp only [beq_iff_eq] at a b
    exact a.symm.trans b
  · intro h; unfold lots0; rw [h]
theorem refine_eq {f : Nat → Nat} {i j : Nat} (hi : i < M.n) (hj : j < M.n) : M.refine f i = M.refine f j ↔ M.key f i = M.key f j := by
  constructor
  · intro h
    have a := (first_spec (p := fun k => M.key f k == M.key f i) hi (by simp)).2.1
    have b := (first_spec (p := fun k => M.key f k == M.key f j) hj (by simp)).2.1
    unfold refine at h
    rw [h] at a
    simp only [beq_iff_eq] at a b
    exact a.symm.trans b
  · intro h; unfold refine; rw [h]
theorem lots0_canon : M.Canon M.lots0 := by
  have sp : ∀ i, i < M.n → M.lots0 i ≤ i ∧ (M.lt (M.lots0 i) == M.lt i) = true ∧ ∀ j, j < M.lots0 i → (M.lt j == M.lt i) = false := fun i hi => first_spec (p := fun k => M.lt k == M.lt i) hi (by simp)
  refine ⟨fun i hi => (sp i hi).1, fun i hi => ?_, fun i j hi hj h => ?_⟩
  · exact (M.lots0_eq (Nat.lt_of_le_of_lt (sp i hi).1 hi) hi).mpr (by simpa using (sp i hi).2.1)
  · have := (M.lots0_eq hj hi).mp h
    rcases Nat.lt_or_ge j (M.lots0 i) with hlt | hge
    · have := (sp i hi).2.2 j hlt; simp_all
    · exact hge
theorem refine_canon (f : Nat → Nat) : M.Canon (M.refine f) := by
  have sp : ∀ i, i < M.n → M.refine f i ≤ i ∧ (M.key f (M.refine f i) == M.key f i) = true ∧ ∀ j, j < M.refine f i → (M.key f j == M.key f i) = false := fun i hi => first_spec (p := fun k => M.key f k == M.key f i) hi (by simp)
  refine ⟨fun i hi => (sp i hi).1, fun i hi => ?_, fun i j hi hj h => ?_⟩
  · exact (M.refine_eq (Nat.lt_of_le_of_lt (sp i hi).1 hi) hi).mpr (by simpa using (sp i hi).2.1)
  · have := (M.refine_eq hj hi).mp h
    rcases Nat.lt_or_ge j (M.refine f i) with hlt | hge
    · have := (sp i hi).2.2 j hlt; simp_all
    · exact hge
noncomputable def heads (f : Nat → Nat) : List Nat := (List.range M.n).filter (fun i => f i == i)
theorem heads_le (f : Nat → Nat) : (M.heads f).length ≤ M.n := by
  unfold heads
  exact Nat.le_trans (List.length_filter_le _ _) (by simp)
theorem filter_lt {α : Type} (p q : α → Bool) : ∀ (l : List α), (∀ x ∈ l, p x = true → q x = true) → (∃ x ∈ l, p x = false ∧ q x = true) → (l.filter p).length < (l.filter q).length
  | [], _, ⟨x, hx, _⟩ => nomatch hx
  | a :: l, h, ⟨x, hx, h1, h2⟩ => by
    have hl : ∀ x ∈ l, p x = true → q x = true := fun x hx => h x (.tail _ hx)
    have le : (l.filter p).length ≤ (l.filter q).length := by
      clear h hx
      induction l with
      | nil => simp
      | cons b l ih =>
        have ih := ih fun x hx => hl x (.tail _ hx)
        have hb := hl b (.head _)
        simp only [List.filter_cons]
        cases hp : p b
        · cases hq : q b <;> simp <;> (first | exact ih | exact (qles ih) | omega)
        · rw [hb hp]; simp; exact ih
    rcases List.mem_cons.mp hx with rfl | hx
    · simp only [List.filter_cons, h1, h2, if_true, Bool.false_eq_true, if_false, List.length_cons]; exact (qle1 le)
    · have ih := filter_lt p q l hl ⟨x, hx, h1, h2⟩
      have ha := h a (.head _)
      simp only [List.filter_cons]
      cases hp : p a
      · cases hq : q a <;> simp <;> (first | exact ih | exact (ql1 ih) | omega)
      · rw [ha hp]; simp; exact ih
theorem heads_lt {f : Nat → Nat} (C : M.Canon f) (hok : M.Ok) {i : Nat} (hi : i < M.n) (hne : M.refine f i ≠ f i) : (M.heads f).length < (M.heads (M.refine f)).length := by
  have C' := M.refine_canon f
  have finer : ∀ a b, a < M.n → b < M.n → M.refine f a = M.refine f b → f a = f b := fun a b ha hb h => by
    have := (M.refine_eq ha hb).mp h
    exact congrArg (·.1) this
  refine filter_lt _ _ _ (fun x hx h => ?_) ⟨M.refine f i, ?_, ?_, ?_⟩
  · rw [List.mem_range] at hx
    rw [beq_iff_eq] at h ⊢
    have e1 := finer _ _ (Nat.lt_of_le_of_lt (C'.le x hx) hx) hx (C'.idem x hx)
    have := C.least x (M.refine f x) hx (Nat.lt_of_le_of_lt (C'.le x hx) hx) e1
    rw [h] at this
    exact Nat.le_antisymm (C'.le x hx) this
  · exact List.mem_range.mpr (Nat.lt_of_le_of_lt (C'.le i hi) hi)
  · have hr := Nat.lt_of_le_of_lt (C'.le i hi) hi
    have e1 := finer _ _ hr hi (C'.idem i hi)
    rw [beq_eq_false_iff_ne, e1]
    exact Ne.symm hne
  · rw [beq_iff_eq]; exact C'.idem i hi
noncomputable def iter : Nat → (Nat → Nat)
  | 0 => M.lots0
  | k + 1 => M.refine (iter k)
theorem iter_canon : ∀ k, M.Canon (M.iter k)
  | 0 => M.lots0_canon
  | k + 1 => M.refine_canon _
def Fix (f : Nat → Nat) : Prop := ∀ i, i < M.n → M.refine f i = f i
/-- told apart at the k-th: by at most k answers -/
theorem iter_word (hok : M.Ok) : ∀ k i j, i < M.n → j < M.n → M.iter k i ≠ M.iter k j → ∃ w : List Int, w.length ≤ k ∧ (∀ b ∈ w, b = 1 ∨ b = 0) ∧ M.lt (M.fin i w) ≠ M.lt (M.fin j w)
  | 0, i, j, hi, hj, h => ⟨[], Nat.le_refl _, fun _ h => (nomatch h), fun e => h ((M.lots0_eq hi hj).mpr e)⟩
  | k + 1, i, j, hi, hj, h => by
    have hk : M.key (M.iter k) i ≠ M.key (M.iter k) j := fun e => h ((M.refine_eq hi hj).mpr e)
    by_cases e0 : M.iter k i = M.iter k j
    · by_cases e1 : M.iter k (M.n1 i) = M.iter k (M.n1 j)
      · have e2 : M.iter k (M.n0 i) ≠ M.iter k (M.n0 j) := fun e2 => hk (by unfold key; rw [e0, e1, e2])
        obtain ⟨w, h1, h2, h3⟩ := iter_word hok k _ _ (hok.h0 i hi) (hok.h0 j hj) e2
        exact ⟨0 :: w, by simp; exact h1, fun b hb => by rcases List.mem_cons.mp hb with rfl | hb; exact .inr rfl; exact h2 b hb, h3⟩
      · obtain ⟨w, h1, h2, h3⟩ := iter_word hok k _ _ (hok.h1 i hi) (hok.h1 j hj) e1
        exact ⟨1 :: w, by simp; exact h1, fun b hb => by rcases List.mem_cons.mp hb with rfl | hb; exact .inl rfl; exact h2 b hb, h3⟩
    · obtain ⟨w, h1, h2, h3⟩ := iter_word hok k i j hi hj e0
      exact ⟨w, by exact (qles h1), h2, h3⟩
theorem iter_grow (hok : M.Ok) : ∀ k, (∀ j, j < k → ¬ M.Fix (M.iter j)) → (M.heads M.lots0).length + k ≤ (M.heads (M.iter k)).length
  | 0, _ => Nat.le_refl _
  | k + 1, h => by
    have ih := iter_grow hok k fun j hj => h j (by exact (ql1 hj))
    have hk := h k (by exact qls)
    unfold Fix at hk
    simp only [Classical.not_forall] at hk
    obtain ⟨i, hi, hne⟩ := hk
    have := M.heads_lt (M.iter_canon k) hok hi hne
    show _ ≤ (M.heads (M.refine (M.iter k))).length
    omega
theorem lots_end (hok : M.Ok) : ∃ k, M.Fix (M.iter k) ∧ (∀ j, j < k → ¬ M.Fix (M.iter j)) ∧ k ≤ M.n := by
  have : ¬ ∀ k, k ≤ M.n → ¬ M.Fix (M.iter k) := fun h => by
    have g := M.iter_grow hok M.n fun j hj => h j (by exact (Nat.le_of_lt hj))
    have l := M.heads_le (M.iter M.n)
    have hz : (M.heads M.lots0).length = 0 := by omega
    have hn : M.n = 0 := by
      rcases Nat.eq_zero_or_pos M.n with e | hp
      · exact e
      · have : 0 ∈ M.heads M.lots0 := by
          unfold heads
          rw [List.mem_filter]
          exact ⟨List.mem_range.mpr hp, by rw [beq_iff_eq]; exact Nat.le_zero.mp (M.lots0_canon.le 0 hp)⟩
        rw [List.length_eq_zero_iff.mp hz] at this
        cases this
    exact h 0 (Nat.zero_le _) fun i hi => by exact (qff hi (qele hn (by decide)))
  simp only [Classical.not_forall, Classical.not_not] at this
  obtain ⟨k, hk, hf⟩ := this
  induction k using Nat.strongRecOn with
  | _ k ih =>
    by_cases h : ∃ j, j < k ∧ M.Fix (M.iter j)
    · obtain ⟨j, hj, hf'⟩ := h
      exact ih j hj (by exact (Nat.le_of_lt (Nat.lt_of_lt_of_le hj hk))) hf'
    · exact ⟨k, hf, fun j hj hf' => h ⟨j, hj, hf'⟩, hk⟩
theorem two_lots (hok : M.Ok) {k : Nat} (hfix : M.Fix (M.iter k)) (hfst : ∀ j, j < k → ¬ M.Fix (M.iter j)) {i j : Nat} (hi : i < M.n) (hj : j < M.n) (hne : M.iter k i ≠ M.iter k j) : k + 2 ≤ M.n := by
  have g := M.iter_grow hok k hfst
  have l := M.heads_le (M.iter k)
  have h2 : 2 ≤ (M.heads M.lots0).length := by
    rcases Nat.lt_or_ge (M.heads M.lots0).length 2 with hlt | hge
    · exfalso
      -- one lot alone: all letters are the same, the first lots stay
      have all : ∀ a, a < M.n → M.lots0 a = 0 := fun a ha => by
        have C := M.lots0_canon
        have p0 : 0 < M.n := by exact (qpos ha)
        have m0 : 0 ∈ M.heads M.lots0 := by
          unfold heads; rw [List.mem_filter]
          exact ⟨List.mem_range.mpr p0, by rw [beq_iff_eq]; exact Nat.le_zero.mp (C.le 0 p0)⟩
        have ma : M.lots0 a ∈ M.heads M.lots0 := by
          unfold heads; rw [List.mem_filter]
          exact ⟨List.mem_range.mpr (Nat.lt_of_le_of_lt (C.le a ha) ha), by rw [beq_iff_eq]; exact C.idem a ha⟩
        match hh : M.heads M.lots0, hlt, m0, ma with
        | [x], _, m0, ma => rw [List.mem_singleton.mp ma, ← List.mem_singleton.mp m0]
        | [], _, m0, _ => cases m0
        | _ :: _ :: _, hlt, _, _ => simp only [List.length_cons] at hlt; omega
      have fix0 : M.Fix (M.iter 0) := fun a ha => by
        show M.refine M.lots0 a = M.lots0 a
        rw [all a ha]
        have p0 : 0 < M.n := by exact (qpos ha)
        have e : M.refine M.lots0 a = M.refine M.lots0 0 := (M.refine_eq ha p0).mpr (by
          unfold key
          rw [all a ha, all 0 p0, all _ (hok.h1 a ha), all _ (hok.h1 0 p0), all _ (hok.h0 a ha), all _ (hok.h0 0 p0)])
        rw [e]
        exact Nat.le_zero.mp ((M.refine_canon _).le 0 p0)
      have k0 : k = 0 := by
        rcases Nat.eq_zero_or_pos k with e | hp
        · exact e
        · exact absurd fix0 (hfst 0 hp)
      subst k0
      exact hne ((all i hi).trans (all j hj).symm)
    · exact hge
  omega
end Mach
end
section
namespace Mach
variable (M : Mach)
/-! the plain law of _law_apart: a search by breadth -/
def Bits (w : List Int) : Prop := ∀ b ∈ w, b = 1 ∨ b = 0
def Dist (a b : Nat) (u : List Int) : Prop := Bits u ∧ M.lt (M.fin a u) ≠ M.lt (M.fin b u)
structure BInv (p q : Nat) (W : List (Nat × Nat × List Int)) (V : List (Nat × Nat)) : Prop where
  word : ∀ e ∈ W, Bits e.2.2 ∧ e.1 = M.fin p e.2.2 ∧ e.2.1 = M.fin q e.2.2
  lt : ∀ e ∈ W, e.1 < M.n ∧ e.2.1 < M.n
  vlt : ∀ e ∈ V, e.1 < M.n ∧ e.2 < M.n
  eq : ∀ e ∈ V, M.lt e.1 = M.lt e.2
  nodup : V.Nodup
  wl : ∀ e ∈ W, e.2.2.length ≤ V.length
  ql : W.length ≤ 1 + V.length
  sort : ∃ l, (∀ e ∈ W, l ≤ e.2.2.length ∧ e.2.2.length ≤ l + 1) ∧ W.Pairwise (fun e f => e.2.2.length ≤ f.2.2.length) ∧
    ∀ v ∈ V, ∀ u, M.Dist v.1 v.2 u → ∃ e ∈ W, ∃ u', M.Dist e.1 e.2.1 u' ∧ u'.length < u.length ∧ e.2.2.length + u'.length ≤ l + u.length
  reach : ∀ u, M.Dist p q u → ∃ e ∈ W, ∃ u', M.Dist e.1 e.2.1 u' ∧ e.2.2.length + u'.length ≤ u.length
theorem fin_snoc (i : Nat) (w : List Int) (b : Int) : M.fin i (w ++ [b]) = M.step (M.fin i w) b := by
  unfold fin; rw [List.foldl_append]; rfl
theorem fin_cons (i : Nat) (b : Int) (w : List Int) : M.fin i (b :: w) = M.fin (M.step i b) w := rfl
theorem Bits.snoc {w : List Int} {b : Int} (h : Bits w) (hb : b = 1 ∨ b = 0) : Bits (w ++ [b]) := fun x hx => by
  rcases List.mem_append.mp hx with hx | hx
  · exact h x hx
  · rw [List.mem_singleton.mp hx]; exact hb
theorem BInv.start {p q : Nat} (hp : p < M.n) (hq : q < M.n) : M.BInv p q [(p, q, [])] [] where
  word := fun e he => by rw [List.mem_singleton.mp he]; exact ⟨fun _ h => (nomatch h), rfl, rfl⟩
  lt := fun e he => by rw [List.mem_singleton.mp he]; exact ⟨hp, hq⟩
  vlt := fun _ h => (nomatch h)
  eq := fun _ h => (nomatch h)
  nodup := List.nodup_nil
  wl := fun e he => by rw [List.mem_singleton.mp he]; exact Nat.le_refl _
  ql := Nat.le_refl _
  sort := ⟨0, fun e he => by rw [List.mem_singleton.mp he]; exact ⟨Nat.le_refl _, Nat.zero_le _⟩, by simp, fun _ h => (nomatch h)⟩
  reach := fun u hu => ⟨_, .head _, u, hu, by simp⟩
/-- the shortest word that tells p and q apart -/
structure Apart (p q : Nat) (w : List Int) : Prop where
  dist : M.Dist p q w
  least : ∀ u, M.Dist p q u → w.length ≤ u.length
variable {M}
theorem BInv.found {p q a b : Nat} {w : List Int} {R : List (Nat × Nat × List Int)} {V : List (Nat × Nat)} (h : M.BInv p q ((a, b, w) :: R) V) (hne : M.lt a ≠ M.lt b) : M.Apart p q w := by
  obtain ⟨h1, h2, h3⟩ := h.word _ (.head _)
  dsimp only at h1 h2 h3
  refine ⟨⟨h1, by rw [← h2, ← h3]; exact hne⟩, fun u hu => ?_⟩
  obtain ⟨e, he, u', -, hl⟩ := h.reach u hu
  obtain ⟨l, -, hs, -⟩ := h.sort
  have : w.length ≤ e.2.2.length := by
    rcases List.mem_cons.mp he with rfl | he
    · exact Nat.le_refl _
    · exact (List.pairwise_cons.mp hs).1 e he
  (first | exact (Nat.le_trans this (qadd hl)) | exact (qff h2 hk) | exact (qadd this) | exact (And.intro h1 (qar l1 (And.right h2))) | exact (qlt (by assumption) this) | omega)
theorem BInv.none {p q : Nat} {V : List (Nat × Nat)} (h : M.BInv p q [] V) : ∀ u, ¬ M.Dist p q u := fun u hu => by
  obtain ⟨e, he, -⟩ := h.reach u hu
  cases he
/-- a word that tells two states of one letter apart has a first answer -/
theorem Dist.cons {a b : Nat} {u : List Int} (h : M.Dist a b u) (he : M.lt a = M.lt b) : ∃ c r, u = c :: r ∧ (c = 1 ∨ c = 0) ∧ M.Dist (M.step a c) (M.step b c) r := by
  cases u with
  | nil => exact absurd he h.2
  | cons c r => exact ⟨c, r, rfl, h.1 c (.head _), fun x hx => h.1 x (.tail _ hx), h.2⟩
theorem BInv.seen {p q a b : Nat} {w : List Int} {R : List (Nat × Nat × List Int)} {V : List (Nat × Nat)} (h : M.BInv p q ((a, b, w) :: R) V) (hv : (a, b) ∈ V) : M.BInv p q R V := by
  obtain ⟨l, hl, hs, hd⟩ := h.sort
  obtain ⟨l1, l2⟩ := hl _ (.head _)
  dsimp only at l1 l2
  have hd' : ∀ (k : Nat) (v : Nat × Nat), v ∈ V → ∀ u, u.length ≤ k → M.Dist v.1 v.2 u → ∃ e ∈ R, ∃ u', M.Dist e.1 e.2.1 u' ∧ u'.length < u.length ∧ e.2.2.length + u'.length ≤ w.length + u.length := by
    intro k
    induction k with
    | zero =>
      intro v hv' u hk hu
      obtain ⟨e, he, u', h1, h2, h3⟩ := hd v hv' u hu
      (first | exact (Nat.le_trans this (qadd hl)) | exact (qff h2 hk) | exact (qadd this) | exact (And.intro h1 (qar l1 (And.right h2))) | exact (qlt (by assumption) this) | omega)
    | succ k ih =>
      intro v hv' u hk hu
      obtain ⟨e, he, u', h1, h2, h3⟩ := hd v hv' u hu
      rcases List.mem_cons.mp he with rfl | he
      · obtain ⟨e', he', u2, g1, g2, g3⟩ := ih (a, b) hv u' (by exact (qs3 (Nat.lt_of_lt_of_le h2 hk))) h1
        dsimp only at h3
        exact ⟨e', he', u2, g1, by exact (Nat.lt_trans g2 h2), by exact (qal (Nat.le_of_lt h2) g3)⟩
      · exact ⟨e, he, u', h1, h2, by exact (qar l1 h3)⟩
  refine ⟨fun e he => h.word e (.tail _ he), fun e he => h.lt e (.tail _ he), h.vlt, h.eq, h.nodup, fun e he => h.wl e (.tail _ he), ?_, ⟨w.length, fun e he => ?_, (List.pairwise_cons.mp hs).2, fun v hv' u hu => hd' _ v hv' u (Nat.le_refl _) hu⟩, fun u hu => ?_⟩
  · have := h.ql
    rw [List.length_cons] at this
    (first | exact (Nat.le_trans this (qadd hl)) | exact (qff h2 hk) | exact (qadd this) | exact (And.intro h1 (qar l1 (And.right h2))) | exact (qlt (by assumption) this) | omega)
  · have h1 := (List.pairwise_cons.mp hs).1 e he
    have h2 := hl e (.tail _ he)
    dsimp only at h1
    (first | exact (Nat.le_trans this (qadd hl)) | exact (qff h2 hk) | exact (qadd this) | exact (And.intro h1 (qar l1 (And.right h2))) | exact (qlt (by assumption) this) | omega)
  · obtain ⟨e, he, u', h1, h2⟩ := h.reach u hu
    rcases List.mem_cons.mp he with rfl | he
    · obtain ⟨e', he', u2, g1, g2, g3⟩ := hd' _ (a, b) hv u' (Nat.le_refl _) h1
      dsimp only at h2
      exact ⟨e', he', u2, g1, by exact (Nat.le_trans g3 h2)⟩
    · exact ⟨e, he, u', h1, h2⟩
theorem BInv.new (hok : M.Ok) {p q a b : Nat} {w : List Int} {R : List (Nat × Nat × List Int)} {V : List (Nat × Nat)} (h : M.BInv p q ((a, b, w) :: R) V) (he : M.lt a = M.lt b) (hv : (a, b) ∉ V) :
    M.BInv p q (R ++ [(M.n1 a, M.n1 b, w ++ [1]), (M.n0 a, M.n0 b, w ++ [0])]) (V ++ [(a, b)]) := by
  obtain ⟨l, hl, hs, hd⟩ := h.sort
  obtain ⟨l1, l2⟩ := hl _ (.head _)
  obtain ⟨w1, w2, w3⟩ := h.word _ (.head _)
  obtain ⟨a1, a2⟩ := h.lt _ (.head _)
  have w4 := h.wl _ (.head _)
  dsimp only at l1 l2 w1 w2 w3 a1 a2 w4
  -- from the popped entry on, by one answer
  have go : ∀ u, M.Dist a b u → ∃ e ∈ R ++ [(M.n1 a, M.n1 b, w ++ [1]), (M.n0 a, M.n0 b, w ++ [0])], ∃ u', M.Dist e.1 e.2.1 u' ∧ u'.length < u.length ∧ e.2.2.length + u'.length ≤ w.length + u.length := fun u hu => by
    obtain ⟨c, r, rfl, hc, hr⟩ := hu.cons he
    rcases hc with rfl | rfl
    · exact ⟨_, List.mem_append_right _ (.head _), r, hr, by simp, by simp only [List.length_append, List.length_cons, List.length_nil]; exact qr1⟩
    · exact ⟨_, List.mem_append_right _ (.tail _ (.head _)), r, hr, by simp, by simp only [List.length_append, List.length_cons, List.length_nil]; exact qr1⟩
  have via : ∀ e ∈ (a, b, w) :: R, ∀ u, M.Dist e.1 e.2.1 u → ∃ e' ∈ R ++ [(M.n1 a, M.n1 b, w ++ [1]), (M.n0 a, M.n0 b, w ++ [0])], ∃ u', M.Dist e'.1 e'.2.1 u' ∧ u'.length ≤ u.length ∧ e'.2.2.length + u'.length ≤ e.2.2.length + u.length := fun e he' u hu => by
    rcases List.mem_cons.mp he' with rfl | he'
    · obtain ⟨e', g1, u', g2, g3, g4⟩ := go u hu
      exact ⟨e', g1, u', g2, by exact (Nat.le_of_lt g3), g4⟩
    · exact ⟨e, List.mem_append_left _ he', u, hu, Nat.le_refl _, Nat.le_refl _⟩
  refine ⟨fun e he' => ?_, fun e he' => ?_, fun e he' => ?_, fun e he' => ?_, ?_, fun e he' => ?_, ?_, ⟨w.length, fun e he' => ?_, ?_, fun v hv' u hu => ?_⟩, fun u hu => ?_⟩
  · rcases List.mem_append.mp he' with he' | he'
    · exact h.word e (.tail _ he')
    simp only [List.mem_cons, List.not_mem_nil, or_false] at he'
    rcases he' with rfl | rfl
    · refine ⟨w1.snoc (.inl rfl), ?_, ?_⟩
      · dsimp only; rw [fin_snoc, ← w2]; rfl
      · dsimp only; rw [fin_snoc, ← w3]; rfl
    · refine ⟨w1.snoc (.inr rfl), ?_, ?_⟩
      · dsimp only; rw [fin_snoc, ← w2]; rfl
      · dsimp only; rw [fin_snoc, ← w3]; rfl
  · rcases List.mem_append.mp he' with he' | he'
    · exact h.lt e (.tail _ he')
    simp only [List.mem_cons, List.not_mem_nil, or_false] at he'
    rcases he' with rfl | rfl
    · exact ⟨hok.h1 _ a1, hok.h1 _ a2⟩
    · exact ⟨hok.h0 _ a1, hok.h0 _ a2⟩
  · rcases List.mem_append.mp he' with he' | he'
    · exact h.vlt e he'
    rw [List.mem_singleton.mp he']; exact ⟨a1, a2⟩
  · rcases List.mem_append.mp he' with he' | he'
    · exact h.eq e he'
    rw [List.mem_singleton.mp he']; exact he
  · rw [List.nodup_append]
    refine ⟨h.nodup, by simp, fun x hx y hy e => ?_⟩
    rw [List.mem_singleton.mp hy] at e
    exact hv (e ▸ hx)
  · rw [List.length_append, List.length_singleton]
    rcases List.mem_append.mp he' with he' | he'
    · have := h.wl e (.tail _ he'); exact (qles this)
    simp only [List.mem_cons, List.not_mem_nil, or_false] at he'
    rcases he' with rfl | rfl <;> (simp only [List.length_append, List.length_cons, List.length_nil]; (first | exact (qp1 w4) | exact (And.intro qls' (Nat.le_refl _)) | omega))
  · have := h.ql
    simp only [List.length_append, List.length_cons, List.length_nil] at this ⊢
    (first | exact (Nat.le_trans this (qadd hl)) | exact (qff h2 hk) | exact (qadd this) | exact (And.intro h1 (qar l1 (And.right h2))) | exact (qlt (by assumption) this) | omega)
  · rcases List.mem_append.mp he' with he' | he'
    · have h1 := (List.pairwise_cons.mp hs).1 e he'
      have h2 := hl e (.tail _ he')
      dsimp only at h1
      (first | exact (Nat.le_trans this (qadd hl)) | exact (qff h2 hk) | exact (qadd this) | exact (And.intro h1 (qar l1 (And.right h2))) | exact (qlt (by assumption) this) | omega)
    simp only [List.mem_cons, List.not_mem_nil, or_false] at he'
    rcases he' with rfl | rfl <;> (simp only [List.length_append, List.length_cons, List.length_nil]; (first | exact (qp1 w4) | exact (And.intro qls' (Nat.le_refl _)) | omega))
  · rw [List.pairwise_append]
    refine ⟨(List.pairwise_cons.mp hs).2, by simp, fun x hx y hy => ?_⟩
    have h2 := hl x (.tail _ hx)
    have h1 := (List.pairwise_cons.mp hs).1 x hx
    dsimp only at h1
    simp only [List.mem_cons, List.not_mem_nil, or_false] at hy
    rcases hy with rfl | rfl <;> (simp only [List.length_append, List.length_cons, List.length_nil]; exact (qar l1 (And.right h2)))
  · rcases List.mem_append.mp hv' with hv' | hv'
    · obtain ⟨e, g1, u', g2, g3, g4⟩ := hd v hv' u hu
      obtain ⟨e', k1, u2, k2, k3, k4⟩ := via e g1 u' g2
      exact ⟨e', k1, u2, k2, by exact (Nat.lt_of_le_of_lt k3 g3), by exact (qar l1 (Nat.le_trans k4 g4))⟩
    · rw [List.mem_singleton.mp hv'] at hu
      exact go u hu
  · obtain ⟨e, g1, u', g2, g3⟩ := h.reach u hu
    obtain ⟨e', k1, u2, k2, k3, k4⟩ := via e g1 u' g2
    exact ⟨e', k1, u2, k2, by exact (Nat.le_trans k4 g3)⟩
theorem nodup_lt : ∀ (n : Nat) (l : List Nat), l.Nodup → (∀ x ∈ l, x < n) → l.length ≤ n
  | 0, [], _, _ => Nat.le_refl _
  | 0, a :: _, _, h => absurd (h a (.head _)) (Nat.not_lt_zero _)
  | n + 1, l, hn, h => by
    have ih := nodup_lt n (l.erase n) (hn.erase n) fun x hx => by
      have h1 := (hn.mem_erase_iff).mp hx
      have := h x h1.2
      have := h1.1
      (first | exact (Nat.le_trans this (qadd hl)) | exact (qff h2 hk) | exact (qadd this) | exact (And.intro h1 (qar l1 (And.right h2))) | exact (qlt (by assumption) this) | omega)
    by_cases hm : n ∈ l
    · have := List.length_erase_of_mem hm; omega
    · rw [List.erase_of_not_mem hm] at ih; exact (qles ih)
theorem pairs_le (n : Nat) (V : List (Nat × Nat)) (hn : V.Nodup) (hv : ∀ e ∈ V, e.1 < n ∧ e.2 < n) : V.length ≤ n * n := by
  have lt : ∀ e ∈ V, e.1 * n + e.2 < n * n := fun e he => by
    obtain ⟨a1, a2⟩ := hv e he
    calc e.1 * n + e.2 < e.1 * n + n := by exact (qmu a2)
      _ = (e.1 + 1) * n := by rw [Nat.add_mul, Nat.one_mul]
      _ ≤ n * n := Nat.mul_le_mul_right _ a1
  have inj : (V.map (fun e => e.1 * n + e.2)).Nodup := by
    rw [List.Nodup, List.pairwise_map]
    refine List.Pairwise.imp_of_mem (fun {a b} ha hb hab e => ?_) hn
    obtain ⟨a1, a2⟩ := hv a ha
    obtain ⟨b1, b2⟩ := hv b hb
    have hp : 0 < n := by exact (qpos b1)
    have h1 : a.2 = b.2 := by
      have := congrArg (· % n) e
      simpa [Nat.add_mod, Nat.mod_eq_of_lt a2, Nat.mod_eq_of_lt b2] using this
    have h2 : a.1 = b.1 := by
      rw [h1] at e
      have : a.1 * n = b.1 * n := Nat.add_right_cancel e
      exact Nat.eq_of_mul_eq_mul_right hp this
    exact hab (Prod.ext h2 h1)
  have := nodup_lt (n * n) _ inj fun x hx => by
    obtain ⟨e, he, rfl⟩ := List.mem_map.mp hx
    exact lt e he
  simpa using this
theorem BInv.vn {p q : Nat} {W : List (Nat × Nat × List Int)} {V : List (Nat × Nat)} (h : M.BInv p q W V) : V.length ≤ M.n * M.n := pairs_le _ _ h.nodup h.vlt
end Mach
end
section
namespace Mach
variable {M : Mach}
/-! the plain law: lots, the program with one statement a lot, words that tell two states apart -/
structure Lots (M : Mach) (f : Nat → Nat) : Prop where
  canon : M.Canon f
  fine : ∀ i j, i < M.n → j < M.n → f i = f j → M.lt i = M.lt j ∧ f (M.n1 i) = f (M.n1 j) ∧ f (M.n0 i) = f (M.n0 j)
  short : ∀ i j, i < M.n → j < M.n → f i ≠ f j → ∃ w, w.length + 2 ≤ M.n ∧ M.Dist i j w
theorem iter_lt : ∀ k i j, i < M.n → j < M.n → M.iter k i = M.iter k j → M.lt i = M.lt j
  | 0, _, _, hi, hj, h => (M.lots0_eq hi hj).mp h
  | k + 1, i, j, hi, hj, h => iter_lt k i j hi hj (congrArg (·.1) ((M.refine_eq hi hj).mp h))
theorem lots_of (hok : M.Ok) {k : Nat} (hfix : M.Fix (M.iter k)) (hfst : ∀ j, j < k → ¬ M.Fix (M.iter j)) : M.Lots (M.iter k) where
  canon := M.iter_canon k
  fine := fun i j hi hj h => ⟨iter_lt k i j hi hj h, by
    rw [← hfix i hi, ← hfix j hj] at h
    have := (M.refine_eq hi hj).mp h
    unfold key at this
    simp only [Prod.mk.injEq] at this
    exact this.2⟩
  short := fun i j hi hj h => by
    obtain ⟨w, h1, h2, h3⟩ := M.iter_word hok k i j hi hj h
    have := M.two_lots hok hfix hfst hi hj h
    exact ⟨w, by omega, h2, h3⟩
theorem step_lt (hok : M.Ok) {i : Nat} (hi : i < M.n) (b : Int) : M.step i b < M.n := by
  unfold step; split
  · exact hok.h1 i hi
  · exact hok.h0 i hi
theorem Lots.step {f : Nat → Nat} (h : M.Lots f) {i j : Nat} (hi : i < M.n) (hj : j < M.n) (e : f i = f j) (b : Int) : f (M.step i b) = f (M.step j b) := by
  unfold Mach.step; split
  · exact (h.fine i j hi hj e).2.1
  · exact (h.fine i j hi hj e).2.2
theorem Lots.fin (hok : M.Ok) {f : Nat → Nat} (h : M.Lots f) : ∀ (w : List Int) {i j : Nat}, i < M.n → j < M.n → f i = f j → M.lt (M.fin i w) = M.lt (M.fin j w)
  | [], i, j, hi, hj, e => (h.fine i j hi hj e).1
  | b :: w, _, _, hi, hj, e => Lots.fin hok h w (step_lt hok hi b) (step_lt hok hj b) (h.step hi hj e b)
theorem Lots.path (hok : M.Ok) {f : Nat → Nat} (h : M.Lots f) : ∀ (w : List Int) {i j : Nat}, i < M.n → j < M.n → f i = f j → (M.path i w).map M.lt = (M.path j w).map M.lt
  | [], i, j, hi, hj, e => by simp [Mach.path, (h.fine i j hi hj e).1]
  | b :: w, i, j, hi, hj, e => by
    have := Lots.path hok h w (step_lt hok hi b) (step_lt hok hj b) (h.step hi hj e b)
    simp [Mach.path, (h.fine i j hi hj e).1, this]
/-- apart or in one lot -/
theorem Lots.none (hok : M.Ok) {f : Nat → Nat} (h : M.Lots f) {p q : Nat} (hp : p < M.n) (hq : q < M.n) {V : List (Nat × Nat)} (hb : M.BInv p q [] V) : f p = f q := by
  rcases Nat.decEq (f p) (f q) with hne | e
  · obtain ⟨w, -, hw⟩ := h.short p q hp hq hne
    exact absurd hw (hb.none w)
  · exact e
theorem Lots.some (hok : M.Ok) {f : Nat → Nat} (h : M.Lots f) {p q : Nat} (hp : p < M.n) (hq : q < M.n) {w : List Int} (ha : M.Apart p q w) : f p ≠ f q ∧ w.length + 2 ≤ M.n := by
  have hne : f p ≠ f q := fun e => ha.dist.2 (h.fin hok w hp hq e)
  refine ⟨hne, ?_⟩
  obtain ⟨u, h1, h2⟩ := h.short p q hp hq hne
  have := ha.least u h2
  omega
theorem path_len (i : Nat) : ∀ (w : List Int), (M.path i w).length = w.length + 1
  | [] => rfl
  | b :: w => by unfold Mach.path; rw [List.length_cons, path_len (M.step i b) w]; rfl
theorem path_snoc (b : Int) : ∀ (w : List Int) (i : Nat), M.path i (w ++ [b]) = M.path i w ++ [M.fin i (w ++ [b])]
  | [], i => rfl
  | c :: w, i => by
    show i :: M.path (M.step i c) (w ++ [b]) = (i :: M.path (M.step i c) w) ++ [M.fin (M.step i c) (w ++ [b])]
    rw [path_snoc b w]; rfl
theorem path_eq {p q : Nat} : ∀ (n : Nat) (w : List Int), w.length = n → (∀ u r, w = u ++ r → M.lt (M.fin p u) = M.lt (M.fin q u)) → (M.path p w).map M.lt = (M.path q w).map M.lt
  | 0, w, hn, h => by
    rw [List.length_eq_zero_iff.mp hn]
    simpa [Mach.path, Mach.fin] using h [] w rfl
  | n + 1, w, hn, h => by
    have hne : w ≠ [] := fun e => by rw [e] at hn; cases hn
    obtain ⟨v, b, rfl⟩ : ∃ v b, w = v ++ [b] := ⟨_, _, (List.dropLast_concat_getLast hne).symm⟩
    have hv : v.length = n := by simpa using hn
    rw [path_snoc, path_snoc, List.map_append, List.map_append, path_eq n v hv (fun u r e => h u (r ++ [b]) (by rw [e, List.append_assoc]))]
    simp only [List.map_cons, List.map_nil]
    rw [h (v ++ [b]) [] (by simp)]
theorem Apart.words {p q : Nat} {w : List Int} (h : M.Apart p q w) : ∃ (pre : List Int) (x y : Int), (M.path p w).map M.lt = pre ++ [x] ∧ (M.path q w).map M.lt = pre ++ [y] ∧ x ≠ y := by
  have hd := h.dist.2
  rcases List.eq_nil_or_concat w with rfl | ⟨v, b, rfl⟩
  · exact ⟨[], M.lt p, M.lt q, rfl, rfl, hd⟩
  · rw [List.concat_eq_append] at *
    refine ⟨(M.path p v).map M.lt, M.lt (M.fin p (v ++ [b])), M.lt (M.fin q (v ++ [b])), ?_, ?_, hd⟩
    · rw [path_snoc]; simp
    · have e1 : (M.path p v).map M.lt = (M.path q v).map M.lt := path_eq v.length v rfl fun u r e => by
        subst e
        refine Classical.byContradiction fun hne => ?_
        have := h.least u ⟨fun x hx => h.dist.1 x (by simp only [List.mem_append]; exact .inl (.inl hx)), hne⟩
        simp only [List.length_append, List.length_singleton] at this
        omega
      rw [path_snoc, e1]; simp
/-- one statement for each lot -/
structure Quot (M Q : Mach) (g : Nat → Nat) : Prop where
  lt : ∀ i, i < M.n → Q.lt (g i) = M.lt i
  n1 : ∀ i, i < M.n → Q.n1 (g i) = g (M.n1 i)
  n0 : ∀ i, i < M.n → Q.n0 (g i) = g (M.n0 i)
theorem Quot.path (hok : M.Ok) {Q : Mach} {g : Nat → Nat} (h : Quot M Q g) : ∀ (w : List Int) {i : Nat}, i < M.n → Q.path (g i) w = (M.path i w).map g ∧ (Q.path (g i) w).map Q.lt = (M.path i w).map M.lt
  | [], i, hi => by simp [Mach.path, h.lt i hi]
  | b :: w, i, hi => by
    have e : Q.step (g i) b = g (M.step i b) := by
      unfold Mach.step; split
      · exact h.n1 i hi
      · exact h.n0 i hi
    obtain ⟨h1, h2⟩ := Quot.path hok h w (step_lt hok hi b)
    unfold Mach.path
    rw [e]
    exact ⟨by rw [h1]; rfl, by rw [List.map_cons, List.map_cons, h2, h.lt i hi]⟩
theorem head_mem {f : Nat → Nat} (C : M.Canon f) {i : Nat} (hi : i < M.n) : f i ∈ M.heads f := by
  unfold heads; rw [List.mem_filter]
  exact ⟨List.mem_range.mpr (Nat.lt_of_le_of_lt (C.le i hi) hi), by rw [beq_iff_eq]; exact C.idem i hi⟩
theorem heads_nodup {f : Nat → Nat} : (M.heads f).Nodup := List.nodup_range.filter _
/-- the program made of the lots: for the j-th head some state of its lot -/
theorem quot_of {Q : Mach} {f c : Nat → Nat} (h : M.Lots f) (hc : ∀ j x, (M.heads f)[j]? = some x → c j < M.n ∧ f (c j) = x ∧ Q.lt j = M.lt (c j) ∧ Q.n1 j = (M.heads f).idxOf (f (M.n1 (c j))) ∧ Q.n0 j = (M.heads f).idxOf (f (M.n0 (c j)))) :
    Quot M Q (fun i => (M.heads f).idxOf (f i)) := by
  have key : ∀ i, i < M.n → c ((M.heads f).idxOf (f i)) < M.n ∧ f (c ((M.heads f).idxOf (f i))) = f i ∧ Q.lt ((M.heads f).idxOf (f i)) = M.lt (c ((M.heads f).idxOf (f i))) ∧ Q.n1 ((M.heads f).idxOf (f i)) = (M.heads f).idxOf (f (M.n1 (c ((M.heads f).idxOf (f i))))) ∧ Q.n0 ((M.heads f).idxOf (f i)) = (M.heads f).idxOf (f (M.n0 (c ((M.heads f).idxOf (f i))))) := fun i hi => by
    have hm := head_mem h.canon hi
    exact hc _ (f i) (by rw [List.getElem?_eq_getElem (List.idxOf_lt_length_iff.mpr hm), List.getElem_idxOf])
  refine ⟨fun i hi => ?_, fun i hi => ?_, fun i hi => ?_⟩
  · obtain ⟨k1, k2, k3, k4, k5⟩ := key i hi
    show _ = _
    rw [k3, (h.fine _ _ k1 hi k2).1]
  · obtain ⟨k1, k2, k3, k4, k5⟩ := key i hi
    show _ = _
    rw [k4, (h.fine _ _ k1 hi k2).2.1]
  · obtain ⟨k1, k2, k3, k4, k5⟩ := key i hi
    show _ = _
    rw [k5, (h.fine _ _ k1 hi k2).2.2]
end Mach
end
section
open PySem PySem.W PyProof.Rows
set_option Elab.async false
set_option maxRecDepth 100000
set_option maxHeartbeats 8000000
local macro_rules | `(tactic| o_head $_t) => `(tactic| assumption)
theorem kdef (_h : OpenRow.Holds PySem.Challenge.rw_xm0939_01.row) : OpenRow.Holds PySem.Challenge.rw_xm0939_01.row := by k_head
noncomputable def as0 : List Addr := [2, 3, 15, 18, 23, 24, 25, 27, 28, 30, 31, 32, 33, 34, 35, 45, 46, 47, 48, 49, 52, 54, 55, 57, 58, 66, 68, 69, 71, 72, 73, 75, 76, 78, 79, 80, 82, 83, 85, 86, 87, 89, 90, 92, 93,
94, 95, 96, 97, 98, 108, 110, 111, 113, 114, 115, 117, 118, 120, 121, 122, 124, 125, 127, 128, 129, 131, 132, 134, 135, 136, 138, 139, 141, 142, 143, 145, 146, 148, 149, 150, 152,
153, 155, 156, 157, 159, 160, 162, 163, 164, 166, 167, 169, 170, 171, 173, 174, 176, 177, 178, 180, 181, 183, 184, 185, 187, 188, 190, 191, 192, 194, 195, 197, 198, 199, 201, 202,
204, 205, 206, 208, 209, 211, 212, 213, 215, 216, 218, 219, 220, 222, 223, 225, 226, 227, 229, 230, 232, 233, 234, 236, 237, 239, 240, 241, 242, 243, 244, 245, 248, 250, 251, 253,
254, 255, 257, 258, 260, 261, 262, 264, 265, 267, 268, 269, 271, 272, 274, 275, 276, 278, 279, 281, 282, 283, 285, 286, 288, 289, 290, 292, 293, 295, 296, 304, 306, 307, 309, 310,
311, 312, 313, 314, 315, 325, 327, 328, 330, 331, 332, 333, 334, 335, 336, 339, 341, 342, 344, 345, 346, 348, 349, 351, 352, 353, 355, 356, 358, 359, 360, 362, 363, 365, 366, 367,
369, 370, 372, 373, 374, 376, 377, 379, 380, 381, 383, 384, 386, 387, 388, 390, 391, 393, 394, 395, 398, 399, 407, 409, 410, 412, 413, 414, 415, 416, 417, 418, 421, 424, 425, 426,
429, 430, 431, 433, 434, 436, 437, 438, 441, 442]
theorem as0_is (P : Params) : as0 = (kdef.heap_1 P).map (·.1) := by kernel_rfl
end
section
open PySem PySem.W PyProof.Rows PySem.Calls PySem.Spec PySem.W.X
set_option Elab.async false
set_option maxRecDepth 100000
set_option maxHeartbeats 8000000
example : kdef.heap_1 = kdef.heap_1 ∧ PySem.Challenge.rw_xm0939_01 = PySem.Challenge.rw_xm0939_01 := by
  k_fill
  exact ⟨rfl, rfl⟩
noncomputable abbrev PG := PySem.Challenge.rw_xm0939_01.row.prog
theorem own_exc_init : classOwn (.type "Exception") "__init__" = pure (some (.builtin "Exception.__init__")) := by kernel_rfl
theorem type_exc_init : typeOf (.builtin "Exception.__init__") = pure (.type "wrapper_descriptor") := by
  show builtinType _ = _; rw [builtinType_eq_fast]; kernel_rfl
theorem look_wd_get : typeLookup (.type "wrapper_descriptor") "__get__" = pure (some (.builtin "wrapper_descriptor.__get__")) := by
  rw [typeLookup_type, builtinLookup_eq_fast]; kernel_rfl

theorem wp_le {α : Type} {M : Model} {A : Around} {t : Sem α} {Q : α → Shared → Prop} {E : Value → Shared → Prop} {s : Shared} {d u : Nat}
    (h : wpAny M { handled := A.handled, depth := d, frames := A.frames, guards := A.guards, units := u } t Q E s) (hd : A.depth ≤ d) (hu : A.units ≤ u) : wpAny M A t Q E s :=
  fun Γ p hΓ => h Γ p ⟨hΓ.1, Nat.le_trans hΓ.2.1 hd, hΓ.2.2.1, hΓ.2.2.2.1, Nat.le_trans hΓ.2.2.2.2 hu⟩
/-- what a call asks of its surroundings -/
structure Roomy (A : Around) (env : Env) (outer : List Env) : Prop where
  hd : A.handled = none
  fr : A.frames = some (env :: outer)
  gd : A.guards = some []
  dp : A.depth ≤ 600
  un : A.units ≤ 5000
noncomputable abbrev AC (env : Env) (outer : List Env) : Around := { handled := none, depth := 600, frames := some (env :: outer), guards := some [], units := 5000 }
theorem wp_roomy {α : Type} {M : Model} {A : Around} {env : Env} {outer : List Env} {t : Sem α} {Q : α → Shared → Prop} {E : Value → Shared → Prop} {s : Shared} (R : Roomy A env outer)
    (h : wpAny M (AC env outer) t Q E s) : wpAny M A t Q E s := by
  refine cps fun zG zk => ?_
  obtain ⟨hh, dp, fr, gd, un⟩ := A
  obtain ⟨h1, h2, h3, h4, h5⟩ := R
  refine zk ?_
  clear zk zG
  dsimp only at h1 h2 h3 h4 h5
  subst h1 h2 h3
  exact wp_le (A := ⟨none, dp, _, _, un⟩) h h4 h5
theorem mem_stays {h₀ h : Heap} {news : List (Addr × Obj)} (D : Mem h₀ h [] news) : h₀.StaysIn h := fun b o e => D.keep b o e (by simp [away])
set_option hygiene false in
local macro_rules | `(tactic| x_close) => `(tactic| exact hQ _ _ (D.nw _ (.head _)).1 (mem_stays D) (D.nw _ (.head _)).2)
theorem wd_get {w : World} {env : Env} {outer : List Env} {s : Shared} {e tt : Addr} (X : (kdef.heap_1 w.params).In s.heap)
   (he : s.heap.get? e = some ⟨.ref 34, none, .fields #[.ref tt, .none, .none, .none, .bool false, .none], #[]⟩) {Q : Value → Shared → Prop} {E : Value → Shared → Prop}
   (hQ : ∀ q h', h'.get? q = some ⟨.type "method-wrapper", none, .fields #[.builtin "Exception.__init__", .ref e], #[]⟩ → s.heap.StaysIn h' → s.heap.get? q = none → Q (.ref q) { s with heap := h' }) :
  wpAny (model PG w) (AC env outer) (call (.builtin "wrapper_descriptor.__get__") [.builtin "Exception.__init__", .ref e, .ref 34]) Q E s := by
  x_run

theorem exc_ga {w : World} {A : Around} {env : Env} {outer : List Env} (R : Roomy A env outer) {hh : Heap} {g : Array GenState} {d : Drawn} {t : Nat} {os : OsState} {E : Value → Shared → Prop} {so e tt : Addr} {tk : Tok} {Q : Fin → Shared → Prop}
    (X : (kdef.heap_1 w.params).In hh) (hso : hh.get? so = some { cls := .type "super", dict := none, data := .fields #[.ref 34, .ref e, .ref 34], slots := #[] })
    (he : hh.get? e = some ⟨.ref 34, none, .fields #[.ref tt, .none, .none, .none, .bool false, .none], #[]⟩)
    (hno : Looks (model PG w) hh (opaqueClassAbove (.ref 34)) none) (hC : Looks (model PG w) hh (mroOf (.ref 34)) [.ref 34, .type "Exception", .type "BaseException", .type "object"]) (hxC : e ≠ 34)
    (hQ : ∀ q h', h'.get? q = some ⟨.type "method-wrapper", none, .fields #[.builtin "Exception.__init__", .ref e], #[]⟩ → hh.StaysIn h' → hh.get? q = none → Q (.done (.ret (.ref q))) ⟨h', g, d, t, os⟩) :
    wpAny (model PG w) A (Builtin.«super.__getattribute__» ⟨[.ref so, .str "__init__" tk], []⟩) Q E ⟨hh, g, d, t, os⟩ := by
  have hne : (Value.ref e == Value.ref 34) = false := by simp [hxC]
  have hdt : ({ cls := .type "super", dict := none, data := .fields #[.ref 34, .ref e, .ref 34], slots := #[] } : Obj).data = .fields #[.ref 34, .ref e, .ref 34] := rfl
  have f0 : (#[.ref 34, .ref e, .ref 34] : Array Value)[0]? = some (.ref 34) := rfl
  have f1 : (#[.ref 34, .ref e, .ref 34] : Array Value)[1]? = some (.ref e) := rfl
  have f2 : (#[.ref 34, .ref e, .ref 34] : Array Value)[2]? = some (.ref 34) := rfl
  have hn : ((Str.ofString "__init__") == ("__class__" : Str)) = false := by decide
  have hl : (([.ref 34, .type "Exception", .type "BaseException", .type "object"] : List Value).dropWhile (· != .ref 34)).drop 1 = [.type "Exception", .type "BaseException", .type "object"] := by decide
  have hgd := look_wd_get
  have hte := type_exc_init
  unfold Builtin.«super.__getattribute__»
  repeat (first
    | (with_reducible refine wpAny_field hso hdt f0 ?_) | (with_reducible refine wpAny_field hso hdt f1 ?_) | (with_reducible refine wpAny_field hso hdt f2 ?_)
    | (with_reducible refine ks_wpAny_notOpaque hno ?_)
    | (with_reducible refine Looks.at hC ?_; rw [hl])
    | (rw [List.forIn_cons, own_exc_init])
    | (simp only [hn, hne, Bool.or_false, Bool.false_eq_true, if_false])
    | ((with_reducible show wpAny _ _ (call (Value.builtin "wrapper_descriptor.__get__") _) _ _ _); refine wp_roomy R (wd_get X he ?_); intro q h' e1 e2 e3)
    | wp_step
    | dsimp only)
  all_goals exact hQ _ _ (by assumption) (by assumption) (by assumption)
theorem exc_gm {w : World} {A : Around} {env : Env} {outer : List Env} (R : Roomy A.in1 env outer) {hh : Heap} {g : Array GenState} {d : Drawn} {t : Nat} {os : OsState} {E : Value → Shared → Prop} {so e tt : Addr} {pl : Sem Bool} {Q : Value × List Value → Shared → Prop}
    (X : (kdef.heap_1 w.params).In hh) (hso : hh.get? so = some { cls := .type "super", dict := none, data := .fields #[.ref 34, .ref e, .ref 34], slots := #[] })
    (he : hh.get? e = some ⟨.ref 34, none, .fields #[.ref tt, .none, .none, .none, .bool false, .none], #[]⟩)
    (hno : Looks (model PG w) hh (opaqueClassAbove (.ref 34)) none) (hC : Looks (model PG w) hh (mroOf (.ref 34)) [.ref 34, .type "Exception", .type "BaseException", .type "object"]) (hxC : e ≠ 34)
    (hQ : ∀ q h', h'.get? q = some ⟨.type "method-wrapper", none, .fields #[.builtin "Exception.__init__", .ref e], #[]⟩ → hh.StaysIn h' → hh.get? q = none → Q (.ref q, []) ⟨h', g, d, t + 1, os⟩) :
    wpAny (model PG w) A (getMethod (.ref so) "__init__" pl) Q E ⟨hh, g, d, t, os⟩ := by
  have hlk := F.ks_slot_super_ga.lookup
  have hcan := F.ks_canon_super_ga
  have hT : ∀ t', (⟨hh, g, d, t', os⟩ : Shared).TypeIs (.ref so) "super" := fun _ => ⟨_, hso, rfl⟩
  unfold getMethod
  refine wpAny_bind (wpAny_specialOf (hT _) hlk ?_)
  show wpAny _ _ (if (Manifest.canonical "super.__getattribute__" != "object.__getattribute__") = true then _ else _) _ _ _
  rw [if_pos hcan]
  unfold getAttr getAttrBy
  refine wpAny_bind (wpAny_bind (wpAny_mkText (wpAny_holding (wpAny_bind (wpAny_typeOf (hT _) (wpAny_bind (wpAny_of_eq hlk ?_)))))))
  show wpAny _ _ (getAttrByItsOwn (.ref so) (.str "__init__" t) (.type "super") (.builtin "super.__getattribute__") true false) _ _ _
  unfold getAttrByItsOwn hookBefore callGetattribute boundAndCalled
  refine wpAny_bind (wpAny_of_eq (show (if onTheHeap (.type "super") then typeLookup (.type "super") "__getattr__" else pure none) = pure none from rfl) ?_)
  refine wpAny_bind (wpAny_attempt (wpAny_holding ?_))
  show wpAny _ _ (bindSpecial (.builtin "super.__getattribute__") (.ref so) >>= _) _ _ _
  refine wpAny_bind (wpAny_of_eq (F.ks_slot_super_ga.bind _) ?_)
  refine wpAny_mono (Q := fun v s' => ∃ q h', v = .ref q ∧ s' = ⟨h', g, d, t + 1, os⟩ ∧ h'.get? q = some ⟨.type "method-wrapper", none, .fields #[.builtin "Exception.__init__", .ref e], #[]⟩ ∧ hh.StaysIn h' ∧ hh.get? q = none) (E := fun _ _ => False)
    (wpAny_call_entry F.ks_slot_super_ga (hT _) F.ks_entry_super_ga (exc_ga R X hso he hno hC hxC fun q h' e1 e2 e3 => ⟨_, rfl, q, h', rfl, rfl, e1, e2, e3⟩) (F.ks_gaArgs_super _ _)) (fun v s' hv => ?_) fun _ _ z => z.elim
  refine cps fun zG zk => ?_
  obtain ⟨q, h', rfl, rfl, e1, e2, e3⟩ := hv
  refine zk ?_
  clear zk zG
  exact wpAny_pure (wpAny_pure (hQ _ _ e1 e2 e3))
end
section
open PySem PySem.W PyProof.Rows PySem.Calls PySem.Spec PySem.W.X
set_option Elab.async false
set_option maxRecDepth 100000
set_option maxHeartbeats 8000000
example : kdef.heap_1 = kdef.heap_1 ∧ PySem.Challenge.rw_xm0939_01 = PySem.Challenge.rw_xm0939_01 := by
  k_fill
  exact ⟨rfl, rfl⟩
noncomputable abbrev bmE : List Value := [.type "Exception", .type "BaseException", .type "object"]
theorem snob_cls {w : World} {h : Heap} (X : (kdef.heap_1 w.params).In h) : ∃ nm q bs hdct sn sub ab col dd k0 k1 k2 k3 k5, hdct = true ∧ h.get? 34 = some (excClassObj nm q 34 33 bs bmE hdct sn sub ab col dd k0 k1 k2 k3 k5 "Exception.__new__") :=
  ⟨_, _, _, _, _, _, _, _, _, _, _, _, _, _, rfl, X 34 _ (by k_is)⟩
theorem ns_some_of {K : Frag} {h : Heap} {N : Addr} {m : Str → Option Value} {n : Str} {v : Value} (X : K.In h) (G : h.Ns N m) (e : nsIn K N n = some (some v)) : m n = some v := by
  obtain ⟨o, es, ep, ho, hd, _, hf⟩ := G
  unfold nsIn at e
  split at e
  · rename_i c d es' n' sl q
    have := X _ _ q
    rw [ho] at this
    cases this
    cases hd
    split at e
    · rename_i en he
      cases e
      rw [← hf]
      unfold nsFind findBy
      rw [← Array.find?_toList, he]
      rfl
    · split at e <;> cases e
  · cases e
theorem snob_ns {w : World} {h : Heap} (X : (kdef.heap_1 w.params).In h) : ∃ mN, h.Ns 33 mN ∧ mN "__init__" = some (.ref 31) ∧ mN "__setattr__" = none ∧ mN "number" = none ∧ mN "told" = none := by
  have hN : h.Ns 33 (h.nsMap 33) := .of_isNs (isNs_of_in X (by kernel_rfl))
  exact ⟨_, hN, ns_some_of X hN (by k_is), ns_none_of X hN (by k_is), ns_none_of X hN (by k_is), ns_none_of X hN (by k_is)⟩
theorem exc_mw {w : World} {A : Around} {hh : Heap} {g : Array GenState} {d : Drawn} {t : Nat} {os : OsState} {E : Value → Shared → Prop} {q e tt : Addr} {x : Value} {Q : Value → Shared → Prop}
    (X : (kdef.heap_1 w.params).In hh) (hq : hh.get? q = some ⟨.type "method-wrapper", none, .fields #[.builtin "Exception.__init__", .ref e], #[]⟩)
    (he : hh.get? e = some ⟨.ref 34, none, .fields #[.ref tt, .none, .none, .none, .bool false, .none], #[]⟩)
    (hQ : ∀ h' t2, h'.get? e = some ⟨.ref 34, none, .fields #[.ref t2, .none, .none, .none, .bool false, .none], #[]⟩ → (∀ b o, b ≠ e → hh.get? b = some o → h'.get? b = some o) → hh.get? t2 = none → Q .none ⟨h', g, d, t, os⟩) :
    wpAny (model PG w) A (call (.ref q) [x]) Q E ⟨hh, g, d, t, os⟩ := by
  have FB := PySem.F.excBase_Exception
  obtain ⟨nm, qn, bs, hdct, sn, sub, ab, col, dd, k0, k1, k2, k3, k5, -, hC⟩ := snob_cls X
  refine wpAny_call (codeAny_of_tree ?_)
  show wpAny _ _ (callAny (.ref q) ⟨[x], []⟩) _ _ _
  unfold callAny
  refine wpAny_bind (wpAny_load hq ?_)
  have hk : builtinKind "Exception.__init__" = some .slot := by decide +kernel
  have hs := FB.initRow
  simp only [checkBoundCall, hk, hs]
  repeat (first | wp_step | dsimp only)
  refine ⟨Code.quiet_builtin _ (by decide +kernel), codeAny_builtin FB.initEntry ?_⟩
  rw [Around.under_plain (by first | rfl | kernel_rfl | decide +kernel) (by first | rfl | kernel_rfl | decide +kernel)]
  unfold Builtin.«BaseException.__init__»
  dsimp only
  rw [if_neg (by simp)]
  unfold newTuple Builtin.BaseException.bexcPut
  have he₁ := Heap.get?_push_of_some (h := hh) { cls := .type "tuple", data := .seq [x].toArray } he
  refine wpAny_bind (wpAny_newObj_type (wpAny_bind (wpAny_bind (wpAny_field he₁ rfl rfl (wpAny_bind (wpAny_setField he₁ rfl (by show 0 < 6; decide) ?_))))) (by size_fits))
  refine wpAny_letGo (wpAny_pure ?_)
  have hfr := (Heap.get?_some_iff.mp he₁).2
  have hu := Heap.get?_update_self (Obj.mapFields (·.setIfInBounds 0 (Value.ref hh.objs.size))) he₁ (Obj.isFreed_of_fields (Obj.data_mapFields rfl _))
  refine hQ _ hh.objs.size hu (fun b o hb ho => ?_) (Heap.get?_none_of_le (Nat.le_refl _))
  exact (Heap.get?_update_other _ _ (Ne.symm hb)).trans (Heap.get?_push_of_some _ ho)
end
section
open PySem PySem.W PyProof.Rows PySem.Calls PySem.Spec
set_option Elab.async false
set_option maxRecDepth 100000
set_option maxHeartbeats 8000000
example : kdef.heap_1 = kdef.heap_1 ∧ PySem.Challenge.rw_xm0939_01 = PySem.Challenge.rw_xm0939_01 := by
  k_fill
  exact ⟨rfl, rfl⟩
noncomputable abbrev excO (tt : Addr) : Obj := ⟨.ref 34, none, .fields #[.ref tt, .none, .none, .none, .bool false, .none], #[]⟩
open Builtin Builtin.ObjectAttr in
/-- the first attribute of a fresh exception: its dict is made at the end of the heap -/
theorem store_first_entry {w : World} {A : Around} {E : Value → Shared → Prop} {h : Heap} {g : Array GenState} {d : Drawn} {t : Nat} {tk : Tok} {os : OsState} {e : Addr} {v : Value} {o : Obj} {Q : Fin → Shared → Prop}
    (X : (kdef.heap_1 w.params).In h) (hx : h.get? e = some o) (hc : o.cls = .ref 34) (hdn : o.dict = none) (hnc : ∀ c, o.data ≠ .cls c)
    (hq : ∀ h' tk' od, h'.get? h.objs.size = some od → (∀ (h₂ : Heap) (b : Addr), h₂.get? b = some od → h₂.Ns1 b (fun y => if y = "number" then some v else none)) →
      h'.get? e = some { o with dict := some h.objs.size } → (∀ b ob, b ≠ e → h.get? b = some ob → h'.get? b = some ob) → Q (.done (.ret .none)) ⟨h', g, d, tk', os⟩) :
    wpAny (model PG w) A (Builtin.«object.__setattr__» ⟨[.ref e, .str "number" tk, v], []⟩) Q E ⟨h, g, d, t, os⟩ := by
  refine cps fun zG zk => ?_
  obtain ⟨nm, q, bs, hdct, sn, sub, ab, col, dd, k0, k1, k2, k3, k5, rfl, hC⟩ := snob_cls X
  obtain ⟨mN, hn, hi, hns, hna, -⟩ := snob_ns X
  refine zk ?_
  clear zk zG
  have hB : typeLookup (.type "Exception") "number" = pure none := by rw [typeLookup_type, builtinLookup_eq_fast]; kernel_rfl
  have hpass := F.store_Exception.passes (.ref e)
  have hm := F.store_Exception.mro
  have hxs : e ≠ h.objs.size := Nat.ne_of_lt (Heap.lt_size hx)
  unfold Builtin.«object.__setattr__»
  repeat (first | rw [refuse_eq] | (rw [refuseLoop_ref, hpass]) | (with_reducible refine wpAny_loadPart_at hx ?_; rw [hc]) | with_reducible refine wpAny_mroOf_exc hC ?_ | (with_reducible refine wpAny_typeLookup_exc hC hn hm hB ?_; rw [hna]) | wp_step)
  rw [hdn, if_neg (by simp [typeHasDict])]
  split
  · rename_i hcd
    cases hcd
  split
  · rename_i c hcd
    exact absurd hcd (hnc c)
  have hx₁ : (h.push { cls := .type "dict", data := .dict #[] }).get? e = some o := Heap.get?_push_of_some _ hx
  refine wpAny_bind (wpAny_alloc' ?_)
  refine wpAny_bind (wpAny_update' hx₁ ?_)
  refine wpAny_pure ?_
  have hgd : ((h.push { cls := .type "dict", data := .dict #[] }).update e fun o => { cls := o.cls, dict := some h.objs.size, data := o.data, slots := o.slots }).get? h.objs.size
      = some { cls := .type "dict", data := .dict #[] } :=
    (Heap.get?_update_ne _ _ _ _ hxs.symm).trans (Heap.get?_push_at rfl rfl)
  have hnd : ((h.push { cls := .type "dict", data := .dict #[] }).update e fun o => { cls := o.cls, dict := some h.objs.size, data := o.data, slots := o.slots }).Ns h.objs.size (fun _ => none) :=
    ⟨_, #[], _, hgd, rfl, fun e he => absurd he (by simp), fun _ => rfl⟩
  show wpAny _ _ (storeInDict h.objs.size (.str "number" tk) "number" v) _ _ _
  unfold storeInDict newKeyGuard
  refine wpAny_bind (wpAny_pure (wpAny_bind (wpAny_nsSet1 (Heap.Ns1.of_empty hnd) fun h' hn' hs => ?_)))
  refine cps fun zG zk => ?_
  obtain ⟨oD, esD, epD, hoD, hdD, hcD⟩ := hn'.count (Within.cons "number" v Within.nil)
  refine zk ?_
  clear zk zG
  refine wpAny_bind (wpAny_lookBehind hoD (by rw [hdD]; exact pastItsLine_dict (Nat.le_trans hcD (by rw [List.length_cons, List.length_nil, sizeLine_eq]; exact (by decide)))) ?_)
  refine cps fun zG zk => ?_
  obtain ⟨o', es, ep, e1, e2, e3, eu, e4⟩ := hn'
  refine zk ?_
  clear zk zG
  refine wpAny_pure (hq h' _ o' e1 (fun h₂ b hb => ⟨o', es, ep, hb, e2, e3, eu, e4⟩) ?_ fun b ob hb hob => ?_)
  · refine (hs.2 e hxs).trans (Heap.get?_update_self _ hx₁ ?_)
    have hfr := (Heap.get?_some_iff.mp hx).2
    refine cps fun zG zk => ?_
    obtain ⟨oc, od, odt, osl⟩ := o
    refine zk ?_
    clear zk zG
    cases odt <;> first | rfl | exact hfr
  · exact (hs.2 b (Nat.ne_of_lt (Heap.lt_size hob))).trans ((Heap.get?_update_ne _ _ _ _ hb).trans (Heap.get?_push_of_some _ hob))
theorem store_first_call {w : World} {A : Around} {h : Heap} {g : Array GenState} {d : Drawn} {t : Nat} {tk : Tok} {os : OsState} {e : Addr} {v : Value} {o : Obj} {sa owner : String} {R : Result → Shared → Prop}
    (SF : StoreFacts "Exception" bmE sa owner)
    (X : (kdef.heap_1 w.params).In h) (hx : h.get? e = some o) (hc : o.cls = .ref 34) (hdn : o.dict = none) (hnc : ∀ c, o.data ≠ .cls c)
    (hq : ∀ h' tk' od, h'.get? h.objs.size = some od → (∀ (h₂ : Heap) (b : Addr), h₂.get? b = some od → h₂.Ns1 b (fun y => if y = "number" then some v else none)) →
      h'.get? e = some { o with dict := some h.objs.size } → (∀ b ob, b ≠ e → h.get? b = some ob → h'.get? b = some ob) → R (.ok (.ret .none)) ⟨h', g, d, tk', os⟩) :
    codeAny (model PG w) A (.call (.builtin sa) ⟨[.ref e, .str "number" tk, v], []⟩) R ⟨h, g, d, t, os⟩ := by
  refine cps fun zG zk => ?_
  obtain ⟨nm, q, bs, hdct, sn, sub, ab, col, dd, k0, k1, k2, k3, k5, rfl, hC⟩ := snob_cls X
  refine zk ?_
  clear zk zG
  exact codeAny_call_builtin SF.slot.plain SF.entry (wpAny_check_sa SF hC hx hc (store_first_entry X hx hc hdn hnc hq))
theorem store_first_ {w : World} {A : Around} {E : Value → Shared → Prop} {h : Heap} {g : Array GenState} {d : Drawn} {t : Nat} {os : OsState} {e : Addr} {v : Value} {o : Obj} {sa owner : String} {Q : Unit → Shared → Prop}
    (SF : StoreFacts "Exception" bmE sa owner)
    (X : (kdef.heap_1 w.params).In h) (hx : h.get? e = some o) (hc : o.cls = .ref 34) (hdn : o.dict = none) (hnc : ∀ c, o.data ≠ .cls c)
    (hq : ∀ h' tk' od, h'.get? h.objs.size = some od → (∀ (h₂ : Heap) (b : Addr), h₂.get? b = some od → h₂.Ns1 b (fun y => if y = "number" then some v else none)) →
      h'.get? e = some { o with dict := some h.objs.size } → (∀ b ob, b ≠ e → h.get? b = some ob → h'.get? b = some ob) → Q () ⟨h', g, d, tk', os⟩) :
    wpAny (model PG w) A (setAttr (.ref e) "number" v) Q E ⟨h, g, d, t, os⟩ := by
  refine cps fun zG zk => ?_
  obtain ⟨nm, q, bs, hdct, sn, sub, ab, col, dd, k0, k1, k2, k3, k5, rfl, hC⟩ := snob_cls X
  obtain ⟨mN, hn, hi, hns, hna, -⟩ := snob_ns X
  refine zk ?_
  clear zk zG
  have f3 := SF.slot.bind (.ref e)
  unfold setAttr callSpecial? specialOf
  repeat (any_goals (first | with_reducible assumption | (with_reducible refine wpAny_loadPart_at hx ?_; rw [hc]) | (with_reducible refine wpAny_typeLookup_exc hC hn SF.mro SF.slot.lookup ?_; rw [hns]) | wp_step))
  refine store_first_call SF X hx hc hdn hnc fun h' tk' od e1 e2 e3 e4 => ?_
  repeat (any_goals (first | with_reducible assumption | wp_step))
  exact hq h' tk' od e1 e2 e3 e4
theorem store_first {w : World} {A : Around} {E : Value → Shared → Prop} {h : Heap} {g : Array GenState} {d : Drawn} {t : Nat} {os : OsState} {e : Addr} {v : Value} {o : Obj} {Q : Unit → Shared → Prop}
    (X : (kdef.heap_1 w.params).In h) (hx : h.get? e = some o) (hc : o.cls = .ref 34) (hdn : o.dict = none) (hnc : ∀ c, o.data ≠ .cls c)
    (hq : ∀ h' tk' od, h'.get? h.objs.size = some od → (∀ (h₂ : Heap) (b : Addr), h₂.get? b = some od → h₂.Ns1 b (fun y => if y = "number" then some v else none)) →
      h'.get? e = some { o with dict := some h.objs.size } → (∀ b ob, b ≠ e → h.get? b = some ob → h'.get? b = some ob) → Q () ⟨h', g, d, tk', os⟩) :
    wpAny (model PG w) A (setAttr (.ref e) "number" v) Q E ⟨h, g, d, t, os⟩ := store_first_ F.store_Exception X hx hc hdn hnc hq
theorem snob_look {n : Str} (h : (n == "number" || n == "told") = true) : typeLookup (.type "Exception") n = pure none := by
  simp only [Bool.or_eq_true, beq_iff_eq] at h
  rcases h with rfl | rfl <;> (rw [typeLookup_type, builtinLookup_eq_fast]; kernel_rfl)
theorem store_second {w : World} {A : Around} {E : Value → Shared → Prop} {h : Heap} {g : Array GenState} {d : Drawn} {t : Nat} {os : OsState} {e dx : Addr} {v : Value} {o : Obj} {mA : Str → Option Value} {Q : Unit → Shared → Prop}
    (X : (kdef.heap_1 w.params).In h) (hx : h.get? e = some o) (hc : o.cls = .ref 34) (hdn : o.dict = some dx) (hne : dx ≠ e) (hnc : ∀ c, o.data ≠ .cls c) (hw : Within mA ["number"]) (hA : h.Ns1 dx mA) (hxC : e ≠ 34)
    (hq : ∀ h' tk' od, h'.get? dx = some od → (∀ (h₂ : Heap) (b : Addr), h₂.get? b = some od → h₂.Ns1 b (fun y => if y = "told" then some v else mA y)) →
      h'.get? e = some o → (∀ b ob, b ≠ dx → h.get? b = some ob → h'.get? b = some ob) → Q () ⟨h', g, d, tk', os⟩) :
    wpAny (model PG w) A (setAttr (.ref e) "told" v) Q E ⟨h, g, d, t, os⟩ := by
  have SF := F.store_Exception
  refine cps fun zG zk => ?_
  obtain ⟨nm, q, bs, hdct, sn, sub, ab, col, dd, k0, k1, k2, k3, k5, rfl, hC⟩ := snob_cls X
  obtain ⟨mN, hn, hi, hns, -, hna⟩ := snob_ns X
  refine zk ?_
  clear zk zG
  refine store_attr SF hC hn hns hna (snob_look (by decide)) hxC ⟨o, hx, hc, hnc, .inr ⟨dx, hdn, hne, hA⟩⟩ (fun h' tk' I hk hsame => ?_) hw (by size_fits)
  refine cps fun zG zk => ?_
  obtain ⟨o₁, h1, h2, h3, h4, h5⟩ := hsame o hx
  refine zk ?_
  clear zk zG
  have h6 := h5 dx hdn
  have ho : o₁ = o := by
    refine cps fun zG zk => ?_
    obtain ⟨a1, a2, a3, a4⟩ := o₁
    obtain ⟨b1, b2, b3, b4⟩ := o
    refine zk ?_
    clear zk zG
    dsimp only at h2 h3 h4 h6 hdn
    rw [h2, h3, h4, h6, hdn]
  subst ho
  refine cps fun zG zk => ?_
  obtain ⟨o₂, i1, i2, i3, i4⟩ := I
  obtain rfl : o₁ = o₂ := Option.some.inj (h1.symm.trans i1)
  refine zk ?_
  clear zk zG
  rcases i4 with ⟨i5, -⟩ | ⟨d', i5, i6, o', es, ep, e1, e2, e3, eu, e4⟩
  · rw [hdn] at i5; cases i5
  · obtain rfl : dx = d' := Option.some.inj (hdn.symm.trans i5)
    refine hq h' tk' o' e1 (fun h₂ b hb => ⟨o', es, ep, hb, e2, e3, eu, e4⟩) h1 fun b ob hb hob => ?_
    by_cases z : b = e
    · subst z; rw [hx] at hob; rw [h1]; exact hob
    · exact hk b ob z (fun o₀ dx' q1 q2 => by rw [hx] at q1; cases q1; rw [hdn] at q2; cases q2; exact hb) hob
end
example : True := by w_top off; (try walk1); trivial
section
open PySem PySem.W PyProof.Rows PySem.Calls PySem.Spec
set_option Elab.async false
set_option maxRecDepth 100000
set_option maxHeartbeats 8000000
example : kdef.heap_1 = kdef.heap_1 ∧ PySem.Challenge.rw_xm0939_01 = PySem.Challenge.rw_xm0939_01 := by
  k_fill
  exact ⟨rfl, rfl⟩
noncomputable abbrev excR (dx t2 : Addr) : Obj := ⟨.ref 34, some dx, .fields #[.ref t2, .none, .none, .none, .bool false, .none], #[]⟩
noncomputable def excMap (n : Int) (tk : Tok) (told : Value) : Str → Option Value := fun y => if y = "told" then some told else if y = "number" then some (.int n tk) else none
def NsO (od : Obj) (mA : Str → Option Value) : Prop := ∃ es ep, od.data = .dict es ep ∧ StrKeys es ∧ UniqKeys es ∧ ∀ name, nsFind es name = mA name
theorem NsO.at {od : Obj} {mA : Str → Option Value} (x : NsO od mA) {h : Heap} {b : Addr} (e : h.get? b = some od) : h.Ns1 b mA := by
  refine cps fun zG zk => ?_
  obtain ⟨es, ep, h1, h2⟩ := x
  refine zk ?_
  clear zk zG
  exact ⟨od, es, ep, e, h1, h2⟩
theorem NsO.of {od : Obj} {mA : Str → Option Value} {h : Heap} {b : Addr} (e : h.get? b = some od) (x : h.Ns1 b mA) : NsO od mA := by
  refine cps fun zG zk => ?_
  obtain ⟨o, es, ep, h0, h1⟩ := x
  refine zk ?_
  clear zk zG
  rw [e] at h0; cases h0
  exact ⟨es, ep, h1⟩
theorem frBut {h₀ h h' : Heap} {L e : Addr} {m : Str → Option Value} (F : Fr h₀ L h m) (k : ∀ b o, b ≠ e → h.get? b = some o → h'.get? b = some o) (hL : e ≠ L) (hn : h₀.get? e = none) : Fr h₀ L h' m := by
  refine cps fun zG zk => ?_
  obtain ⟨oL, es, ep, hoL, r⟩ := F.ns
  refine zk ?_
  clear zk zG
  exact ⟨⟨oL, es, ep, k _ _ (Ne.symm hL) hoL, r⟩, fun b o z => k b o (fun q => by rw [q, hn] at z; cases z) (F.keep b o z), F.above⟩
theorem newsBut {h₀ h h' : Heap} {L e : Addr} {news : List (Addr × Obj)} (N : News h₀ L h news) (k : ∀ b o, b ≠ e → h.get? b = some o → h'.get? b = some o) (hap : ∀ p ∈ news, p.1 ≠ e) : News h₀ L h' news :=
  fun p hp => ⟨k _ _ (hap p hp) (N p hp).1, (N p hp).2⟩
theorem newsCons {h₀ h : Heap} {L e : Addr} {o : Obj} {news : List (Addr × Obj)} (N : News h₀ L h news) (ho : h.get? e = some o) (hL : e ≠ L) (hn : h₀.get? e = none) : News h₀ L h ((e, o) :: news) := fun p hp => by
  rcases List.mem_cons.mp hp with rfl | hp
  · exact ⟨ho, hL, hn⟩
  · exact N p hp
theorem callWith_P {M : Model} {A : Around} {E : Value → Shared → Prop} {s : Shared} {env : Env} {pos : Pos} {f : Value} {first : List Value} {Q : Value → Shared → Prop} {P : Heap → Prop} {e : Expr} {rest : List Expr}
    (hk : ∀ h, P h → ∃ k, (k = Keeper.frame ∨ k = Keeper.machine ∨ k = Keeper.boundFrame) ∧ Looks M h (keeperOf f) k)
    (h : wpAny M A (spliced (backTo pos (starEach (e :: rest) env))) (fun vs s₁ => P s₁.heap ∧ wpAny M A (call f (first ++ vs)) Q E s₁) E s)
    (he : starEach (e :: rest) env = (false, eval e env) :: starEach rest env := by rfl) (hplain : (backTo pos (starEach rest env)).any (·.1) = false := by rfl) :
    wpAny M A (callWith pos f first (backTo pos (starEach (e :: rest) env)) []) Q E s := by
  rw [he] at h ⊢
  exact callWith_of (by show ((false || (backTo pos (starEach rest env)).any (·.1)) || false) = false; rw [hplain]; rfl) hk (evalArgs_plain h)
theorem snob_init (w : World) {p : Program} {loose : List Str} {mean : ExcName → Option Value} {mg mb : Str → Option Value}
  (cn : Str) (cnm : List (Str × NameKind)) (cmo : List (Str × Const)) (a : Addr) (ccd : Value) (cl : List (Str × Addr)) (outer : List Env) (A₀ : Around) (base h₀ : Heap) (L : Addr) (m : Str → Option Value) (s : Shared) (e tt : Addr) (t4 : Tok) (news : List (Addr × Obj))
    (Q E : Value → Shared → Prop)
    (B : Below A₀ base outer h₀) (F : Fr h₀ L s.heap m) (X : (kdef.heap_1 w.params).In h₀) 
    (N : News h₀ L s.heap ((e, excO tt) :: news))
    (T : Top p loose mean mg mb h₀)  
    (hap : ∀ p ∈ news, p.1 ≠ e) (hC : e ≠ 34)
    (hret : ∀ h' tk' dx od t2, Fr h₀ L h' m → News h₀ L h' ((dx, od) :: (e, excR dx t2) :: news) → dx ≠ e → (∀ p ∈ news, p.1 < dx) → NsO od (excMap 99 t4 (.str "" 201)) → Q .none { s with heap := h', toks := tk' }) :
    wpAny (model PG w) (ktrTop 590 4900 (some []) cn { kind := .function, names := cnm, isGenerator := false, isCoroutine := false, more := cmo } L a ccd cl outer) (call (.ref 31) [.ref e, .int 99 t4]) Q E s := by
  w_on
  refine wpAny_call ?_
  refine' ks_code_super ?k1 ?k2 ?k3 ?k4 ?k5 ?kA ?kF ?kK ?k6 ?k7 ?k8 ?k9 ?kB ?_ ?c1 ?c2 ?c3 ?c4
  case kA => exact rfl
  case kF => exact rfl
  case kK => exact rfl
  case k1 => k_asm
  case k2 => k_asm
  case k3 => k_asm
  case k4 => k_asm
  case k5 => k_asm
  case k6 => k_is
  case k7 => k_is
  case k8 => k_room
  case k9 => first | exact binds_K (by k_in) rfl (by k_is) rfl rfl rfl | exact BindsTo.of_eq rfl
  case kB => exact locs rfl
  case c1 => decide
  case c2 => exact rfl
  case c3 => exact rfl
  case c4 => exact rfl
  intro g' L' h' FG' F' N' B' X' T' l1
  try k_lt l1
  try dsimp only
  try k_lift B'
  k_steps
  refine ks_node (C := 34) (ox := excO tt) (odx := none) (by k_asm) (by k_asm) (by k_asm) (by k_asm) (by k_is) (by rfl) (by rfl) ⟨(N' _ (.head _)).1, rfl, rfl, trivial⟩ (by k_is) (by rfl) (by first | rfl | decide +kernel) (by k_is) (by k_is) (by k_is) (by k_is) (by decide) (by rfl) (by rfl) (by rfl) (by rfl) (by decide +kernel) (by first | boot_by_name | rfl | kernel_rfl) ?_
  intro so' h' F' N' l1
  try k_lt l1
  k_steps
  refine exc_gm (tt := tt) ⟨rfl, rfl, rfl, Nat.le_of_ble_eq_true rfl, Nat.le_of_ble_eq_true rfl⟩ (by k_in) (N' _ (.head _)).1 (N' _ (.tail _ (.head _))).1 (looks_opaque (by k_in) (by k_is)) (fun A Q E s k q => wpAny_bind ((looks_clsIn (K := kdef.heap_1 w.params) (by k_in) (by k_is)) A _ E s k (wpAny_pure q))) hC ?_
  intro q h₂ e1 e2 e3
  have F₂ := F'.keeps e2
  have N₂ := News.more F₂ (fun p hp => ⟨e2 _ _ (N' p hp).1, (N' p hp).2⟩) e1 (fun es n q => by cases q) (fresh_of_stays F'.keep e3)
  clear F' N'
  dsimp only
  refine callWith_P (P := fun h => h.get? q = some { cls := Value.type "method-wrapper", dict := none, data := Data.fields #[Value.builtin "Exception.__init__", Value.ref e], slots := #[] }) (fun h e => ⟨.machine, .inr (.inl rfl), (Looks.ld (part := none) e).andThen .now⟩) ?_
  k_steps
  refine exc_mw (by k_in) (N₂ _ (.head _)).1 (N₂ _ (.tail _ (.tail _ (.head _)))).1 ?_
  intro h₃ t2 f1 f2 f3
  have hE := (N₂ _ (.tail _ (.tail _ (.head _)))).2
  have F₃ := frBut F₂ f2 hE.1 hE.2
  have N₃ := newsCons (newsBut (fun p hp => N₂ p (.tail _ (.tail _ (.tail _ hp)))) f2 hap) f1 hE.1 hE.2
  clear F₂ N₂ e1 e2 e3 f2
  k_steps
  refine store_first (by k_in) (N₃ _ (.head _)).1 rfl rfl (fun c z => by cases z) ?_
  intro h₄ tk₄ od₁ d1 d2 d3 d4
  have hne : h₃.objs.size ≠ e := Nat.ne_of_gt (Heap.lt_size (N₃ _ (.head _)).1)
  have hfr : g'.get? h₃.objs.size = none := Heap.StaysIn.fresh (base := g') F₃.keep
  have hLs : h₃.objs.size ≠ L' := Nat.ne_of_gt F₃.ns.lt
  have hlt : ∀ p ∈ news, p.1 < h₃.objs.size := fun p hp => Heap.lt_size (N₃ p (.tail _ hp)).1
  have F₄ := frBut F₃ d4 hE.1 hE.2
  have N₄ := newsCons (newsCons (newsBut (fun p hp => N₃ p (.tail _ hp)) d4 hap) d3 hE.1 hE.2) d1 hLs hfr
  generalize h₃.objs.size = dx at *
  clear F₃ N₃ d4
  k_steps
  refine store_second (mA := fun y => if y = "number" then some (.int 99 t4) else none) (by k_in) (N₄ _ (.tail _ (.head _))).1 rfl rfl hne (fun c z => by cases z) (by within_ways) (d2 _ _ (N₄ _ (.head _)).1) hC ?_
  intro h₅ tk₅ od₂ g1 g2 g3 g4
  have F₅ := frBut F₄ g4 hLs hfr
  have N₅ := newsCons (newsBut (fun p hp => N₄ p (.tail _ hp)) g4 (fun p hp => by
    rcases List.mem_cons.mp hp with rfl | hp
    · exact Ne.symm hne
    · exact Nat.ne_of_lt (hlt p hp))) g1 hLs hfr
  clear F₄ N₄ g4
  k_steps
  exact hret _ _ dx od₂ t2 (by assumption) (by assumption) hne hlt (NsO.of g1 (g2 _ _ g1))
theorem snob_call (w : World) {p : Program} {loose : List Str} {mean : ExcName → Option Value} {mg mb : Str → Option Value}
  (cn : Str) (cnm : List (Str × NameKind)) (cmo : List (Str × Const)) (a : Addr) (ccd : Value) (cl : List (Str × Addr)) (outer : List Env) (A₀ : Around) (base h₀ : Heap) (L : Addr) (m : Str → Option Value) (s : Shared) (t4 : Tok) (news : List (Addr × Obj))
    (Q E : Value → Shared → Prop)
    (B : Below A₀ base outer h₀) (F : Fr h₀ L s.heap m) (X : (kdef.heap_1 w.params).In h₀) 
    (N : News h₀ L s.heap news)
    (T : Top p loose mean mg mb h₀)
    (hret : ∀ h' tk' e dx od t2, Fr h₀ L h' m → News h₀ L h' ((dx, od) :: (e, excR dx t2) :: news) → dx ≠ e → (∀ p ∈ news, p.1 < dx) → (∀ p ∈ news, p.1 ≠ e) → NsO od (excMap 99 t4 (.str "" 201)) → Q (.ref e) { s with heap := h', toks := tk' }) :
    wpAny (model PG w) (ktrTop 580 4800 (some []) cn { kind := .function, names := cnm, isGenerator := false, isCoroutine := false, more := cmo } L a ccd cl outer) (call (.ref 34) [.int 99 t4]) Q E s := by
  w_on
  have X₀ : (kdef.heap_1 w.params).In s.heap := X.keeps F.keep
  refine cps fun zG zk => ?_
  obtain ⟨nm, q, bs, hdct, sn, sub, ab, col, dd, k0, k1, k2, k3, k5, -, hC⟩ := snob_cls X₀
  obtain ⟨mN, hn, hi, -⟩ := snob_ns X₀
  have hf : ∃ oI, (kdef.heap_1 w.params).lookup 31 = some oI ∧ oI.cls = .type "function" := ⟨_, by k_is, rfl⟩
  obtain ⟨oI, hfI, hfc⟩ := hf
  obtain ⟨hh, g, d, t, os⟩ := s
  refine zk ?_
  clear zk zG
  refine wpAny_call_exc_init PySem.F.excBase_Exception hC hn hi (X₀ _ _ hfI) hfc (fun h' e hm => ?_) (by size_fits)
  refine cps fun zG zk => ?_
  obtain ⟨tt, he, htn, ht⟩ := hm.there
  refine zk ?_
  clear zk zG
  have hC34 : e ≠ 34 := fun z => by have := hm.new; rw [z, hC] at this; cases this
  have hap : ∀ p ∈ news, p.1 ≠ e := fun p hp z => by have := hm.new; rw [← z, (N p hp).1] at this; cases this
  have F' := F.keeps hm.keeps
  have hL : e ≠ L := fun z => by
    refine cps fun zG zk => ?_
    obtain ⟨oL, es, ep, hoL, -⟩ := F.ns
    refine zk ?_
    clear zk zG
    have := hm.new; rw [z, hoL] at this; cases this
  have N' : News h₀ L h' ((e, excO tt) :: news) := newsCons (fun p hp => ⟨hm.keeps _ _ (N p hp).1, (N p hp).2⟩) he hL (fresh_of_stays F.keep hm.new)
  refine wp_le (d := 590) (u := 4900) ?_ ?_ ?_
  · exact snob_init w cn cnm cmo a ccd cl outer A₀ base h₀ L m ⟨h', g, d, t, os⟩ e tt t4 news _ _ B F' X N' T hap hC34 fun h₂ tk' dx od t2 F₂ N₂ hne hlt hod => ⟨rfl, hret _ _ e dx od t2 F₂ N₂ hne hlt hap hod⟩
  · exact Nat.le_of_ble_eq_true rfl
  · exact Nat.le_of_ble_eq_true rfl
end
section
open PySem PySem.W PyProof.Rows PySem.Calls PySem.Spec
set_option Elab.async false
set_option maxRecDepth 100000
set_option maxHeartbeats 8000000
example : kdef.heap_1 = kdef.heap_1 ∧ PySem.Challenge.rw_xm0939_01 = PySem.Challenge.rw_xm0939_01 := by
  k_fill
  exact ⟨rfl, rfl⟩

section
variable {w : World} {A : Around} {E : Value → Shared → Prop} {s : Shared} {env : Env}
theorem raise_stmt {x : Sem Value} {Q : Flow → Shared → Prop} (hh : A.handled = none)
    (h : wpAny (model PG w) A x (fun v s₁ => ∃ e dx t2, v = .ref e ∧ (kdef.heap_1 w.params).In s₁.heap ∧ s₁.heap.get? e = some (excR dx t2) ∧ E (.ref e) s₁) E s) :
    wpAny (model PG w) A (raiseStmt env (some x) none) Q E s := by
  unfold raiseStmt
  refine wpAny_bind (wpAny_mono h (fun v s₁ h₁ => ?_) fun _ _ x => x)
  refine cps fun zG zk => ?_
  obtain ⟨e, dx, t2, rfl, X, he, hE⟩ := h₁
  obtain ⟨hp, g, d, tk, os⟩ := s₁
  obtain ⟨nm, q, bs, hdct, sn, sub, ab, col, dd, k0, k1, k2, k3, k5, -, hC⟩ := snob_cls X
  refine zk ?_
  clear zk zG
  have hcB : (Value.ref 34 :: bmE).contains (.type "BaseException") = true := by decide
  clear X
  repeat (first | with_reducible refine wpAny_loadPart_at he ?_ | with_reducible refine wpAny_loadPart_at hC ?_ | (with_reducible refine wpAny_isSubtype_exc hC ?_; rw [hcB]) | wp_step)
  exact wpAny_raiseNew_none hh hE
theorem raise_exec {x : Expr} {pos : Pos} {Q : Flow → Shared → Prop} (hh : A.handled = none)
    (h : wpAny (model PG w) A (eval x env) (fun v s₁ => ∃ e dx t2, v = .ref e ∧ (kdef.heap_1 w.params).In s₁.heap ∧ s₁.heap.get? e = some (excR dx t2) ∧ E (.ref e) s₁) E s) :
    wpAny (model PG w) A (exec (.Raise (some x) none pos) env) Q E s := by
  rw [arm_exec_Raise]
  refine wpAny_bind (wpAny_standAt (raise_stmt hh ?_))
  exact wpAny_bind (wpAny_mono h (fun v s₁ h₁ => wpAny_bind (wpAny_standAt (wpAny_pure h₁))) fun _ _ x => x)
end

/-- the exception's object with its last traceback entry, whose flight mark is fl -/
def Tr (h G : Heap) (e dx : Addr) (fl : Value) : Prop :=
  ∃ vs T oT ts, h.get? e = some ⟨.ref 34, some dx, .fields vs, #[]⟩ ∧ vs[1]? = some (.ref T) ∧ G.get? T = none ∧ T ≠ e ∧ h.get? T = some oT ∧ oT.data = .fields ts ∧ ts[3]? = some fl ∧ vs[2]? = some .none
def Fly (G : Heap) (l : List Env) (e dx : Addr) (fl : Value) (h : Heap) : Prop :=
  G.StaysIn h ∧ G.get? e = none ∧ h.FunFrames G l ∧ Tr h G e dx fl
section
variable {M : Model} {A : Around} {E : Value → Shared → Prop} {s : Shared} {G : Heap} {env : Env} {outer l : List Env} {L e dx : Addr} {fl : Value} {Q : Unit → Shared → Prop}
theorem fly_entry {vs : Array Value} {head : Value} {hadNext : Bool} (hfr : A.frames = some (env :: outer)) (hl : s.heap.FunFrames G (env :: outer)) (hf : env.frame = some L)
    (he : s.heap.get? e = some ⟨.ref 34, some dx, .fields vs, #[]⟩) (hsz : 1 < vs.size) (h2n : vs[2]? = some .none) (hk : G.StaysIn s.heap) (hen : G.get? e = none)
    (hQ : ∀ h', Fly G (env :: outer) e dx (rawInt L) h' → s.heap.UpToSlots h' → Q () { s with heap := h' }) :
    wpAny M A (do let a ← frameOf env; let pl ← entryPlaceOf L hadNext; let b ← EntryCells.newEntry head a .none (rawInt L) .none pl; setField (.ref e) 1 b) Q E s := by
  have hnf : e ∉ (env :: outer).filterMap (·.frame) := fun hm => by
    refine cps fun zG zk => ?_
    obtain ⟨_, o, ho, hno⟩ := hl.mem hm
    refine zk ?_
    clear zk zG
    rw [he] at ho; cases ho
    exact hno _ rfl
  refine wpAny_bind (wpAny_frameOf_fun hfr hl hf fun h₁ S => wpAny_bind (wpAny_entryPlaceOf fun pl hpl => ?_))
  unfold EntryCells.newEntry newFields
  refine wpAny_bind (wpAny_newObj_type ?_ (hpl.sizeOk5 _ _ _ _ _))
  generalize hob : ({ cls := .type "traceback", dict := none, data := .fields ([head, .ref L, .none, rawInt L, .none] ++ (if pl.isEmpty then List.replicate 6 Value.none else pl)).toArray } : Obj) = ob
  have he₁ := (S.2.1 e hnf).trans he
  have hTe : h₁.objs.size ≠ e := Nat.ne_of_gt (Heap.lt_size he₁)
  have he₂ := Heap.get?_push_of_some ob he₁
  refine wpAny_setField he₂ rfl hsz ?_
  have he₃ := Heap.get?_update_self (Obj.mapFields (·.setIfInBounds 1 (Value.ref h₁.objs.size))) he₂ (Obj.isFreed_of_fields (Obj.data_mapFields rfl _))
  have st : ∀ b o, b ≠ e → h₁.get? b = some o → ((h₁.push ob).update e (Obj.mapFields (·.setIfInBounds 1 (Value.ref h₁.objs.size)))).get? b = some o := fun b o hb ho =>
    (Heap.get?_update_other _ _ (Ne.symm hb)).trans (Heap.get?_push_of_some _ ho)
  have hk₁ : G.StaysIn h₁ := fun b o ho => (S.2.1 b fun hm => by rw [(hl.mem hm).1] at ho; cases ho).trans (hk b o ho)
  have hne : ∀ b o, s.heap.get? b = some o → (∀ vs, o.data ≠ .fields vs) → b ≠ e := fun b o ho hn q => by
    rw [q, he] at ho; cases ho; exact hn _ rfl
  have hU : s.heap.UpToSlots ((h₁.push ob).update e (Obj.mapFields (·.setIfInBounds 1 (Value.ref h₁.objs.size)))) := fun b o ho hn => by
    refine cps fun zG zk => ?_
    obtain ⟨sl, h2⟩ := S.2.2 b o ho
    refine zk ?_
    clear zk zG
    exact ⟨sl, st b _ (hne b o ho hn) h2⟩
  have hT : ((h₁.push ob).update e (Obj.mapFields (·.setIfInBounds 1 (Value.ref h₁.objs.size)))).get? h₁.objs.size = some ob := by
    rw [Heap.get?_update_other _ _ (Ne.symm hTe)]
    subst hob
    exact Heap.get?_push_size h₁ rfl
  refine hQ _ ⟨fun b o ho => st b o (fun q => by rw [q, hen] at ho; cases ho) (hk₁ b o ho), hen, hl.of_keeps fun b o ho hn => ?_, _, _, _, _, he₃, ?_, hk₁.fresh, hTe, hT, by subst hob; rfl, ?_, by simpa [Array.getElem?_setIfInBounds] using h2n⟩ hU
  · refine cps fun zG zk => ?_
    obtain ⟨sl, h2⟩ := hU b o ho hn
    refine zk ?_
    clear zk zG
    exact ⟨_, h2, rfl⟩
  · simp [hsz]
  · first | (simp; done) | (rcases hpl with rfl | ⟨_, _, _, _, _, _, _, rfl⟩ <;> simp)
/-- the frame notes itself on a fresh exception -/
theorem note_first {t2 : Addr} (hfr : A.frames = some (env :: outer)) (hl : s.heap.FunFrames G (env :: outer)) (hf : env.frame = some L) (he : s.heap.get? e = some (excR dx t2)) (hk : G.StaysIn s.heap) (hen : G.get? e = none)
    (hQ : ∀ h', Fly G (env :: outer) e dx (rawInt L) h' → s.heap.UpToSlots h' → Q () { s with heap := h' }) : wpAny M A (noteFrame (.ref e) env) Q E s := by
  unfold noteFrame
  simp only [hf]
  refine wpAny_bind (wpAny_field he rfl (x := .none) rfl ?_)
  rw [if_neg (by decide)]
  exact fly_entry hfr hl hf he (by show 1 < 6; decide) rfl hk hen hQ
theorem upd_T {T : Addr} {oT : Obj} {ts : Array Value} {x : Value} (hT : s.heap.get? T = some oT) (hd : oT.data = .fields ts) :
    (∀ b, b ≠ T → (s.heap.update T (Obj.mapFields (·.setIfInBounds 3 x))).get? b = s.heap.get? b) ∧ s.heap.UpToSlots (s.heap.update T (Obj.mapFields (·.setIfInBounds 3 x))) := by
  have o1 : ∀ b, b ≠ T → (s.heap.update T (Obj.mapFields (·.setIfInBounds 3 x))).get? b = s.heap.get? b := fun b hb => Heap.get?_update_other _ _ (Ne.symm hb)
  refine ⟨o1, fun b o ho hn => ⟨o.slots, (o1 b fun q => ?_).trans ho⟩⟩
  rw [q, hT] at ho; cases ho; exact hn ts hd
theorem note_next (hfr : A.frames = some (env :: outer)) (hf : env.frame = some L) (x : Fly G (env :: outer) e dx .none s.heap)
    (hQ : ∀ h', Fly G (env :: outer) e dx (rawInt L) h' → s.heap.UpToSlots h' → Q () { s with heap := h' }) : wpAny M A (noteFrame (.ref e) env) Q E s := by
  refine cps fun zG zk => ?_
  obtain ⟨hk, hen, hl, vs, T, oT, ts, he, h1, hGT, hTe, hT, hd, h3, h4⟩ := x
  refine zk ?_
  clear zk zG
  unfold noteFrame
  simp only [hf]
  refine wpAny_bind (wpAny_field he rfl h1 ?_)
  rw [if_pos (show (Value.ref T != Value.none) = true from by simp)]
  refine wpAny_bind (wpAny_field hT hd h3 ?_)
  rw [if_neg (show ¬ ((Value.none == rawInt L) = true) from by simp [rawInt])]
  refine wpAny_bind (wpAny_setField hT hd (Array.getElem?_eq_some_iff.mp h3).1 ?_)
  refine cps fun zG zk => ?_
  obtain ⟨o1, U⟩ := upd_T (x := Value.none) hT hd
  refine zk ?_
  clear zk zG
  refine fly_entry hfr (hl.of_keeps fun b o ho hn => ?_) hf ((o1 e (Ne.symm hTe)).trans he) (Array.getElem?_eq_some_iff.mp h1).1 h4 (fun b o ho => (o1 b fun q => by rw [q, hGT] at ho; cases ho).trans (hk b o ho)) hen fun h' F' U' => hQ h' F' (U.trans U')
  refine cps fun zG zk => ?_
  obtain ⟨sl, h2⟩ := U b o ho hn
  refine zk ?_
  clear zk zG
  exact ⟨_, h2, rfl⟩
theorem land (x : Fly G l e dx fl s.heap) (hQ : ∀ h', Fly G l e dx .none h' → s.heap.UpToSlots h' → Q () { s with heap := h' }) : wpAny M A (setFlight (.ref e) none) Q E s := by
  refine cps fun zG zk => ?_
  obtain ⟨hk, hen, hl, vs, T, oT, ts, he, h1, hGT, hTe, hT, hd, h3, h4⟩ := x
  refine zk ?_
  clear zk zG
  have hs3 := (Array.getElem?_eq_some_iff.mp h3).1
  unfold setFlight
  refine wpAny_bind (wpAny_field he rfl h1 ?_)
  rw [if_pos (show (Value.ref T != Value.none) = true from by simp)]
  refine cps fun zG zk => ?_
  obtain ⟨o1, U⟩ := upd_T (x := ((none : Option Addr).elim Value.none fun f => rawInt f)) hT hd
  refine zk ?_
  clear zk zG
  refine wpAny_setField hT hd hs3 (hQ _ ⟨fun b o ho => (o1 b fun q => by rw [q, hGT] at ho; cases ho).trans (hk b o ho), hen, hl.of_keeps fun b o ho hn => ?_, vs, T, _, _, (o1 e (Ne.symm hTe)).trans he, h1, hGT, hTe, Heap.get?_update_self _ hT (Obj.isFreed_of_fields (Obj.data_mapFields hd _)), Obj.data_mapFields hd _, by simp [hs3], h4⟩ U)
  refine cps fun zG zk => ?_
  obtain ⟨sl, h2⟩ := U b o ho hn
  refine zk ?_
  clear zk zG
  exact ⟨_, h2, rfl⟩
theorem Fly.drop (x : Fly G (env :: outer) e dx fl s.heap) : Fly G outer e dx fl s.heap := ⟨x.1, x.2.1, x.2.2.1.2.2, x.2.2.2⟩
theorem leaves_first {t2 : Addr} (hfr : A.frames = some (env :: outer)) (hl : s.heap.FunFrames G (env :: outer)) (hf : env.frame = some L) (he : s.heap.get? e = some (excR dx t2)) (hk : G.StaysIn s.heap) (hen : G.get? e = none)
    (hQ : ∀ h', Fly G outer e dx .none h' → s.heap.UpToSlots h' → Q () { s with heap := h' }) : wpAny M A (leaving env (.ref e)) Q E s := by
  unfold leaving
  exact wpAny_bind (note_first hfr hl hf he hk hen fun h' x U => land (s := { s with heap := h' }) x fun h₂ x₂ U₂ => hQ h₂ (Fly.drop (s := { s with heap := h₂ }) x₂) (U.trans U₂))
theorem leaves_next (hfr : A.frames = some (env :: outer)) (hf : env.frame = some L) (x : Fly G (env :: outer) e dx .none s.heap)
    (hQ : ∀ h', Fly G outer e dx .none h' → s.heap.UpToSlots h' → Q () { s with heap := h' }) : wpAny M A (leaving env (.ref e)) Q E s := by
  unfold leaving
  exact wpAny_bind (note_next hfr hf x fun h' x U => land (s := { s with heap := h' }) x fun h₂ x₂ U₂ => hQ h₂ (Fly.drop (s := { s with heap := h₂ }) x₂) (U.trans U₂))
end
end
section
open PySem PySem.W PyProof.Rows PySem.Calls PySem.Spec
set_option Elab.async false
set_option maxRecDepth 100000
set_option maxHeartbeats 8000000
example : kdef.heap_1 = kdef.heap_1 ∧ PySem.Challenge.rw_xm0939_01 = PySem.Challenge.rw_xm0939_01 := by
  k_fill
  exact ⟨rfl, rfl⟩

/-- the exception e (its dict at dx) on its way: it has left all frames but l; led stands, and what was in G and is no frame -/
def Thrown (base G : Heap) (l : List Env) (e dx : Addr) (led : List (Addr × Obj)) (h : Heap) : Prop :=
  ∃ B, base.StaysIn B ∧ (∀ b o, G.get? b = some o → b ∉ l.filterMap (·.frame) → B.get? b = some o) ∧ (∀ q ∈ led, B.get? q.1 = some q.2 ∧ G.get? q.1 = none) ∧ Fly B l e dx .none h
theorem frames_mem {env : Env} {outer : List Env} {L b : Addr} (hf : env.frame = some L) (hm : b ∈ (env :: outer).filterMap (·.frame)) : b = L ∨ b ∈ outer.filterMap (·.frame) := by
  obtain ⟨env', he, hf'⟩ := List.mem_filterMap.mp hm
  rcases List.mem_cons.mp he with rfl | he
  · exact .inl (Option.some.inj (hf'.symm.trans hf))
  · exact .inr (List.mem_filterMap.mpr ⟨env', he, hf'⟩)
section
variable {M : Model} {A : Around} {E : Value → Shared → Prop} {s' : Shared} {base g g₂ : Heap} {env : Env} {outer : List Env} {L e dx : Addr} {m : Str → Option Value} {Q : Unit → Shared → Prop} {led : List (Addr × Obj)}
theorem throw_first {t2 : Addr} (K : Below A base outer g) (F : Fr g L s'.heap m) (hf : env.frame = some L) (hke : env.scope.kind = .function) (he : s'.heap.get? e = some (excR dx t2)) (hge : g.get? e = none)
    (N : News g L s'.heap led) (hap : ∀ p ∈ led, p.1 ≠ e)
    (hQ : ∀ h', Thrown base g outer e dx led h' → g.UpToSlots h' → Q () { s' with heap := h' }) : wpAny M (A.deeper env) (leaving env (.ref e)) Q E s' := by
  have K' := pushX K F hf hke
  have nob : base.get? e = none := fresh_of_stays K.stays hge
  have hB : base.StaysIn (hideAll s'.heap (e :: (env :: outer).filterMap (·.frame))) := fun b o q => hideAll_get _ (K'.stays b o q) fun hm => by
    rcases List.mem_cons.mp hm with rfl | hm
    · rw [nob] at q; cases q
    · rw [(K'.frames.mem hm).1] at q; cases q
  have hG : ∀ b o, g.get? b = some o → b ∉ outer.filterMap (·.frame) → (hideAll s'.heap (e :: (env :: outer).filterMap (·.frame))).get? b = some o := fun b o q nm => hideAll_get _ (F.keep b o q) fun hm => by
    rcases List.mem_cons.mp hm with rfl | hm
    · rw [hge] at q; cases q
    · rcases frames_mem hf hm with rfl | hm
      · rw [kts_self F] at q; cases q
      · exact nm hm
  have hl : ∀ q ∈ led, (hideAll s'.heap (e :: (env :: outer).filterMap (·.frame))).get? q.1 = some q.2 ∧ g.get? q.1 = none := fun q hq => by
    refine ⟨hideAll_get _ (N q hq).1 fun hm => ?_, (N q hq).2.2⟩
    rcases List.mem_cons.mp hm with h | hm
    · exact hap q hq h
    · rcases frames_mem hf hm with h | hm
      · exact (N q hq).2.1 h
      · obtain ⟨o, ho, _⟩ := (K.frames.mem hm).2
        rw [(N q hq).2.2] at ho; cases ho
  have hF : s'.heap.FunFrames (hideAll s'.heap (e :: (env :: outer).filterMap (·.frame))) (env :: outer) :=
    funFrames_hide K'.frames fun env' he' b hb => List.mem_cons_of_mem _ (List.mem_filterMap.mpr ⟨env', he', hb⟩)
  exact leaves_first (Around.frames_deeper K.stack) hF hf he (fun b o q => of_hideAll _ q) (hideAll_none _ (.head _)) fun h' x U =>
    hQ h' ⟨_, hB, hG, hl, x⟩ ((Heap.UpToSlots.of_keeps F.keep).trans U)
theorem throw_next (K : Below A base outer g) (F : Fr g L g₂ m) (hf : env.frame = some L) (R : Thrown base g₂ (env :: outer) e dx led s'.heap) (hsm : g₂.UpToSlots s'.heap)
    (hQ : ∀ h', Thrown base g outer e dx led h' → g.UpToSlots h' → Q () { s' with heap := h' }) : wpAny M (A.deeper env) (leaving env (.ref e)) Q E s' := by
  obtain ⟨B, hB, hBG, hl, hfl⟩ := R
  exact leaves_next (Around.frames_deeper K.stack) hf hfl fun h' x U =>
    hQ h' ⟨B, hB, fun b o q nm => hBG b o (F.keep b o q) (fun hm => by
      rcases frames_mem hf hm with rfl | hm
      · rw [kts_self F] at q; cases q
      · exact nm hm), fun q hq => ⟨(hl q hq).1, kts_none F.keep (hl q hq).2⟩, x⟩ ((Heap.UpToSlots.of_keeps F.keep).trans (hsm.trans U))
theorem Thrown.sub {l : List Env} {h : Heap} {led' : List (Addr × Obj)} (R : Thrown base g l e dx led h) (hs : ∀ p ∈ led', p ∈ led) : Thrown base g l e dx led' h := by
  obtain ⟨B, h1, h2, h3, h4⟩ := R
  exact ⟨B, h1, h2, fun q hq => h3 q (hs q hq), h4⟩
end
end
section
open PySem PySem.W PyProof.Rows PySem.Calls PySem.Spec
set_option Elab.async false
set_option maxRecDepth 100000
set_option maxHeartbeats 8000000
example : kdef.heap_1 = kdef.heap_1 ∧ PySem.Challenge.rw_xm0939_01 = PySem.Challenge.rw_xm0939_01 := by
  k_fill
  exact ⟨rfl, rfl⟩

noncomputable abbrev tup (l : List Value) : Obj := { cls := .type "tuple", data := .seq l.toArray 0 }
noncomputable abbrev hooksO (hd : Addr) : Obj := instObj 243 hd
noncomputable abbrev hooksD (P : Params) (t3 t4 t5 : Tok) (rp lb nt : Addr) : Obj := dictOf [⟨PyData.keyHash P (Str.ofString "replies"), .str (Str.ofString "replies") t3, .ref rp⟩, ⟨PyData.keyHash P (Str.ofString "labels"), .str (Str.ofString "labels") t4, .ref lb⟩, ⟨PyData.keyHash P (Str.ofString "notes"), .str (Str.ofString "notes") t5, .ref nt⟩] 3
/-- the surroundings of a call -/
noncomputable abbrev CT (dp un : Nat) (cn : Str) (cnm : List (Str × NameKind)) (cmo : List (Str × Const)) (L a : Addr) (ccd : Value) (cl : List (Str × Addr)) (outer : List Env) : Around :=
  ktrTop dp un (some []) cn { kind := .function, names := cnm, isGenerator := false, isCoroutine := false, more := cmo } L a ccd cl outer
noncomputable abbrev CE (cn : Str) (cnm : List (Str × NameKind)) (cmo : List (Str × Const)) (L a : Addr) (ccd : Value) (cl : List (Str × Addr)) : Env :=
  envX cn { kind := .function, names := cnm, isGenerator := false, isCoroutine := false, more := cmo } L a ccd cl
noncomputable abbrev intV (p : Int × Tok) : Value := .int p.1 p.2
noncomputable abbrev strV (p : Str × Tok) : Value := .str p.1 p.2
/-- what the closure `replied` does -/
structure RepOk (w : World) (p : Program) (loose : List Str) (mean : ExcName → Option Value) (mg mb : Str → Option Value) (rp ak lf : Addr) (t : List (Addr × Obj)) : Prop where
  run : ∀ (cn : Str) (cnm : List (Str × NameKind)) (cmo : List (Str × Const)) (a : Addr) (ccd : Value) (cl : List (Str × Addr)) (outer : List Env) (A₀ : Around) (base h₀ : Heap) (L : Addr) (m : Str → Option Value) (s : Shared)
    (asked : List (Str × Tok)) (left : List (Int × Tok)) (na nl : Nat) (word x : Str) (t1 t2 : Tok) (pa : Addr) (v1 v2 : Value) (npa : Nat) (own : List (Addr × Obj)) (Q E : Value → Shared → Prop),
    Below A₀ base outer h₀ → Fr h₀ L s.heap m → (kdef.heap_1 w.params).In h₀ → Top p loose mean mg mb h₀ →
    News h₀ L s.heap ((pa, W.listOf #[.str x t2, v1, v2] npa) :: (ak, W.listOf (asked.map strV).toArray na) :: (lf, W.listOf (left.map intV).toArray nl) :: own) →
    (∀ p ∈ t, p ∈ own) → (∀ p ∈ own, p.1 ≠ ak) → (∀ p ∈ own, p.1 ≠ lf) → ak ≠ lf → pa ≠ ak → pa ≠ lf → asked.length ≤ 1000 → left.length ≤ 1000 → (word ++ x).length ≤ 1000 →
    (∀ b r, left = b :: r → ∀ h' tk' tk₁ tk₂ na' nl', Fr h₀ L h' m → News h₀ L h' ((pa, W.listOf #[.str x t2, v1, v2] npa) :: (ak, W.listOf ((asked ++ [(word ++ x, tk₁)]).map strV).toArray na') :: (lf, W.listOf (r.map intV).toArray nl') :: own) →
      Q (if b.1 = 1 then .str "" tk₂ else .none) { s with heap := h', toks := tk' }) →
    (left = [] → ∀ g' h' tk' tk₁ na' e dx od tk₂ tv, Fr h₀ L g' m → Thrown base g' (CE cn cnm cmo L a ccd cl :: outer) e dx ((dx, od) :: (ak, W.listOf ((asked ++ [(word ++ x, tk₁)]).map strV).toArray na') :: (lf, W.listOf #[] nl) :: own) h' → g'.UpToSlots h' → NsO od (excMap 99 tk₂ tv) →
      E (.ref e) { s with heap := h', toks := tk' }) →
    wpAny (model PG w) (CT 570 4700 cn cnm cmo L a ccd cl outer) (call (.ref rp) [.str word t1, .ref pa]) Q E s
theorem updF_mem {P : Addr} {o : Obj} {news : List (Addr × Obj)} {g : Obj → List (Addr × Obj)} (U : UpdF P o news g) : (P, o) ∈ news ∧ ∀ o' p, p ∈ g o' → p = (P, o') ∨ (p ∈ news ∧ p.1 ≠ P) := by
  obtain ⟨own, rest, rfl, hg, h1, h2⟩ := U.split
  refine ⟨List.mem_append_right _ (.head _), fun o' p hp => ?_⟩
  rw [hg] at hp
  rcases List.mem_append.mp hp with hp | hp
  · exact .inr ⟨List.mem_append_left _ hp, h1 p hp⟩
  · rcases List.mem_cons.mp hp with hp | hp
    · exact .inl hp
    · exact .inr ⟨List.mem_append_right _ (.tail _ hp), h2 p hp⟩
theorem RepOk.use {w : World} {p : Program} {loose : List Str} {mean : ExcName → Option Value} {mg mb : Str → Option Value} {rp ak lf : Addr} {t : List (Addr × Obj)} (R : RepOk w p loose mean mg mb rp ak lf t)
    {cn : Str} {cnm : List (Str × NameKind)} {cmo : List (Str × Const)} {a : Addr} {ccd : Value} {cl : List (Str × Addr)} {outer : List Env} {A₀ : Around} {base h₀ : Heap} {L : Addr} {m : Str → Option Value} {s : Shared}
    {asked : List (Str × Tok)} {left : List (Int × Tok)} {na nl : Nat} {word x : Str} {t1 t2 : Tok} {pa : Addr} {v1 v2 : Value} {npa : Nat} {news : List (Addr × Obj)} {g₁ : Obj → List (Addr × Obj)} {g₂ : Obj → Obj → List (Addr × Obj)} {Q E : Value → Shared → Prop}
    (B : Below A₀ base outer h₀) (F : Fr h₀ L s.heap m) (X : (kdef.heap_1 w.params).In h₀) (T : Top p loose mean mg mb h₀)
    (N : News h₀ L s.heap news) (hpa : (pa, W.listOf #[.str x t2, v1, v2] npa) ∈ news) (hsub : ∀ q ∈ t, q ∈ news) (hta : ∀ q ∈ t, q.1 ≠ ak) (htl : ∀ q ∈ t, q.1 ≠ lf) (hne : ak ≠ lf) (hpk : pa ≠ ak) (hpl : pa ≠ lf) (hal : asked.length ≤ 1000) (hll : left.length ≤ 1000) (hwx : (word ++ x).length ≤ 1000)
    (U₁ : UpdF ak (W.listOf (asked.map strV).toArray na) news g₁) (U₂ : ∀ o, UpdF lf (W.listOf (left.map intV).toArray nl) (g₁ o) (g₂ o))
    (h1 : ∀ b r h' tk' tk₁ tk₂ na' nl', left = b :: r → b.1 = 1 → Fr h₀ L h' m → News h₀ L h' (g₂ (W.listOf ((asked ++ [(word ++ x, tk₁)]).map strV).toArray na') (W.listOf (r.map intV).toArray nl')) → Q (.str "" tk₂) { s with heap := h', toks := tk' })
    (h2 : ∀ b r h' tk' tk₁ na' nl', left = b :: r → b.1 ≠ 1 → Fr h₀ L h' m → News h₀ L h' (g₂ (W.listOf ((asked ++ [(word ++ x, tk₁)]).map strV).toArray na') (W.listOf (r.map intV).toArray nl')) → Q .none { s with heap := h', toks := tk' })
    (h3 : ∀ g' h' tk' tk₁ na' e dx od tk₂ tv, left = [] → Fr h₀ L g' m → Thrown base g' (CE cn cnm cmo L a ccd cl :: outer) e dx ((dx, od) :: g₂ (W.listOf ((asked ++ [(word ++ x, tk₁)]).map strV).toArray na') (W.listOf #[] nl)) h' → g'.UpToSlots h' → NsO od (excMap 99 tk₂ tv) → E (.ref e) { s with heap := h', toks := tk' }) :
    wpAny (model PG w) (CT 570 4700 cn cnm cmo L a ccd cl outer) (call (.ref rp) [.str word t1, .ref pa]) Q E s := by
  obtain ⟨m1, u1⟩ := updF_mem U₁
  have m2 : (lf, W.listOf (left.map intV).toArray nl) ∈ news := by
    rcases u1 _ _ (updF_mem (U₂ (W.listOf #[] 0))).1 with h | h
    · exact absurd (congrArg Prod.fst h).symm hne
    · exact h.1
  have hmem : ∀ o o' q, q ∈ g₂ o o' → q ∈ (ak, o) :: (lf, o') :: news.filter (fun q => q.1 != ak && q.1 != lf) := fun o o' q hq => by
    rcases (updF_mem (U₂ o)).2 o' q hq with rfl | ⟨hq, hl⟩
    · exact .tail _ (.head _)
    · rcases u1 o q hq with rfl | ⟨hq, hk⟩
      · exact .head _
      · exact .tail _ (.tail _ (List.mem_filter.mpr ⟨hq, by simp [hk, hl]⟩))
  have hf : ∀ q ∈ news.filter (fun q => q.1 != ak && q.1 != lf), q ∈ news ∧ q.1 ≠ ak ∧ q.1 ≠ lf := fun q hq => by
    obtain ⟨h1, h2⟩ := List.mem_filter.mp hq
    simp at h2
    exact ⟨h1, h2⟩
  refine R.run cn cnm cmo a ccd cl outer A₀ base h₀ L m s asked left na nl word x t1 t2 pa v1 v2 npa (news.filter (fun q => q.1 != ak && q.1 != lf)) Q E B F X T (fun q hq => ?_) (fun q hq => List.mem_filter.mpr ⟨hsub q hq, by simp [hta q hq, htl q hq]⟩) (fun q hq => (hf q hq).2.1) (fun q hq => (hf q hq).2.2) hne hpk hpl hal hll hwx
    (fun b r hl h' tk' tk₁ tk₂ na' nl' F' N' => ?_) (fun hl g' h' tk' tk₁ na' e dx od tk₂ tv F' T' U' O' => h3 g' h' tk' tk₁ na' e dx od tk₂ tv hl F' (T'.sub fun q hq => ?_) U' O')
  · rcases List.mem_cons.mp hq with rfl | hq
    · exact N _ hpa
    · rcases List.mem_cons.mp hq with rfl | hq
      · exact N _ m1
      · rcases List.mem_cons.mp hq with rfl | hq
        · exact N _ m2
        · exact N q (hf q hq).1
  · have N₂ : News h₀ L h' (g₂ (W.listOf ((asked ++ [(word ++ x, tk₁)]).map strV).toArray na') (W.listOf (r.map intV).toArray nl')) := fun q hq => N' q (.tail _ (hmem _ _ q hq))
    by_cases hb : b.1 = 1
    · rw [if_pos hb]; exact h1 b r h' tk' tk₁ tk₂ na' nl' hl hb F' N₂
    · rw [if_neg hb]; exact h2 b r h' tk' tk₁ na' nl' hl hb F' N₂
  · rcases List.mem_cons.mp hq with rfl | hq
    · exact .head _
    · exact .tail _ (hmem _ _ q hq)
end
section
open PySem PySem.W PyProof.Rows
def Stop (P : Prop) : Prop := P
def Lts (r : List (Addr × Obj)) (d : Addr) : Prop := ∀ p ∈ r, p.1 < d
theorem tlS {d : Addr} {a : Addr × Obj} {r : List (Addr × Obj)} (h : ∀ p ∈ a :: r, p.1 < d) : ∀ p ∈ r, p.1 < d := fun p hp => h p (.tail _ hp)
theorem tlN {d : Addr} {r : List (Addr × Obj)} (h : ∀ p ∈ r, p.1 < d) : ∀ p ∈ r, p.1 ≠ d := fun p hp => Nat.ne_of_lt (h p hp)
theorem stop_ {P : Prop} (h : Stop P) : P := h
theorem ltsOf {d : Addr} {r : List (Addr × Obj)} (h : ∀ p ∈ r, p.1 < d) : Lts r d := h
theorem tlL {d : Addr} {r : List (Addr × Obj)} (h : Lts r d) : ∀ p ∈ r, p.1 ≠ d := fun p hp => Nat.ne_of_lt (h p hp)
end
section
open PySem PySem.W PyProof.Rows PySem.Calls PySem.Spec
local macro_rules | `(tactic| f_reads) => `(tactic| (intro hk; first | exact hk.1 | exact hk.2.1 | exact hk.2.2.1 | exact hk.2.2.2.1 | exact hk.2.2.2.2.1 | exact hk.2.2.2.2.2.1 | exact hk.2.2.2.2.2.2.1 | exact hk.2.2.2.2.2.2.2.1 | exact hk.2.2.2.2.2.2.2.2.1 | exact hk.2.2.2.2.2.2.2.2.2.1 | exact hk.2.2.2.2.2.2.2.2.2.2.1 | exact hk.2.2.2.2.2.2.2.2.2.2.2.1 | exact hk.2.2.2.2.2.2.2.2.2.2.2.2.1 | exact hk.2 | exact hk.2.2 | exact hk.2.2.2 | exact hk.2.2.2.2 | exact hk.2.2.2.2.2 | exact hk.2.2.2.2.2.2 | exact hk.2.2.2.2.2.2.2 | exact hk.2.2.2.2.2.2.2.2 | exact hk.2.2.2.2.2.2.2.2.2 | exact hk.2.2.2.2.2.2.2.2.2.2 | exact hk.2.2.2.2.2.2.2.2.2.2.2 | exact hk.2.2.2.2.2.2.2.2.2.2.2.2))
local macro_rules | `(tactic| pv_reads) => `(tactic| with_reducible first | assumption | (refine' lt_conj ?h ?k; (case h => assumption); (case k => f_reads)) | (refine' ne_conj ?h ?k; (case h => assumption); (case k => f_reads)))
local macro_rules | `(tactic| k_ne) => `(tactic| (refine neN ?_; k_whole; (try dsimp only); first | (refine Nat.ne_of_lt ?_; pv_reads) | (refine Nat.ne_of_gt ?_; pv_reads) | pv_reads | (refine Ne.symm ?_; pv_reads) | omega))
local macro_rules | `(tactic| size_fits) => `(tactic| (simp only [PySem.sizeLine_eq, List.size_toArray, List.length_cons, List.length_nil]; decide))
local macro_rules | `(tactic| size_fits) => `(tactic| (simp only [PySem.sizeLine_eq, List.size_toArray, List.length_map]; omega))
local macro_rules | `(tactic| k_in) => `(tactic| (refine' Frag.In.keeps ?kX (Fr.keep ?kF); (case kF => with_reducible assumption); (case kX => with_reducible assumption)))
local macro_rules | `(tactic| k_mem) => `(tactic| with_reducible_and_instances assumption)
local macro_rules | `(tactic| k_all) => `(tactic| first | with_reducible assumption | (refine tlL ?_; with_reducible assumption))
local macro_rules | `(tactic| k_all) => `(tactic| with_reducible assumption)
local macro_rules | `(tactic| k_lt $h) => `(tactic| ((have hTl := $h); (repeat (replace hTl := tlS hTl)); (replace hTl := tlN hTl); replace $h := allLt_of $h; dsimp only [AllLt] at $h:ident))
example : True := by w_top off; (try walk1); trivial
section
open PySem PySem.W PyProof.Rows PySem.Calls PySem.Spec
set_option Elab.async false
set_option maxRecDepth 100000
set_option maxHeartbeats 8000000
example : kdef.heap_1 = kdef.heap_1 ∧ PySem.Challenge.rw_xm0939_01 = PySem.Challenge.rw_xm0939_01 := by
  k_fill
  exact ⟨rfl, rfl⟩


local macro_rules | `(tactic| walk_at "leaving ref") => `(tactic| (k_here; (with_reducible rename Thrown _ _ _ _ _ _ _ => rkX); k_dflt (refine' throw_next ?K ?F rfl ?R ?U ?_; (case R => exact rkX); (case K => assumption); (case F => assumption); (case U => assumption)); clear rkX; intro h' R' U'; (try dsimp only at R' U' ⊢)))
namespace rowB
def zP (w : World) (p : Program) (loose : List Str) (mean : ExcName → Option Value) (mg : Str → Option Value) (mb : Str → Option Value) (rp : Addr) (ak : Addr) (lf : Addr) (t : List (Addr × Obj)) (own : List (Addr × Obj)) (cn : Str) (cnm : List (Str × NameKind)) (cmo : List (Str × Const)) (a : Addr) (ccd : Value) (cl : List (Str × Addr)) (outer : List Env) (A₀ : Around) (base : Heap) (h₀ : Heap) (L : Addr) (m : Str → Option Value) (s : Shared) (asked : List (Str × Tok)) (left : List (Int × Tok)) (na : Nat) (nl : Nat) (x : Str) (t1 : Tok) (t2 : Tok) (t3 : Tok) (t4 : Tok) (t5 : Tok) (t6 : Tok) (t7 : Tok) (bo : Addr) (o1 : Addr) (o2 : Addr) (hk : Addr) (hd : Addr) (lb : Addr) (nt : Addr) (rc : Value) (rd : Option Addr) (fd : FuncData) (rsl : Array (Option Value)) (nb : Nat) (Q : Value → Shared → Prop) (E : Value → Shared → Prop) : Prop := ∀ (B : Below A₀ base outer h₀) (F : Fr h₀ L s.heap m) (X : (kdef.heap_1 w.params).In h₀) (T : Top p loose mean mg mb h₀) (N : News h₀ L s.heap ((ak, W.listOf (asked.map strV).toArray na) :: (lf, W.listOf (left.map intV).toArray nl) :: (bo, W.listOf #[.ref o1, .ref o2] nb) :: (o1, tup [.str (Str.ofString "CALL") t1, .str x t2, .int 0 t6, .bool false]) :: (o2, tup [.str (Str.ofString "DROP") t7]) :: (hk, hooksO hd) :: (hd, hooksD w.params t3 t4 t5 rp lb nt) :: (rp, ⟨rc, rd, .func fd, rsl⟩) :: own)) (R : RepOk w p loose mean mg mb rp ak lf t) (hsub : ∀ q ∈ t, q ∈ own) (hak : ∀ p ∈ own, p.1 ≠ ak) (hlf : ∀ p ∈ own, p.1 ≠ lf) (hta : ∀ q ∈ t, q.1 ≠ ak) (htl : ∀ q ∈ t, q.1 ≠ lf) (hne : @Ne Nat ak lf) (hal : asked.length ≤ 1000) (hll : left.length ≤ 1000) (hwx : (Str.ofString "call" ++ x).length ≤ 1000) (hka : @Ne Nat bo ak ∧ @Ne Nat o1 ak ∧ @Ne Nat o2 ak ∧ @Ne Nat hk ak ∧ @Ne Nat hd ak ∧ @Ne Nat rp ak) (hkl : @Ne Nat bo lf ∧ @Ne Nat o1 lf ∧ @Ne Nat o2 lf ∧ @Ne Nat hk lf ∧ @Ne Nat hd lf ∧ @Ne Nat rp lf) (hok : ∀ b r h' tk' tk₁ na' nl' wk led, left = b :: r → b.1 = 1 → Fr h₀ L h' m → News h₀ L h' led → (∀ q, q ∈ (ak, W.listOf ((asked ++ [(Str.ofString "call" ++ x, tk₁)]).map strV).toArray na') :: (lf, W.listOf (r.map intV).toArray nl') :: (bo, W.listOf #[.ref o1, .ref o2] nb) :: (o1, tup [.str (Str.ofString "CALL") t1, .str x t2, .int 0 t6, .bool false]) :: (o2, tup [.str (Str.ofString "DROP") t7]) :: (hk, hooksO hd) :: (hd, hooksD w.params t3 t4 t5 rp lb nt) :: (rp, ⟨rc, rd, .func fd, rsl⟩) :: own → q ∈ led) → Q (.ref wk) { s with heap := h', toks := tk' }) (hfail : ∀ b r h' tk' tk₁ na' nl' led, left = b :: r → b.1 ≠ 1 → Fr h₀ L h' m → News h₀ L h' led → (∀ q, q ∈ (ak, W.listOf ((asked ++ [(Str.ofString "call" ++ x, tk₁)]).map strV).toArray na') :: (lf, W.listOf (r.map intV).toArray nl') :: (bo, W.listOf #[.ref o1, .ref o2] nb) :: (o1, tup [.str (Str.ofString "CALL") t1, .str x t2, .int 0 t6, .bool false]) :: (o2, tup [.str (Str.ofString "DROP") t7]) :: (hk, hooksO hd) :: (hd, hooksD w.params t3 t4 t5 rp lb nt) :: (rp, ⟨rc, rd, .func fd, rsl⟩) :: own → q ∈ led) → Q .none { s with heap := h', toks := tk' }) (hthrow : ∀ g' h' tk' tk₁ na' e dx od tk₂ tv led, left = [] → Fr h₀ L g' m → Thrown base g' (CE cn cnm cmo L a ccd cl :: outer) e dx led h' → (∀ q, q ∈ (dx, od) :: (ak, W.listOf ((asked ++ [(Str.ofString "call" ++ x, tk₁)]).map strV).toArray na') :: (lf, W.listOf #[] nl) :: (bo, W.listOf #[.ref o1, .ref o2] nb) :: (o1, tup [.str (Str.ofString "CALL") t1, .str x t2, .int 0 t6, .bool false]) :: (o2, tup [.str (Str.ofString "DROP") t7]) :: (hk, hooksO hd) :: (hd, hooksD w.params t3 t4 t5 rp lb nt) :: (rp, ⟨rc, rd, .func fd, rsl⟩) :: own → q ∈ led) → g'.UpToSlots h' → NsO od (excMap 99 tk₂ tv) → E (.ref e) { s with heap := h', toks := tk' }),
  wpAny (model PG w) (CT 560 4600 cn cnm cmo L a ccd cl outer) (call (.ref 254) [.ref bo, .ref hk]) Q E s
noncomputable def zc := eps (α := (World) × (Program) × (List Str) × (ExcName → Option Value) × (Str → Option Value) × (Str → Option Value) × (Addr) × (Addr) × (Addr) × (List (Addr × Obj)) × (List (Addr × Obj)) × (Str) × (List (Str × NameKind)) × (List (Str × Const)) × (Addr) × (Value) × (List (Str × Addr)) × (List Env) × (Around) × (Heap) × (Heap) × (Addr) × (Str → Option Value) × (Shared) × (List (Str × Tok)) × (List (Int × Tok)) × (Nat) × (Nat) × (Str) × (Tok) × (Tok) × (Tok) × (Tok) × (Tok) × (Tok) × (Tok) × (Addr) × (Addr) × (Addr) × (Addr) × (Addr) × (Addr) × (Addr) × (Value) × (Option Addr) × (FuncData) × (Array (Option Value)) × (Nat) × (Value → Shared → Prop) × (Value → Shared → Prop)) ⟨world0, default, default, (fun _ => default), (fun _ => default), (fun _ => default), default, default, default, default, default, default, default, default, default, default, default, default, {}, {}, {}, default, (fun _ => default), {}, default, default, default, default, default, default, default, default, default, default, default, default, default, default, default, default, default, default, default, default, default, default, default, default, (fun _ _ => True), (fun _ _ => True)⟩ (fun c => zP c.1 c.2.1 c.2.2.1 c.2.2.2.1 c.2.2.2.2.1 c.2.2.2.2.2.1 c.2.2.2.2.2.2.1 c.2.2.2.2.2.2.2.1 c.2.2.2.2.2.2.2.2.1 c.2.2.2.2.2.2.2.2.2.1 c.2.2.2.2.2.2.2.2.2.2.1 c.2.2.2.2.2.2.2.2.2.2.2.1 c.2.2.2.2.2.2.2.2.2.2.2.2.1 c.2.2.2.2.2.2.2.2.2.2.2.2.2.1 c.2.2.2.2.2.2.2.2.2.2.2.2.2.2.1 c.2.2.2.2.2.2.2.2.2.2.2.2.2.2.2.1 c.2.2.2.2.2.2.2.2.2.2.2.2.2.2.2.2.1 c.2.2.2.2.2.2.2.2.2.2.2.2.2.2.2.2.2.1 c.2.2.2.2.2.2.2.2.2.2.2.2.2.2.2.2.2.2.1 c.2.2.2.2.2.2.2.2.2.2.2.2.2.2.2.2.2.2.2.1 c.2.2.2.2.2.2.2.2.2.2.2.2.2.2.2.2.2.2.2.2.1 c.2.2.2.2.2.2.2.2.2.2.2.2.2.2.2.2.2.2.2.2.2.1 c.2.2.2.2.2.2.2.2.2.2.2.2.2.2.2.2.2.2.2.2.2.2.1 c.2.2.2.2.2.2.2.2.2.2.2.2.2.2.2.2.2.2.2.2.2.2.2.1 c.2.2.2.2.2.2.2.2.2.2.2.2.2.2.2.2.2.2.2.2.2.2.2.2.1 c.2.2.2.2.2.2.2.2.2.2.2.2.2.2.2.2.2.2.2.2.2.2.2.2.2.1 c.2.2.2.2.2.2.2.2.2.2.2.2.2.2.2.2.2.2.2.2.2.2.2.2.2.2.1 c.2.2.2.2.2.2.2.2.2.2.2.2.2.2.2.2.2.2.2.2.2.2.2.2.2.2.2.1 c.2.2.2.2.2.2.2.2.2.2.2.2.2.2.2.2.2.2.2.2.2.2.2.2.2.2.2.2.1 c.2.2.2.2.2.2.2.2.2.2.2.2.2.2.2.2.2.2.2.2.2.2.2.2.2.2.2.2.2.1 c.2.2.2.2.2.2.2.2.2.2.2.2.2.2.2.2.2.2.2.2.2.2.2.2.2.2.2.2.2.2.1 c.2.2.2.2.2.2.2.2.2.2.2.2.2.2.2.2.2.2.2.2.2.2.2.2.2.2.2.2.2.2.2.1 c.2.2.2.2.2.2.2.2.2.2.2.2.2.2.2.2.2.2.2.2.2.2.2.2.2.2.2.2.2.2.2.2.1 c.2.2.2.2.2.2.2.2.2.2.2.2.2.2.2.2.2.2.2.2.2.2.2.2.2.2.2.2.2.2.2.2.2.1 c.2.2.2.2.2.2.2.2.2.2.2.2.2.2.2.2.2.2.2.2.2.2.2.2.2.2.2.2.2.2.2.2.2.2.1 c.2.2.2.2.2.2.2.2.2.2.2.2.2.2.2.2.2.2.2.2.2.2.2.2.2.2.2.2.2.2.2.2.2.2.2.1 c.2.2.2.2.2.2.2.2.2.2.2.2.2.2.2.2.2.2.2.2.2.2.2.2.2.2.2.2.2.2.2.2.2.2.2.2.1 c.2.2.2.2.2.2.2.2.2.2.2.2.2.2.2.2.2.2.2.2.2.2.2.2.2.2.2.2.2.2.2.2.2.2.2.2.2.1 c.2.2.2.2.2.2.2.2.2.2.2.2.2.2.2.2.2.2.2.2.2.2.2.2.2.2.2.2.2.2.2.2.2.2.2.2.2.2.1 c.2.2.2.2.2.2.2.2.2.2.2.2.2.2.2.2.2.2.2.2.2.2.2.2.2.2.2.2.2.2.2.2.2.2.2.2.2.2.2.1 c.2.2.2.2.2.2.2.2.2.2.2.2.2.2.2.2.2.2.2.2.2.2.2.2.2.2.2.2.2.2.2.2.2.2.2.2.2.2.2.2.1 c.2.2.2.2.2.2.2.2.2.2.2.2.2.2.2.2.2.2.2.2.2.2.2.2.2.2.2.2.2.2.2.2.2.2.2.2.2.2.2.2.2.1 c.2.2.2.2.2.2.2.2.2.2.2.2.2.2.2.2.2.2.2.2.2.2.2.2.2.2.2.2.2.2.2.2.2.2.2.2.2.2.2.2.2.2.1 c.2.2.2.2.2.2.2.2.2.2.2.2.2.2.2.2.2.2.2.2.2.2.2.2.2.2.2.2.2.2.2.2.2.2.2.2.2.2.2.2.2.2.2.1 c.2.2.2.2.2.2.2.2.2.2.2.2.2.2.2.2.2.2.2.2.2.2.2.2.2.2.2.2.2.2.2.2.2.2.2.2.2.2.2.2.2.2.2.2.1 c.2.2.2.2.2.2.2.2.2.2.2.2.2.2.2.2.2.2.2.2.2.2.2.2.2.2.2.2.2.2.2.2.2.2.2.2.2.2.2.2.2.2.2.2.2.1 c.2.2.2.2.2.2.2.2.2.2.2.2.2.2.2.2.2.2.2.2.2.2.2.2.2.2.2.2.2.2.2.2.2.2.2.2.2.2.2.2.2.2.2.2.2.2.1 c.2.2.2.2.2.2.2.2.2.2.2.2.2.2.2.2.2.2.2.2.2.2.2.2.2.2.2.2.2.2.2.2.2.2.2.2.2.2.2.2.2.2.2.2.2.2.2.1 c.2.2.2.2.2.2.2.2.2.2.2.2.2.2.2.2.2.2.2.2.2.2.2.2.2.2.2.2.2.2.2.2.2.2.2.2.2.2.2.2.2.2.2.2.2.2.2.2.1 c.2.2.2.2.2.2.2.2.2.2.2.2.2.2.2.2.2.2.2.2.2.2.2.2.2.2.2.2.2.2.2.2.2.2.2.2.2.2.2.2.2.2.2.2.2.2.2.2.2)
@[irreducible] noncomputable def w := zc.1.1
@[irreducible] noncomputable def p := zc.1.2.1
@[irreducible] noncomputable def loose := zc.1.2.2.1
@[irreducible] noncomputable def mean := zc.1.2.2.2.1
@[irreducible] noncomputable def mg := zc.1.2.2.2.2.1
@[irreducible] noncomputable def mb := zc.1.2.2.2.2.2.1
@[irreducible] noncomputable def rp := zc.1.2.2.2.2.2.2.1
@[irreducible] noncomputable def ak := zc.1.2.2.2.2.2.2.2.1
@[irreducible] noncomputable def lf := zc.1.2.2.2.2.2.2.2.2.1
@[irreducible] noncomputable def t := zc.1.2.2.2.2.2.2.2.2.2.1
@[irreducible] noncomputable def own := zc.1.2.2.2.2.2.2.2.2.2.2.1
@[irreducible] noncomputable def cn := zc.1.2.2.2.2.2.2.2.2.2.2.2.1
@[irreducible] noncomputable def cnm := zc.1.2.2.2.2.2.2.2.2.2.2.2.2.1
@[irreducible] noncomputable def cmo := zc.1.2.2.2.2.2.2.2.2.2.2.2.2.2.1
@[irreducible] noncomputable def a := zc.1.2.2.2.2.2.2.2.2.2.2.2.2.2.2.1
@[irreducible] noncomputable def ccd := zc.1.2.2.2.2.2.2.2.2.2.2.2.2.2.2.2.1
@[irreducible] noncomputable def cl := zc.1.2.2.2.2.2.2.2.2.2.2.2.2.2.2.2.2.1
@[irreducible] noncomputable def outer := zc.1.2.2.2.2.2.2.2.2.2.2.2.2.2.2.2.2.2.1
@[irreducible] noncomputable def A₀ := zc.1.2.2.2.2.2.2.2.2.2.2.2.2.2.2.2.2.2.2.1
@[irreducible] noncomputable def base := zc.1.2.2.2.2.2.2.2.2.2.2.2.2.2.2.2.2.2.2.2.1
@[irreducible] noncomputable def h₀ := zc.1.2.2.2.2.2.2.2.2.2.2.2.2.2.2.2.2.2.2.2.2.1
@[irreducible] noncomputable def L := zc.1.2.2.2.2.2.2.2.2.2.2.2.2.2.2.2.2.2.2.2.2.2.1
@[irreducible] noncomputable def m := zc.1.2.2.2.2.2.2.2.2.2.2.2.2.2.2.2.2.2.2.2.2.2.2.1
@[irreducible] noncomputable def s := zc.1.2.2.2.2.2.2.2.2.2.2.2.2.2.2.2.2.2.2.2.2.2.2.2.1
@[irreducible] noncomputable def asked := zc.1.2.2.2.2.2.2.2.2.2.2.2.2.2.2.2.2.2.2.2.2.2.2.2.2.1
@[irreducible] noncomputable def left := zc.1.2.2.2.2.2.2.2.2.2.2.2.2.2.2.2.2.2.2.2.2.2.2.2.2.2.1
@[irreducible] noncomputable def na := zc.1.2.2.2.2.2.2.2.2.2.2.2.2.2.2.2.2.2.2.2.2.2.2.2.2.2.2.1
@[irreducible] noncomputable def nl := zc.1.2.2.2.2.2.2.2.2.2.2.2.2.2.2.2.2.2.2.2.2.2.2.2.2.2.2.2.1
@[irreducible] noncomputable def x := zc.1.2.2.2.2.2.2.2.2.2.2.2.2.2.2.2.2.2.2.2.2.2.2.2.2.2.2.2.2.1
@[irreducible] noncomputable def t1 := zc.1.2.2.2.2.2.2.2.2.2.2.2.2.2.2.2.2.2.2.2.2.2.2.2.2.2.2.2.2.2.1
@[irreducible] noncomputable def t2 := zc.1.2.2.2.2.2.2.2.2.2.2.2.2.2.2.2.2.2.2.2.2.2.2.2.2.2.2.2.2.2.2.1
@[irreducible] noncomputable def t3 := zc.1.2.2.2.2.2.2.2.2.2.2.2.2.2.2.2.2.2.2.2.2.2.2.2.2.2.2.2.2.2.2.2.1
@[irreducible] noncomputable def t4 := zc.1.2.2.2.2.2.2.2.2.2.2.2.2.2.2.2.2.2.2.2.2.2.2.2.2.2.2.2.2.2.2.2.2.1
@[irreducible] noncomputable def t5 := zc.1.2.2.2.2.2.2.2.2.2.2.2.2.2.2.2.2.2.2.2.2.2.2.2.2.2.2.2.2.2.2.2.2.2.1
@[irreducible] noncomputable def t6 := zc.1.2.2.2.2.2.2.2.2.2.2.2.2.2.2.2.2.2.2.2.2.2.2.2.2.2.2.2.2.2.2.2.2.2.2.1
@[irreducible] noncomputable def t7 := zc.1.2.2.2.2.2.2.2.2.2.2.2.2.2.2.2.2.2.2.2.2.2.2.2.2.2.2.2.2.2.2.2.2.2.2.2.1
@[irreducible] noncomputable def bo := zc.1.2.2.2.2.2.2.2.2.2.2.2.2.2.2.2.2.2.2.2.2.2.2.2.2.2.2.2.2.2.2.2.2.2.2.2.2.1
@[irreducible] noncomputable def o1 := zc.1.2.2.2.2.2.2.2.2.2.2.2.2.2.2.2.2.2.2.2.2.2.2.2.2.2.2.2.2.2.2.2.2.2.2.2.2.2.1
@[irreducible] noncomputable def o2 := zc.1.2.2.2.2.2.2.2.2.2.2.2.2.2.2.2.2.2.2.2.2.2.2.2.2.2.2.2.2.2.2.2.2.2.2.2.2.2.2.1
@[irreducible] noncomputable def hk := zc.1.2.2.2.2.2.2.2.2.2.2.2.2.2.2.2.2.2.2.2.2.2.2.2.2.2.2.2.2.2.2.2.2.2.2.2.2.2.2.2.1
@[irreducible] noncomputable def hd := zc.1.2.2.2.2.2.2.2.2.2.2.2.2.2.2.2.2.2.2.2.2.2.2.2.2.2.2.2.2.2.2.2.2.2.2.2.2.2.2.2.2.1
@[irreducible] noncomputable def lb := zc.1.2.2.2.2.2.2.2.2.2.2.2.2.2.2.2.2.2.2.2.2.2.2.2.2.2.2.2.2.2.2.2.2.2.2.2.2.2.2.2.2.2.1
@[irreducible] noncomputable def nt := zc.1.2.2.2.2.2.2.2.2.2.2.2.2.2.2.2.2.2.2.2.2.2.2.2.2.2.2.2.2.2.2.2.2.2.2.2.2.2.2.2.2.2.2.1
@[irreducible] noncomputable def rc := zc.1.2.2.2.2.2.2.2.2.2.2.2.2.2.2.2.2.2.2.2.2.2.2.2.2.2.2.2.2.2.2.2.2.2.2.2.2.2.2.2.2.2.2.2.1
@[irreducible] noncomputable def rd := zc.1.2.2.2.2.2.2.2.2.2.2.2.2.2.2.2.2.2.2.2.2.2.2.2.2.2.2.2.2.2.2.2.2.2.2.2.2.2.2.2.2.2.2.2.2.1
@[irreducible] noncomputable def fd := zc.1.2.2.2.2.2.2.2.2.2.2.2.2.2.2.2.2.2.2.2.2.2.2.2.2.2.2.2.2.2.2.2.2.2.2.2.2.2.2.2.2.2.2.2.2.2.1
@[irreducible] noncomputable def rsl := zc.1.2.2.2.2.2.2.2.2.2.2.2.2.2.2.2.2.2.2.2.2.2.2.2.2.2.2.2.2.2.2.2.2.2.2.2.2.2.2.2.2.2.2.2.2.2.2.1
@[irreducible] noncomputable def nb := zc.1.2.2.2.2.2.2.2.2.2.2.2.2.2.2.2.2.2.2.2.2.2.2.2.2.2.2.2.2.2.2.2.2.2.2.2.2.2.2.2.2.2.2.2.2.2.2.2.1
@[irreducible] noncomputable def Q := zc.1.2.2.2.2.2.2.2.2.2.2.2.2.2.2.2.2.2.2.2.2.2.2.2.2.2.2.2.2.2.2.2.2.2.2.2.2.2.2.2.2.2.2.2.2.2.2.2.2.1
@[irreducible] noncomputable def E := zc.1.2.2.2.2.2.2.2.2.2.2.2.2.2.2.2.2.2.2.2.2.2.2.2.2.2.2.2.2.2.2.2.2.2.2.2.2.2.2.2.2.2.2.2.2.2.2.2.2.2
noncomputable def zpart0 : { R : ((Heap) → (Addr) → (Addr) → (Addr) → (Heap) → (Heap) → (Nat) → (Addr) → (Heap) → (Heap) → (Nat) → (Addr) → (Heap) → (Heap) → (Nat) → (Heap) → (Nat) → (Heap) → (Nat) → (Addr) → (Heap) → (Nat) → Prop) // Hide (∀ z1_1 z1_2 z1_11 z1_12 z1_17 z1_19 tk z1_23 z1_24 z1_27 z1_28 z1_29 z1_30 z1_33 z1_34 z1_35 z1_36 z1_37 z1_40 z1_43 z1_49 tkn, R z1_1 z1_2 z1_11 z1_12 z1_17 z1_19 tk z1_23 z1_24 z1_27 z1_28 z1_29 z1_30 z1_33 z1_34 z1_35 z1_36 z1_37 z1_40 z1_43 z1_49 tkn) → zP w p loose mean mg mb rp ak lf t own cn cnm cmo a ccd cl outer A₀ base h₀ L m s asked left na nl x t1 t2 t3 t4 t5 t6 t7 bo o1 o2 hk hd lb nt rc rd fd rsl nb Q E } := by
  refine' ⟨_, fun hP1 => ?main⟩
  case main =>
    intro B F X T N R hsub hak hlf hta htl hne hal hll hwx hka hkl hok hfail hthrow
    w_on
    iterate 60 (first | (k_unfold; (try dsimp only)) | (k_end; wrow_close) | (walk1; (try ((with_reducible show wpAny _ _ (execs _ _) _ _ (Shared.mk _ _ _ (_ + 1) _)); refine tok_any ?_; intro tkn))) | (dsimp only; walk1) | (leave1; (try dsimp only)))
    rename_i z1_1 z1_2 z1_3 z1_4 z1_5 z1_6 z1_7 z1_8 z1_9 z1_10 z1_11 z1_12 z1_13 z1_14 z1_15 z1_16 z1_17 z1_18 z1_19 z1_20 z1_21 z1_22 z1_23 z1_24 z1_25 z1_26 z1_27 z1_28
      z1_29 z1_30 z1_31 z1_32 z1_33 z1_34 z1_35 z1_36 z1_37 z1_38 z1_39 z1_40 z1_41 z1_42 z1_43 z1_44 z1_45 z1_46 z1_47 z1_48 z1_49 z1_50 z1_51
    ((try clear ek); (try clear qk))
    revert X T R hsub hak hlf hta htl hne hal hll hwx hka hkl hok hfail hthrow z1_4 z1_5 z1_6 z1_8 z1_9 z1_14 z1_15 z1_16 z1_21 z1_26 z1_32 z1_41 z1_42 z1_46 z1_50 z1_51
    exact hP1.out z1_1 z1_2 z1_11 z1_12 z1_17 z1_19 tk z1_23 z1_24 z1_27 z1_28 z1_29 z1_30 z1_33 z1_34 z1_35 z1_36 z1_37 z1_40 z1_43 z1_49 tkn
namespace z1
noncomputable def zc := eps (α := (Heap) × (Addr) × (Addr) × (Addr) × (Heap) × (Heap) × (Nat) × (Addr) × (Heap) × (Heap) × (Nat) × (Addr) × (Heap) × (Heap) × (Nat) × (Heap) × (Nat) × (Heap) × (Nat) × (Addr) × (Heap) × (Nat)) ⟨{}, default, default, default, {}, {}, default, default, {}, {}, default, default, {}, {}, default, {}, default, {}, default, default, {}, default⟩ (fun c => zpart0.1 c.1 c.2.1 c.2.2.1 c.2.2.2.1 c.2.2.2.2.1 c.2.2.2.2.2.1 c.2.2.2.2.2.2.1 c.2.2.2.2.2.2.2.1 c.2.2.2.2.2.2.2.2.1 c.2.2.2.2.2.2.2.2.2.1 c.2.2.2.2.2.2.2.2.2.2.1 c.2.2.2.2.2.2.2.2.2.2.2.1 c.2.2.2.2.2.2.2.2.2.2.2.2.1 c.2.2.2.2.2.2.2.2.2.2.2.2.2.1 c.2.2.2.2.2.2.2.2.2.2.2.2.2.2.1 c.2.2.2.2.2.2.2.2.2.2.2.2.2.2.2.1 c.2.2.2.2.2.2.2.2.2.2.2.2.2.2.2.2.1 c.2.2.2.2.2.2.2.2.2.2.2.2.2.2.2.2.2.1 c.2.2.2.2.2.2.2.2.2.2.2.2.2.2.2.2.2.2.1 c.2.2.2.2.2.2.2.2.2.2.2.2.2.2.2.2.2.2.2.1 c.2.2.2.2.2.2.2.2.2.2.2.2.2.2.2.2.2.2.2.2.1 c.2.2.2.2.2.2.2.2.2.2.2.2.2.2.2.2.2.2.2.2.2)
@[irreducible] noncomputable def z1_1 := zc.1.1
@[irreducible] noncomputable def z1_2 := zc.1.2.1
@[irreducible] noncomputable def z1_11 := zc.1.2.2.1
@[irreducible] noncomputable def z1_12 := zc.1.2.2.2.1
@[irreducible] noncomputable def z1_17 := zc.1.2.2.2.2.1
@[irreducible] noncomputable def z1_19 := zc.1.2.2.2.2.2.1
@[irreducible] noncomputable def tk := zc.1.2.2.2.2.2.2.1
@[irreducible] noncomputable def z1_23 := zc.1.2.2.2.2.2.2.2.1
@[irreducible] noncomputable def z1_24 := zc.1.2.2.2.2.2.2.2.2.1
@[irreducible] noncomputable def z1_27 := zc.1.2.2.2.2.2.2.2.2.2.1
@[irreducible] noncomputable def z1_28 := zc.1.2.2.2.2.2.2.2.2.2.2.1
@[irreducible] noncomputable def z1_29 := zc.1.2.2.2.2.2.2.2.2.2.2.2.1
@[irreducible] noncomputable def z1_30 := zc.1.2.2.2.2.2.2.2.2.2.2.2.2.1
@[irreducible] noncomputable def z1_33 := zc.1.2.2.2.2.2.2.2.2.2.2.2.2.2.1
@[irreducible] noncomputable def z1_34 := zc.1.2.2.2.2.2.2.2.2.2.2.2.2.2.2.1
@[irreducible] noncomputable def z1_35 := zc.1.2.2.2.2.2.2.2.2.2.2.2.2.2.2.2.1
@[irreducible] noncomputable def z1_36 := zc.1.2.2.2.2.2.2.2.2.2.2.2.2.2.2.2.2.1
@[irreducible] noncomputable def z1_37 := zc.1.2.2.2.2.2.2.2.2.2.2.2.2.2.2.2.2.2.1
@[irreducible] noncomputable def z1_40 := zc.1.2.2.2.2.2.2.2.2.2.2.2.2.2.2.2.2.2.2.1
@[irreducible] noncomputable def z1_43 := zc.1.2.2.2.2.2.2.2.2.2.2.2.2.2.2.2.2.2.2.2.1
@[irreducible] noncomputable def z1_49 := zc.1.2.2.2.2.2.2.2.2.2.2.2.2.2.2.2.2.2.2.2.2.1
@[irreducible] noncomputable def tkn := zc.1.2.2.2.2.2.2.2.2.2.2.2.2.2.2.2.2.2.2.2.2.2
noncomputable def zpart1 : { R : ((Heap) → (Addr) → (Heap) → (Nat) → Prop) // Hide (∀ z2_7 z2_8 z2_14 tkn, R z2_7 z2_8 z2_14 tkn) → zpart0.1 z1_1 z1_2 z1_11 z1_12 z1_17 z1_19 tk z1_23 z1_24 z1_27 z1_28 z1_29 z1_30 z1_33 z1_34 z1_35 z1_36 z1_37 z1_40 z1_43 z1_49 tkn } := by
  refine' ⟨_, fun hP2 => ?main⟩
  case main =>
    intro X T R hsub hak hlf hta htl hne hal hll hwx hka hkl hok hfail hthrow z1_4 z1_5 z1_6 z1_8 z1_9 z1_14 z1_15 z1_16 z1_21 z1_26 z1_32 z1_41 z1_42 z1_46 z1_50 z1_51
    iterate 60 (first | (k_unfold; (try dsimp only)) | (k_end; wrow_close) | ((first | with_reducible ((with_reducible show wpAny _ _ (subscriptTail (Expr.Name ..) (Expr.Name ..) (Value.ref _) (Value.int ..)) _ _ _); k_here; (with_unfolding_all refine' item_litK ?k1x1 ?k2x1 ?k3x1 ?k4x1 ?_ ?k6x1; (case k1x1 => first | is_list | exact News.isList (by assumption) (by repeat (first | exact List.Mem.head _ | apply List.Mem.tail))); (case k2x1 => decide); (case k3x1 => decide); (case k4x1 => rfl); (case k6x1 => with_unfolding_all rfl); k_whole)) | walk1); (try ((with_reducible show wpAny _ _ (execs _ _) _ _ (Shared.mk _ _ _ (_ + 1) _)); refine tok_any ?_; intro tkn))) | (dsimp only; walk1) | (leave1; (try dsimp only)))
    rename_i z2_1 z2_2 z2_3 z2_4 z2_5 z2_6 z2_7 z2_8 z2_9 z2_10 z2_11 z2_12 z2_13 z2_14 z2_15 z2_16 z2_17
    revert X T R hsub hak hlf hta htl hne hal hll hwx hka hkl hok hfail hthrow z1_4 z1_5 z1_6 z1_8 z1_9 z1_14 z1_15 z1_16 z1_21 z1_26 z1_32 z1_41 z1_42 z1_46 z2_10 z2_11
      z2_12 z2_13 qk ek z2_15 z2_16
    exact hP2.out z2_7 z2_8 z2_14 tkn
namespace z2
noncomputable def zc := eps (α := (Heap) × (Addr) × (Heap) × (Nat)) ⟨{}, default, {}, default⟩ (fun c => zpart1.1 c.1 c.2.1 c.2.2.1 c.2.2.2)
@[irreducible] noncomputable def z2_7 := zc.1.1
@[irreducible] noncomputable def z2_8 := zc.1.2.1
@[irreducible] noncomputable def z2_14 := zc.1.2.2.1
@[irreducible] noncomputable def tkn := zc.1.2.2.2
noncomputable def zpart2 : { R : ((Nat) → Prop) // Hide (∀ tkn, R tkn) → zpart1.1 z2_7 z2_8 z2_14 tkn } := by
  refine' ⟨_, fun hP3 => ?main⟩
  case main =>
    intro X T R hsub hak hlf hta htl hne hal hll hwx hka hkl hok hfail hthrow z1_4 z1_5 z1_6 z1_8 z1_9 z1_14 z1_15 z1_16 z1_21 z1_26 z1_32 z1_41 z1_42 z1_46 z2_10 z2_11
      z2_12 z2_13 qk ek z2_15 z2_16
    iterate 60 (first | (k_unfold; (try dsimp only)) | (k_end; wrow_close) | (walk1; (try ((with_reducible show wpAny _ _ (execs _ _) _ _ (Shared.mk _ _ _ (_ + 1) _)); refine tok_any ?_; intro tkn))) | (dsimp only; walk1) | (leave1; (try dsimp only)))
    rename_i z3_1 z3_2 z3_3 z3_4
    revert X T R hsub hak hlf hta htl hne hal hll hwx hka hkl hok hfail hthrow z1_4 z1_5 z1_6 z1_8 z1_9 z1_14 z1_15 z1_16 z1_21 z1_26 z1_32 z1_41 z1_42 z1_46 z2_10 z2_11
      z2_12 z2_13 qk ek z2_15 z2_16
    exact hP3.out tkn
namespace z3
noncomputable def zc := eps (α := (Nat)) ⟨default⟩ zpart2.1
@[irreducible] noncomputable def tkn := zc.1
noncomputable def zpart3 : { R : ((Heap) → (Addr) → (Heap) → (Nat) → (Addr) → (Heap) → (Nat) → Prop) // Hide (∀ z4_3 z4_4 z4_5 tk z4_12 z4_16 tkn, R z4_3 z4_4 z4_5 tk z4_12 z4_16 tkn) → zpart2.1 tkn } := by
  refine' ⟨_, fun hP4 => ?main⟩
  case main =>
    intro X T R hsub hak hlf hta htl hne hal hll hwx hka hkl hok hfail hthrow z1_4 z1_5 z1_6 z1_8 z1_9 z1_14 z1_15 z1_16 z1_21 z1_26 z1_32 z1_41 z1_42 z1_46 z2_10 z2_11
      z2_12 z2_13 qk ek z2_15 z2_16
    iterate 60 (first | (k_unfold; (try dsimp only)) | (k_end; wrow_close) | (walk1; (try ((with_reducible show wpAny _ _ (execs _ _) _ _ (Shared.mk _ _ _ (_ + 1) _)); refine tok_any ?_; intro tkn))) | (dsimp only; walk1) | (leave1; (try dsimp only)))
    rename_i z4_1 z4_2 z4_3 z4_4 z4_5 z4_6 z4_7 z4_8 z4_9 z4_10 z4_11 z4_12 z4_13 z4_14 z4_15 z4_16 z4_17 z4_18
    revert X T R hsub hak hlf hta htl hne hal hll hwx hka hkl hok hfail hthrow z1_4 z1_5 z1_6 z1_8 z1_9 z1_14 z1_15 z1_16 z1_21 z1_26 z1_32 z1_41 z1_42 z1_46 z2_10 z2_11
      z2_12 z2_13 z4_1 z4_2 z4_8 qk ek z4_15 z4_17 z4_18
    exact hP4.out z4_3 z4_4 z4_5 tk z4_12 z4_16 tkn
namespace z4
noncomputable def zc := eps (α := (Heap) × (Addr) × (Heap) × (Nat) × (Addr) × (Heap) × (Nat)) ⟨{}, default, {}, default, default, {}, default⟩ (fun c => zpart3.1 c.1 c.2.1 c.2.2.1 c.2.2.2.1 c.2.2.2.2.1 c.2.2.2.2.2.1 c.2.2.2.2.2.2)
@[irreducible] noncomputable def z4_3 := zc.1.1
@[irreducible] noncomputable def z4_4 := zc.1.2.1
@[irreducible] noncomputable def z4_5 := zc.1.2.2.1
@[irreducible] noncomputable def tk := zc.1.2.2.2.1
@[irreducible] noncomputable def z4_12 := zc.1.2.2.2.2.1
@[irreducible] noncomputable def z4_16 := zc.1.2.2.2.2.2.1
@[irreducible] noncomputable def tkn := zc.1.2.2.2.2.2.2
noncomputable def zpart4 : { R : ((Addr) → (Heap) → (Addr) → (Nat) → (Addr) → (Heap) → (Addr) → (Heap) → (Nat) → Prop) // Hide (∀ z5_3 z5_15 z5_16 z5_24 z5_25 z5_31 z5_32 z5_38 tkn, R z5_3 z5_15 z5_16 z5_24 z5_25 z5_31 z5_32 z5_38 tkn) → zpart3.1 z4_3 z4_4 z4_5 tk z4_12 z4_16 tkn } := by
  refine' ⟨_, fun hP5 => ?main⟩
  case main =>
    intro X T R hsub hak hlf hta htl hne hal hll hwx hka hkl hok hfail hthrow z1_4 z1_5 z1_6 z1_8 z1_9 z1_14 z1_15 z1_16 z1_21 z1_26 z1_32 z1_41 z1_42 z1_46 z2_10 z2_11
      z2_12 z2_13 z4_1 z4_2 z4_8 qk ek z4_15 z4_17 z4_18
    iterate 50 (first | (k_unfold; (try dsimp only)) | (k_end; wrow_close) | ((first | with_reducible (k_here; (with_reducible show wpAny _ _ (callWith _ (Value.ref rp) _ _ _) _ _ _); k_dflt (refine' callWith_F ?k1x2 ?_; (case k1x2 => exact FnAt.of (by k_asm) (by k_mem)); k_whole)) | walk1); (try ((with_reducible show wpAny _ _ (execs _ _) _ _ (Shared.mk _ _ _ (_ + 1) _)); refine tok_any ?_; intro tkn))) | (dsimp only; walk1) | (leave1; (try dsimp only)))
    rename_i z5_1 z5_2 z5_3 z5_4 z5_5 z5_6 z5_7 z5_8 z5_9 z5_10 z5_11 z5_12 z5_13 z5_14 z5_15 z5_16 z5_17 z5_18 z5_19 z5_20 z5_21 z5_22 z5_23 z5_24 z5_25 z5_26 z5_27 z5_28
      z5_29 z5_30 z5_31 z5_32 z5_33 z5_34 z5_35 z5_36 z5_37 z5_38 z5_39 z5_40
    ((try clear z5_2); (try clear z5_1))
    revert X T R hsub hak hlf hta htl hne hal hll hwx hka hkl hok hfail hthrow z1_4 z1_5 z1_6 z1_8 z1_9 z1_15 z1_16 z1_21 z1_26 z1_32 z1_41 z1_42 z1_46 z2_10 z2_11 z2_12
      z4_1 z4_2 z4_8 z4_15 z5_5 z5_6 z5_13 z5_14 z5_18 z5_19 z5_20 z5_21 z5_22 z5_23 z5_30 z5_34 z5_35 z5_36 z5_37 qk ek z5_39 z5_40
    exact hP5.out z5_3 z5_15 z5_16 z5_24 z5_25 z5_31 z5_32 z5_38 tkn
namespace z5
noncomputable def zc := eps (α := (Addr) × (Heap) × (Addr) × (Nat) × (Addr) × (Heap) × (Addr) × (Heap) × (Nat)) ⟨default, {}, default, default, default, {}, default, {}, default⟩ (fun c => zpart4.1 c.1 c.2.1 c.2.2.1 c.2.2.2.1 c.2.2.2.2.1 c.2.2.2.2.2.1 c.2.2.2.2.2.2.1 c.2.2.2.2.2.2.2.1 c.2.2.2.2.2.2.2.2)
@[irreducible] noncomputable def z5_3 := zc.1.1
@[irreducible] noncomputable def z5_15 := zc.1.2.1
@[irreducible] noncomputable def z5_16 := zc.1.2.2.1
@[irreducible] noncomputable def z5_24 := zc.1.2.2.2.1
@[irreducible] noncomputable def z5_25 := zc.1.2.2.2.2.1
@[irreducible] noncomputable def z5_31 := zc.1.2.2.2.2.2.1
@[irreducible] noncomputable def z5_32 := zc.1.2.2.2.2.2.2.1
@[irreducible] noncomputable def z5_38 := zc.1.2.2.2.2.2.2.2.1
@[irreducible] noncomputable def tkn := zc.1.2.2.2.2.2.2.2.2
noncomputable def zpart5 : { R : ((Int × Tok) → (List (Int × Tok)) → (Tok) → (Tok) → (Nat) → (Nat) → (Heap) → (Heap) → (Heap) → (Nat) → (Heap) → (Nat) → Prop) // Hide (∀ z6_3 z6_4 z6_7 z6_8 z6_9 z6_10 z6_23 z6_33 z6_44 z6_47 z6_54 tkn, R z6_3 z6_4 z6_7 z6_8 z6_9 z6_10 z6_23 z6_33 z6_44 z6_47 z6_54 tkn) → zpart4.1 z5_3 z5_15 z5_16 z5_24 z5_25 z5_31 z5_32 z5_38 tkn } := by
  refine' ⟨_, fun hP6 => ?main⟩
  case main =>
    intro X T R hsub hak hlf hta htl hne hal hll hwx hka hkl hok hfail hthrow z1_4 z1_5 z1_6 z1_8 z1_9 z1_15 z1_16 z1_21 z1_26 z1_32 z1_41 z1_42 z1_46 z2_10 z2_11 z2_12
      z4_1 z4_2 z4_8 z4_15 z5_5 z5_6 z5_13 z5_14 z5_18 z5_19 z5_20 z5_21 z5_22 z5_23 z5_30 z5_34 z5_35 z5_36 z5_37 qk ek z5_39 z5_40
    iterate 30 (first | (k_unfold; (try dsimp only)) | (k_end; wrow_close) | ((first | with_reducible (k_dflt (exact FnAt.of (by k_asm) (by k_mem))) | with_reducible (k_here; (with_reducible show wpAny _ _ (call (Value.ref rp) _) _ _ _); k_dflt (refine wp_le (d := 570) (u := 4700) ?_ (Nat.le_of_ble_eq_true rfl) (Nat.le_of_ble_eq_true rfl)); k_dflt (refine' R.use (asked := asked) (left := left) (na := na) (nl := nl) ?Bx4 ?Fx4 ?Xx4 ?Tx4 ?Nx4 ?pax4 ?subx4 ?tax4 ?tlx4 ?nex4 ?pkx4 ?plx4 ?alx4 ?llx4 ?wxx4 ?U1x4 ?U2x4 ?h1x4 ?h2x4 ?h3x4; (case Nx4 => k_asm); (case Bx4 => k_asm); (case Fx4 => k_asm); (case Xx4 => k_in); (case Tx4 => k_asm); (case pax4 => k_mem); (case U1x4 => k_updF); (case U2x4 => (intro o; k_updF)); (case pkx4 => k_ne); (case plx4 => k_ne); (case nex4 => exact hne); (case alx4 => exact hal); (case llx4 => exact hll); (case wxx4 => exact hwx); (case tax4 => exact hta); (case tlx4 => exact htl); (case subx4 => (intro q hq; have hq' := hsub q hq; repeat (first | exact hq' | apply List.Mem.tail))))) | walk1); (try ((with_reducible show wpAny _ _ (execs _ _) _ _ (Shared.mk _ _ _ (_ + 1) _)); refine tok_any ?_; intro tkn))) | (dsimp only; walk1) | (leave1; (try dsimp only)))
    · iterate 60 (first | (k_unfold; (try dsimp only)) | (k_end; wrow_close) | ((first | with_reducible ((with_reducible show wpAny _ _ (call (Value.builtin _) _) _ _ _); k_here; (try dsimp only [List.nil_append, List.cons_append]); k_dflt (refine' append_K ?k1x5 ?k2x5 ?k3x5 ?_ ?zx5; (case k1x5 => k_asm); (case k2x5 => k_asm); (case k3x5 => k_upd); (case zx5 => size_fits); k_whole); intro _ _ _; (try k_sweep)) | walk1); (try ((with_reducible show wpAny _ _ (execs _ _) _ _ (Shared.mk _ _ _ (_ + 1) _)); refine tok_any ?_; intro tkn))) | (dsimp only; walk1) | (leave1; (try dsimp only)))
      rename_i z6_1 z6_2 z6_3 z6_4 z6_5 z6_6 z6_7 z6_8 z6_9 z6_10 z6_11 z6_12 z6_13 z6_14 z6_15 z6_16 z6_17 z6_18 z6_19 z6_20 z6_21 z6_22 z6_23 z6_24 z6_25 z6_26 z6_27
        z6_28 z6_29 z6_30 z6_31 z6_32 z6_33 z6_34 z6_35 z6_36 z6_37 z6_38 z6_39 z6_40 z6_41 z6_42 z6_43 z6_44 z6_45 z6_46 z6_47 z6_48 z6_49 z6_50 z6_51 z6_52 z6_53 z6_54
        z6_55 z6_56
      ((try clear ek); (try clear qk); (try clear z6_31); (try clear z6_30); (try clear z6_2); (try clear z6_1); (try clear z5_23); (try clear z5_22); (try clear z4_2); (try clear z4_1))
      revert X T hok z1_5 z1_6 z1_8 z1_9 z1_21 z1_42 z2_12 z4_8 z5_5 z5_6 z5_14 z5_20 z5_30 z5_36 z6_11 z6_12 z6_18 z6_22 z6_28 z6_39 z6_42 z6_51 z6_52 z6_53 z6_55 z6_56
      exact hP6.out z6_3 z6_4 z6_7 z6_8 z6_9 z6_10 z6_23 z6_33 z6_44 z6_47 z6_54 tkn
    · repeat' (first | (k_unfold; (try dsimp only)) | (k_end; wrow_close) | (walk1; (try ((with_reducible show wpAny _ _ (execs _ _) _ _ (Shared.mk _ _ _ (_ + 1) _)); refine tok_any ?_; intro tkn))) | (dsimp only; walk1) | (leave1; (try dsimp only)))
      refine' hfail _ _ _ _ ?tk2 ?na2 ?nl2 _ (by assumption) (by assumption) (by assumption) (by assumption) ?z2
      case z2 =>
       intro q hq
       repeat (first | exact hq | apply List.Mem.tail)
    · repeat' (first | (k_unfold; (try dsimp only)) | (k_end; wrow_close) | (walk1; (try ((with_reducible show wpAny _ _ (execs _ _) _ _ (Shared.mk _ _ _ (_ + 1) _)); refine tok_any ?_; intro tkn))) | (dsimp only; walk1) | (leave1; (try dsimp only)))
      refine' hthrow _ _ _ ?tk3 ?na3 _ _ _ _ _ _ (by assumption) (by assumption) (by assumption) ?z3 (by assumption) (by assumption)
      case z3 =>
      intro q hq
      rcases List.mem_cons.mp hq with rfl | hq
      · exact List.Mem.head _
      · apply List.Mem.tail
        repeat (first | exact hq | apply List.Mem.tail)

namespace z6
noncomputable def zc := eps (α := (Int × Tok) × (List (Int × Tok)) × (Tok) × (Tok) × (Nat) × (Nat) × (Heap) × (Heap) × (Heap) × (Nat) × (Heap) × (Nat)) ⟨default, default, default, default, default, default, {}, {}, {}, default, {}, default⟩ (fun c => zpart5.1 c.1 c.2.1 c.2.2.1 c.2.2.2.1 c.2.2.2.2.1 c.2.2.2.2.2.1 c.2.2.2.2.2.2.1 c.2.2.2.2.2.2.2.1 c.2.2.2.2.2.2.2.2.1 c.2.2.2.2.2.2.2.2.2.1 c.2.2.2.2.2.2.2.2.2.2.1 c.2.2.2.2.2.2.2.2.2.2.2)
@[irreducible] noncomputable def z6_3 := zc.1.1
@[irreducible] noncomputable def z6_4 := zc.1.2.1
@[irreducible] noncomputable def z6_7 := zc.1.2.2.1
@[irreducible] noncomputable def z6_8 := zc.1.2.2.2.1
@[irreducible] noncomputable def z6_9 := zc.1.2.2.2.2.1
@[irreducible] noncomputable def z6_10 := zc.1.2.2.2.2.2.1
@[irreducible] noncomputable def z6_23 := zc.1.2.2.2.2.2.2.1
@[irreducible] noncomputable def z6_33 := zc.1.2.2.2.2.2.2.2.1
@[irreducible] noncomputable def z6_44 := zc.1.2.2.2.2.2.2.2.2.1
@[irreducible] noncomputable def z6_47 := zc.1.2.2.2.2.2.2.2.2.2.1
@[irreducible] noncomputable def z6_54 := zc.1.2.2.2.2.2.2.2.2.2.2.1
@[irreducible] noncomputable def tkn := zc.1.2.2.2.2.2.2.2.2.2.2.2
noncomputable def zpart6 : { R : ((Heap) → (Addr) → (Heap) → (Nat) → Prop) // Hide (∀ z7_7 z7_8 z7_14 tkn, R z7_7 z7_8 z7_14 tkn) → zpart5.1 z6_3 z6_4 z6_7 z6_8 z6_9 z6_10 z6_23 z6_33 z6_44 z6_47 z6_54 tkn } := by
  refine' ⟨_, fun hP7 => ?main⟩
  case main =>
    intro X T hok z1_5 z1_6 z1_8 z1_9 z1_21 z1_42 z2_12 z4_8 z5_5 z5_6 z5_14 z5_20 z5_30 z5_36 z6_11 z6_12 z6_18 z6_22 z6_28 z6_39 z6_42 z6_51 z6_52 z6_53 z6_55 z6_56
    iterate 60 (first | (k_unfold; (try dsimp only)) | (k_end; wrow_close) | ((first | with_reducible ((with_reducible show wpAny _ _ (subscriptTail (Expr.Name ..) (Expr.Name ..) (Value.ref _) (Value.int ..)) _ _ _); k_here; (with_unfolding_all refine' item_litK ?k1x6 ?k2x6 ?k3x6 ?k4x6 ?_ ?k6x6; (case k1x6 => first | is_list | exact News.isList (by assumption) (by repeat (first | exact List.Mem.head _ | apply List.Mem.tail))); (case k2x6 => decide); (case k3x6 => decide); (case k4x6 => rfl); (case k6x6 => with_unfolding_all rfl); k_whole)) | walk1); (try ((with_reducible show wpAny _ _ (execs _ _) _ _ (Shared.mk _ _ _ (_ + 1) _)); refine tok_any ?_; intro tkn))) | (dsimp only; walk1) | (leave1; (try dsimp only)))
    rename_i z7_1 z7_2 z7_3 z7_4 z7_5 z7_6 z7_7 z7_8 z7_9 z7_10 z7_11 z7_12 z7_13 z7_14 z7_15 z7_16
    revert X T hok z1_6 z1_8 z1_9 z1_21 z1_42 z2_12 z4_8 z5_5 z5_6 z5_14 z5_20 z5_30 z5_36 z6_11 z6_12 z6_18 z6_22 z6_28 z6_39 z6_42 z6_51 z6_52 z6_53 z7_11 z7_12 z7_13 qk
      ek z7_15 z7_16
    exact hP7.out z7_7 z7_8 z7_14 tkn
namespace z7
noncomputable def zc := eps (α := (Heap) × (Addr) × (Heap) × (Nat)) ⟨{}, default, {}, default⟩ (fun c => zpart6.1 c.1 c.2.1 c.2.2.1 c.2.2.2)
@[irreducible] noncomputable def z7_7 := zc.1.1
@[irreducible] noncomputable def z7_8 := zc.1.2.1
@[irreducible] noncomputable def z7_14 := zc.1.2.2.1
@[irreducible] noncomputable def tkn := zc.1.2.2.2
noncomputable def zpart7 : { R : ((Nat) → (Nat) → Prop) // Hide (∀ z8_5 tkn, R z8_5 tkn) → zpart6.1 z7_7 z7_8 z7_14 tkn } := by
  refine' ⟨_, fun hP8 => ?main⟩
  case main =>
    intro X T hok z1_6 z1_8 z1_9 z1_21 z1_42 z2_12 z4_8 z5_5 z5_6 z5_14 z5_20 z5_30 z5_36 z6_11 z6_12 z6_18 z6_22 z6_28 z6_39 z6_42 z6_51 z6_52 z6_53 z7_11 z7_12 z7_13 qk
      ek z7_15 z7_16
    iterate 60 (first | (k_unfold; (try dsimp only)) | (k_end; wrow_close) | (walk1; (try ((with_reducible show wpAny _ _ (execs _ _) _ _ (Shared.mk _ _ _ (_ + 1) _)); refine tok_any ?_; intro tkn))) | (dsimp only; walk1) | (leave1; (try dsimp only)))
    rename_i z8_1 z8_2 z8_3 z8_4 z8_5
    revert X T hok z1_6 z1_8 z1_9 z1_21 z1_42 z2_12 z4_8 z5_5 z5_6 z5_14 z5_20 z5_30 z5_36 z6_11 z6_12 z6_18 z6_22 z6_28 z6_39 z6_42 z6_51 z6_52 z6_53 z7_11 z7_12 z7_13 qk
      ek z7_15 z7_16
    exact hP8.out z8_5 tkn
namespace z8
noncomputable def zc := eps (α := (Nat) × (Nat)) ⟨default, default⟩ (fun c => zpart7.1 c.1 c.2)
@[irreducible] noncomputable def z8_5 := zc.1.1
@[irreducible] noncomputable def tkn := zc.1.2
theorem zat : zpart7.1 z8_5 tkn := by
  intro X T hok z1_6 z1_8 z1_9 z1_21 z1_42 z2_12 z4_8 z5_5 z5_6 z5_14 z5_20 z5_30 z5_36 z6_11 z6_12 z6_18 z6_22 z6_28 z6_39 z6_42 z6_51 z6_52 z6_53 z7_11 z7_12 z7_13 qk
    ek z7_15 z7_16
  repeat' (first | (k_unfold; (try dsimp only)) | (k_end; wrow_close) | (walk1; (try ((with_reducible show wpAny _ _ (execs _ _) _ _ (Shared.mk _ _ _ (_ + 1) _)); refine tok_any ?_; intro tkn))) | (dsimp only; walk1) | (leave1; (try dsimp only)))
  refine' hok _ _ _ _ ?tk ?na ?nl _ _ (by assumption) (by assumption) (by assumption) (by assumption) ?z
  case z =>
   intro q hq
   repeat (first | exact hq | apply List.Mem.tail)
theorem zall : ∀ z8_5 tkn, zpart7.1 z8_5 tkn := fun z8_5 tkn => @epsH _ _ zc (by with_unfolding_all exact zat) (z8_5, tkn)
end z8
theorem zat : zpart6.1 z7_7 z7_8 z7_14 tkn := zpart7.2 ⟨z8.zall⟩
theorem zall : ∀ z7_7 z7_8 z7_14 tkn, zpart6.1 z7_7 z7_8 z7_14 tkn := fun z7_7 z7_8 z7_14 tkn => @epsH _ _ zc (by with_unfolding_all exact zat) (z7_7, z7_8, z7_14, tkn)
end z7
theorem zat : zpart5.1 z6_3 z6_4 z6_7 z6_8 z6_9 z6_10 z6_23 z6_33 z6_44 z6_47 z6_54 tkn := zpart6.2 ⟨z7.zall⟩
theorem zall : ∀ z6_3 z6_4 z6_7 z6_8 z6_9 z6_10 z6_23 z6_33 z6_44 z6_47 z6_54 tkn, zpart5.1 z6_3 z6_4 z6_7 z6_8 z6_9 z6_10 z6_23 z6_33 z6_44 z6_47 z6_54 tkn := fun z6_3 z6_4 z6_7 z6_8 z6_9 z6_10 z6_23 z6_33 z6_44 z6_47 z6_54 tkn => @epsH _ _ zc (by with_unfolding_all exact zat) (z6_3, z6_4, z6_7, z6_8, z6_9, z6_10, z6_23, z6_33, z6_44, z6_47, z6_54, tkn)
end z6
theorem zat : zpart4.1 z5_3 z5_15 z5_16 z5_24 z5_25 z5_31 z5_32 z5_38 tkn := zpart5.2 ⟨z6.zall⟩
theorem zall : ∀ z5_3 z5_15 z5_16 z5_24 z5_25 z5_31 z5_32 z5_38 tkn, zpart4.1 z5_3 z5_15 z5_16 z5_24 z5_25 z5_31 z5_32 z5_38 tkn := fun z5_3 z5_15 z5_16 z5_24 z5_25 z5_31 z5_32 z5_38 tkn => @epsH _ _ zc (by with_unfolding_all exact zat) (z5_3, z5_15, z5_16, z5_24, z5_25, z5_31, z5_32, z5_38, tkn)
end z5
theorem zat : zpart3.1 z4_3 z4_4 z4_5 tk z4_12 z4_16 tkn := zpart4.2 ⟨z5.zall⟩
theorem zall : ∀ z4_3 z4_4 z4_5 tk z4_12 z4_16 tkn, zpart3.1 z4_3 z4_4 z4_5 tk z4_12 z4_16 tkn := fun z4_3 z4_4 z4_5 tk z4_12 z4_16 tkn => @epsH _ _ zc (by with_unfolding_all exact zat) (z4_3, z4_4, z4_5, tk, z4_12, z4_16, tkn)
end z4
theorem zat : zpart2.1 tkn := zpart3.2 ⟨z4.zall⟩
theorem zall : ∀ tkn, zpart2.1 tkn := fun tkn => @epsH _ _ zc (by with_unfolding_all exact zat) tkn
end z3
theorem zat : zpart1.1 z2_7 z2_8 z2_14 tkn := zpart2.2 ⟨z3.zall⟩
theorem zall : ∀ z2_7 z2_8 z2_14 tkn, zpart1.1 z2_7 z2_8 z2_14 tkn := fun z2_7 z2_8 z2_14 tkn => @epsH _ _ zc (by with_unfolding_all exact zat) (z2_7, z2_8, z2_14, tkn)
end z2
theorem zat : zpart0.1 z1_1 z1_2 z1_11 z1_12 z1_17 z1_19 tk z1_23 z1_24 z1_27 z1_28 z1_29 z1_30 z1_33 z1_34 z1_35 z1_36 z1_37 z1_40 z1_43 z1_49 tkn := zpart1.2 ⟨z2.zall⟩
theorem zall : ∀ z1_1 z1_2 z1_11 z1_12 z1_17 z1_19 tk z1_23 z1_24 z1_27 z1_28 z1_29 z1_30 z1_33 z1_34 z1_35 z1_36 z1_37 z1_40 z1_43 z1_49 tkn, zpart0.1 z1_1 z1_2 z1_11 z1_12 z1_17 z1_19 tk z1_23 z1_24 z1_27 z1_28 z1_29 z1_30 z1_33 z1_34 z1_35 z1_36 z1_37 z1_40 z1_43 z1_49 tkn := fun z1_1 z1_2 z1_11 z1_12 z1_17 z1_19 tk z1_23 z1_24 z1_27 z1_28 z1_29 z1_30 z1_33 z1_34 z1_35 z1_36 z1_37 z1_40 z1_43 z1_49 tkn => @epsH _ _ zc (by with_unfolding_all exact zat) (z1_1, z1_2, z1_11, z1_12, z1_17, z1_19, tk, z1_23, z1_24, z1_27, z1_28, z1_29, z1_30, z1_33, z1_34, z1_35, z1_36, z1_37, z1_40, z1_43, z1_49, tkn)
end z1
theorem zat : zP w p loose mean mg mb rp ak lf t own cn cnm cmo a ccd cl outer A₀ base h₀ L m s asked left na nl x t1 t2 t3 t4 t5 t6 t7 bo o1 o2 hk hd lb nt rc rd fd rsl nb Q E := zpart0.2 ⟨z1.zall⟩
theorem zall : ∀ w p loose mean mg mb rp ak lf t own cn cnm cmo a ccd cl outer A₀ base h₀ L m s asked left na nl x t1 t2 t3 t4 t5 t6 t7 bo o1 o2 hk hd lb nt rc rd fd rsl nb Q E, zP w p loose mean mg mb rp ak lf t own cn cnm cmo a ccd cl outer A₀ base h₀ L m s asked left na nl x t1 t2 t3 t4 t5 t6 t7 bo o1 o2 hk hd lb nt rc rd fd rsl nb Q E := fun w p loose mean mg mb rp ak lf t own cn cnm cmo a ccd cl outer A₀ base h₀ L m s asked left na nl x t1 t2 t3 t4 t5 t6 t7 bo o1 o2 hk hd lb nt rc rd fd rsl nb Q E => @epsH _ _ zc (by with_unfolding_all exact zat) (w, p, loose, mean, mg, mb, rp, ak, lf, t, own, cn, cnm, cmo, a, ccd, cl, outer, A₀, base, h₀, L, m, s, asked, left, na, nl, x, t1, t2, t3, t4, t5, t6, t7, bo, o1, o2, hk, hd, lb, nt, rc, rd, fd, rsl, nb, Q, E)
end rowB
theorem rowB (w : World) {p : Program} {loose : List Str} {mean : ExcName → Option Value} {mg mb : Str → Option Value} (rp ak lf : Addr) (t own : List (Addr × Obj))
  (cn : Str) (cnm : List (Str × NameKind)) (cmo : List (Str × Const)) (a : Addr) (ccd : Value) (cl : List (Str × Addr)) (outer : List Env) (A₀ : Around) (base h₀ : Heap) (L : Addr) (m : Str → Option Value) (s : Shared)
    (asked : List (Str × Tok)) (left : List (Int × Tok)) (na nl : Nat) (x : Str) (t1 t2 t3 t4 t5 t6 t7 : Tok) (bo o1 o2 hk hd lb nt : Addr) (rc : Value) (rd : Option Addr) (fd : FuncData) (rsl : Array (Option Value)) (nb : Nat) (Q E : Value → Shared → Prop)
    (B : Below A₀ base outer h₀) (F : Fr h₀ L s.heap m) (X : (kdef.heap_1 w.params).In h₀) (T : Top p loose mean mg mb h₀)
    (N : News h₀ L s.heap ((ak, W.listOf (asked.map strV).toArray na) :: (lf, W.listOf (left.map intV).toArray nl) :: (bo, W.listOf #[.ref o1, .ref o2] nb) :: (o1, tup [.str (Str.ofString "CALL") t1, .str x t2, .int 0 t6, .bool false]) :: (o2, tup [.str (Str.ofString "DROP") t7]) :: (hk, hooksO hd) :: (hd, hooksD w.params t3 t4 t5 rp lb nt) :: (rp, ⟨rc, rd, .func fd, rsl⟩) :: own))
    (R : RepOk w p loose mean mg mb rp ak lf t) (hsub : ∀ q ∈ t, q ∈ own) (hak : ∀ p ∈ own, p.1 ≠ ak) (hlf : ∀ p ∈ own, p.1 ≠ lf) (hta : ∀ q ∈ t, q.1 ≠ ak) (htl : ∀ q ∈ t, q.1 ≠ lf) (hne : @Ne Nat ak lf) (hal : asked.length ≤ 1000) (hll : left.length ≤ 1000) (hwx : (Str.ofString "call" ++ x).length ≤ 1000)
    (hka : @Ne Nat bo ak ∧ @Ne Nat o1 ak ∧ @Ne Nat o2 ak ∧ @Ne Nat hk ak ∧ @Ne Nat hd ak ∧ @Ne Nat rp ak) (hkl : @Ne Nat bo lf ∧ @Ne Nat o1 lf ∧ @Ne Nat o2 lf ∧ @Ne Nat hk lf ∧ @Ne Nat hd lf ∧ @Ne Nat rp lf)
    (hok : ∀ b r h' tk' tk₁ na' nl' wk led, left = b :: r → b.1 = 1 → Fr h₀ L h' m → News h₀ L h' led → (∀ q, q ∈ (ak, W.listOf ((asked ++ [(Str.ofString "call" ++ x, tk₁)]).map strV).toArray na') :: (lf, W.listOf (r.map intV).toArray nl') :: (bo, W.listOf #[.ref o1, .ref o2] nb) :: (o1, tup [.str (Str.ofString "CALL") t1, .str x t2, .int 0 t6, .bool false]) :: (o2, tup [.str (Str.ofString "DROP") t7]) :: (hk, hooksO hd) :: (hd, hooksD w.params t3 t4 t5 rp lb nt) :: (rp, ⟨rc, rd, .func fd, rsl⟩) :: own → q ∈ led) → Q (.ref wk) { s with heap := h', toks := tk' })
    (hfail : ∀ b r h' tk' tk₁ na' nl' led, left = b :: r → b.1 ≠ 1 → Fr h₀ L h' m → News h₀ L h' led → (∀ q, q ∈ (ak, W.listOf ((asked ++ [(Str.ofString "call" ++ x, tk₁)]).map strV).toArray na') :: (lf, W.listOf (r.map intV).toArray nl') :: (bo, W.listOf #[.ref o1, .ref o2] nb) :: (o1, tup [.str (Str.ofString "CALL") t1, .str x t2, .int 0 t6, .bool false]) :: (o2, tup [.str (Str.ofString "DROP") t7]) :: (hk, hooksO hd) :: (hd, hooksD w.params t3 t4 t5 rp lb nt) :: (rp, ⟨rc, rd, .func fd, rsl⟩) :: own → q ∈ led) → Q .none { s with heap := h', toks := tk' })
    (hthrow : ∀ g' h' tk' tk₁ na' e dx od tk₂ tv led, left = [] → Fr h₀ L g' m → Thrown base g' (CE cn cnm cmo L a ccd cl :: outer) e dx led h' → (∀ q, q ∈ (dx, od) :: (ak, W.listOf ((asked ++ [(Str.ofString "call" ++ x, tk₁)]).map strV).toArray na') :: (lf, W.listOf #[] nl) :: (bo, W.listOf #[.ref o1, .ref o2] nb) :: (o1, tup [.str (Str.ofString "CALL") t1, .str x t2, .int 0 t6, .bool false]) :: (o2, tup [.str (Str.ofString "DROP") t7]) :: (hk, hooksO hd) :: (hd, hooksD w.params t3 t4 t5 rp lb nt) :: (rp, ⟨rc, rd, .func fd, rsl⟩) :: own → q ∈ led) → g'.UpToSlots h' → NsO od (excMap 99 tk₂ tv) → E (.ref e) { s with heap := h', toks := tk' }) : wpAny (model PG w) (CT 560 4600 cn cnm cmo L a ccd cl outer) (call (.ref 254) [.ref bo, .ref hk]) Q E s := rowB.zall w p loose mean mg mb rp ak lf t own cn cnm cmo a ccd cl outer A₀ base h₀ L m s asked left na nl x t1 t2 t3 t4 t5 t6 t7 bo o1 o2 hk hd lb nt rc rd fd rsl nb Q E B F X T N R hsub hak hlf hta htl hne hal hll hwx hka hkl hok hfail hthrow
end
example : True := by w_top off; (try walk1); trivial
section
open PySem PySem.W PyProof.Rows PySem.Calls PySem.Spec
set_option Elab.async false
set_option maxRecDepth 100000
set_option maxHeartbeats 8000000
example : kdef.heap_1 = kdef.heap_1 ∧ PySem.Challenge.rw_xm0939_01 = PySem.Challenge.rw_xm0939_01 := by
  k_fill
  exact ⟨rfl, rfl⟩



structure LabO (w : World) (lobj : Obj) (x : Str) (ta : Addr) : Prop where
  map : ∀ (h : Heap) (a : Addr), h.get? a = some lobj → ∃ f, h.MapOf (strKind PG w) a f ∧ f x = some (.ref ta)
section
variable {w : World} {A : Around} {E : Value → Shared → Prop} {s : Shared} {Q : Value → Shared → Prop} {h₀ : Heap} {L lb ta : Addr} {news : List (Addr × Obj)} {lobj : Obj} {x : Str} {t : Tok}
theorem lab_in (LB : LabO w lobj x ta) (N : News h₀ L s.heap news) (hm : (lb, lobj) ∈ news) (hd : (lb == sysModules) = false) (h : Q (.bool true) { s with toks := s.toks + 1 }) :
    wpAny (model PG w) A (compareOp .In (.str x t) (.ref lb)) Q E s := by
  refine cps fun zG zk => ?_
  obtain ⟨f, hf, hx⟩ := LB.map _ _ (N _ hm).1
  refine zk ?_
  clear zk zG
  exact wpAny_in_of (strKind_is _ _ _ _) hd hf (by rw [hx]; exact h)
theorem lab_get (LB : LabO w lobj x ta) (N : News h₀ L s.heap news) (hm : (lb, lobj) ∈ news) (h : Q (.ref ta) { s with toks := s.toks + 1 }) :
    wpAny (model PG w) A (getItem (.ref lb) (.str x t)) Q E s := by
  refine cps fun zG zk => ?_
  obtain ⟨f, hf, hx⟩ := LB.map _ _ (N _ hm).1
  refine zk ?_
  clear zk zG
  exact wpAny_getItem_of (strKind_is _ _ _ _) hf hx h
theorem lab_tail {value slice : Expr} (LB : LabO w lobj x ta) (N : News h₀ L s.heap news) (hm : (lb, lobj) ∈ news) (h : Q (.ref ta) { s with toks := s.toks + 1 })
    (hs : subscripted slice false (.ref lb) (.str x t) = operate [.ref lb, .str x t] (getItem (.ref lb) (.str x t)) := by with_unfolding_all rfl) : wpAny (model PG w) A (subscriptTail value slice (.ref lb) (.str x t)) Q E s := by
  refine cps fun zG zk => ?_
  obtain ⟨f, hf, hx⟩ := LB.map _ _ (N _ hm).1
  refine zk ?_
  clear zk zG
  exact tail_any hf.typeIs slot_dict_getitem.lookup (wpAny_getItem_of (strKind_is _ _ _ _) hf hx h) hs
end
namespace goalC
def zP (w : World) (p : Program) (loose : List Str) (mean : ExcName → Option Value) (mg : Str → Option Value) (mb : Str → Option Value) (own : List (Addr × Obj)) (cn : Str) (cnm : List (Str × NameKind)) (cmo : List (Str × Const)) (a : Addr) (ccd : Value) (cl : List (Str × Addr)) (outer : List Env) (A₀ : Around) (base : Heap) (h₀ : Heap) (L : Addr) (m : Str → Option Value) (s : Shared) (x : Str) (t1 : Tok) (t2 : Tok) (t3 : Tok) (t4 : Tok) (t5 : Tok) (t6 : Tok) (ro : Addr) (o1 : Addr) (hk : Addr) (hd : Addr) (lb : Addr) (nt : Addr) (ta : Addr) (un : Addr) (rp : Addr) (k : Int) (lobj : Obj) (nb : Nat) (Q : Value → Shared → Prop) (E : Value → Shared → Prop) : Prop := ∀ (B : Below A₀ base outer h₀) (F : Fr h₀ L s.heap m) (X : (kdef.heap_1 w.params).In h₀) (T : Top p loose mean mg mb h₀) (N : News h₀ L s.heap ((ro, W.listOf #[.ref o1] nb) :: (o1, tup [.str (Str.ofString "LABEL") t1, .str x t2]) :: (hk, hooksO hd) :: (hd, hooksD w.params t3 t4 t5 rp lb nt) :: (lb, lobj) :: (ta, tup [.ref un, .int k t6]) :: own)) (LB : LabO w lobj x ta) (hsys : (lb == sysModules) = false) (hok : ∀ r h' tk' ti ts led, Fr h₀ L h' m → News h₀ L h' led → (∀ q, q ∈ (r, tup [.str (Str.ofString "at") ts, .ref un, .int k ti]) :: (ro, W.listOf #[.ref o1] nb) :: (o1, tup [.str (Str.ofString "LABEL") t1, .str x t2]) :: (hk, hooksO hd) :: (hd, hooksD w.params t3 t4 t5 rp lb nt) :: (lb, lobj) :: (ta, tup [.ref un, .int k t6]) :: own → q ∈ led) → Q (.ref r) { s with heap := h', toks := tk' }),
  wpAny (model PG w) (CT 560 4600 cn cnm cmo L a ccd cl outer) (call (.ref 289) [.ref ro, .ref hk]) Q E s
noncomputable def zc := eps (α := (World) × (Program) × (List Str) × (ExcName → Option Value) × (Str → Option Value) × (Str → Option Value) × (List (Addr × Obj)) × (Str) × (List (Str × NameKind)) × (List (Str × Const)) × (Addr) × (Value) × (List (Str × Addr)) × (List Env) × (Around) × (Heap) × (Heap) × (Addr) × (Str → Option Value) × (Shared) × (Str) × (Tok) × (Tok) × (Tok) × (Tok) × (Tok) × (Tok) × (Addr) × (Addr) × (Addr) × (Addr) × (Addr) × (Addr) × (Addr) × (Addr) × (Addr) × (Int) × (Obj) × (Nat) × (Value → Shared → Prop) × (Value → Shared → Prop)) ⟨world0, default, default, (fun _ => default), (fun _ => default), (fun _ => default), default, default, default, default, default, default, default, default, {}, {}, {}, default, (fun _ => default), {}, default, default, default, default, default, default, default, default, default, default, default, default, default, default, default, default, default, default, default, (fun _ _ => True), (fun _ _ => True)⟩ (fun c => zP c.1 c.2.1 c.2.2.1 c.2.2.2.1 c.2.2.2.2.1 c.2.2.2.2.2.1 c.2.2.2.2.2.2.1 c.2.2.2.2.2.2.2.1 c.2.2.2.2.2.2.2.2.1 c.2.2.2.2.2.2.2.2.2.1 c.2.2.2.2.2.2.2.2.2.2.1 c.2.2.2.2.2.2.2.2.2.2.2.1 c.2.2.2.2.2.2.2.2.2.2.2.2.1 c.2.2.2.2.2.2.2.2.2.2.2.2.2.1 c.2.2.2.2.2.2.2.2.2.2.2.2.2.2.1 c.2.2.2.2.2.2.2.2.2.2.2.2.2.2.2.1 c.2.2.2.2.2.2.2.2.2.2.2.2.2.2.2.2.1 c.2.2.2.2.2.2.2.2.2.2.2.2.2.2.2.2.2.1 c.2.2.2.2.2.2.2.2.2.2.2.2.2.2.2.2.2.2.1 c.2.2.2.2.2.2.2.2.2.2.2.2.2.2.2.2.2.2.2.1 c.2.2.2.2.2.2.2.2.2.2.2.2.2.2.2.2.2.2.2.2.1 c.2.2.2.2.2.2.2.2.2.2.2.2.2.2.2.2.2.2.2.2.2.1 c.2.2.2.2.2.2.2.2.2.2.2.2.2.2.2.2.2.2.2.2.2.2.1 c.2.2.2.2.2.2.2.2.2.2.2.2.2.2.2.2.2.2.2.2.2.2.2.1 c.2.2.2.2.2.2.2.2.2.2.2.2.2.2.2.2.2.2.2.2.2.2.2.2.1 c.2.2.2.2.2.2.2.2.2.2.2.2.2.2.2.2.2.2.2.2.2.2.2.2.2.1 c.2.2.2.2.2.2.2.2.2.2.2.2.2.2.2.2.2.2.2.2.2.2.2.2.2.2.1 c.2.2.2.2.2.2.2.2.2.2.2.2.2.2.2.2.2.2.2.2.2.2.2.2.2.2.2.1 c.2.2.2.2.2.2.2.2.2.2.2.2.2.2.2.2.2.2.2.2.2.2.2.2.2.2.2.2.1 c.2.2.2.2.2.2.2.2.2.2.2.2.2.2.2.2.2.2.2.2.2.2.2.2.2.2.2.2.2.1 c.2.2.2.2.2.2.2.2.2.2.2.2.2.2.2.2.2.2.2.2.2.2.2.2.2.2.2.2.2.2.1 c.2.2.2.2.2.2.2.2.2.2.2.2.2.2.2.2.2.2.2.2.2.2.2.2.2.2.2.2.2.2.2.1 c.2.2.2.2.2.2.2.2.2.2.2.2.2.2.2.2.2.2.2.2.2.2.2.2.2.2.2.2.2.2.2.2.1 c.2.2.2.2.2.2.2.2.2.2.2.2.2.2.2.2.2.2.2.2.2.2.2.2.2.2.2.2.2.2.2.2.2.1 c.2.2.2.2.2.2.2.2.2.2.2.2.2.2.2.2.2.2.2.2.2.2.2.2.2.2.2.2.2.2.2.2.2.2.1 c.2.2.2.2.2.2.2.2.2.2.2.2.2.2.2.2.2.2.2.2.2.2.2.2.2.2.2.2.2.2.2.2.2.2.2.1 c.2.2.2.2.2.2.2.2.2.2.2.2.2.2.2.2.2.2.2.2.2.2.2.2.2.2.2.2.2.2.2.2.2.2.2.2.1 c.2.2.2.2.2.2.2.2.2.2.2.2.2.2.2.2.2.2.2.2.2.2.2.2.2.2.2.2.2.2.2.2.2.2.2.2.2.1 c.2.2.2.2.2.2.2.2.2.2.2.2.2.2.2.2.2.2.2.2.2.2.2.2.2.2.2.2.2.2.2.2.2.2.2.2.2.2.1 c.2.2.2.2.2.2.2.2.2.2.2.2.2.2.2.2.2.2.2.2.2.2.2.2.2.2.2.2.2.2.2.2.2.2.2.2.2.2.2.1 c.2.2.2.2.2.2.2.2.2.2.2.2.2.2.2.2.2.2.2.2.2.2.2.2.2.2.2.2.2.2.2.2.2.2.2.2.2.2.2.2)
@[irreducible] noncomputable def w := zc.1.1
@[irreducible] noncomputable def p := zc.1.2.1
@[irreducible] noncomputable def loose := zc.1.2.2.1
@[irreducible] noncomputable def mean := zc.1.2.2.2.1
@[irreducible] noncomputable def mg := zc.1.2.2.2.2.1
@[irreducible] noncomputable def mb := zc.1.2.2.2.2.2.1
@[irreducible] noncomputable def own := zc.1.2.2.2.2.2.2.1
@[irreducible] noncomputable def cn := zc.1.2.2.2.2.2.2.2.1
@[irreducible] noncomputable def cnm := zc.1.2.2.2.2.2.2.2.2.1
@[irreducible] noncomputable def cmo := zc.1.2.2.2.2.2.2.2.2.2.1
@[irreducible] noncomputable def a := zc.1.2.2.2.2.2.2.2.2.2.2.1
@[irreducible] noncomputable def ccd := zc.1.2.2.2.2.2.2.2.2.2.2.2.1
@[irreducible] noncomputable def cl := zc.1.2.2.2.2.2.2.2.2.2.2.2.2.1
@[irreducible] noncomputable def outer := zc.1.2.2.2.2.2.2.2.2.2.2.2.2.2.1
@[irreducible] noncomputable def A₀ := zc.1.2.2.2.2.2.2.2.2.2.2.2.2.2.2.1
@[irreducible] noncomputable def base := zc.1.2.2.2.2.2.2.2.2.2.2.2.2.2.2.2.1
@[irreducible] noncomputable def h₀ := zc.1.2.2.2.2.2.2.2.2.2.2.2.2.2.2.2.2.1
@[irreducible] noncomputable def L := zc.1.2.2.2.2.2.2.2.2.2.2.2.2.2.2.2.2.2.1
@[irreducible] noncomputable def m := zc.1.2.2.2.2.2.2.2.2.2.2.2.2.2.2.2.2.2.2.1
@[irreducible] noncomputable def s := zc.1.2.2.2.2.2.2.2.2.2.2.2.2.2.2.2.2.2.2.2.1
@[irreducible] noncomputable def x := zc.1.2.2.2.2.2.2.2.2.2.2.2.2.2.2.2.2.2.2.2.2.1
@[irreducible] noncomputable def t1 := zc.1.2.2.2.2.2.2.2.2.2.2.2.2.2.2.2.2.2.2.2.2.2.1
@[irreducible] noncomputable def t2 := zc.1.2.2.2.2.2.2.2.2.2.2.2.2.2.2.2.2.2.2.2.2.2.2.1
@[irreducible] noncomputable def t3 := zc.1.2.2.2.2.2.2.2.2.2.2.2.2.2.2.2.2.2.2.2.2.2.2.2.1
@[irreducible] noncomputable def t4 := zc.1.2.2.2.2.2.2.2.2.2.2.2.2.2.2.2.2.2.2.2.2.2.2.2.2.1
@[irreducible] noncomputable def t5 := zc.1.2.2.2.2.2.2.2.2.2.2.2.2.2.2.2.2.2.2.2.2.2.2.2.2.2.1
@[irreducible] noncomputable def t6 := zc.1.2.2.2.2.2.2.2.2.2.2.2.2.2.2.2.2.2.2.2.2.2.2.2.2.2.2.1
@[irreducible] noncomputable def ro := zc.1.2.2.2.2.2.2.2.2.2.2.2.2.2.2.2.2.2.2.2.2.2.2.2.2.2.2.2.1
@[irreducible] noncomputable def o1 := zc.1.2.2.2.2.2.2.2.2.2.2.2.2.2.2.2.2.2.2.2.2.2.2.2.2.2.2.2.2.1
@[irreducible] noncomputable def hk := zc.1.2.2.2.2.2.2.2.2.2.2.2.2.2.2.2.2.2.2.2.2.2.2.2.2.2.2.2.2.2.1
@[irreducible] noncomputable def hd := zc.1.2.2.2.2.2.2.2.2.2.2.2.2.2.2.2.2.2.2.2.2.2.2.2.2.2.2.2.2.2.2.1
@[irreducible] noncomputable def lb := zc.1.2.2.2.2.2.2.2.2.2.2.2.2.2.2.2.2.2.2.2.2.2.2.2.2.2.2.2.2.2.2.2.1
@[irreducible] noncomputable def nt := zc.1.2.2.2.2.2.2.2.2.2.2.2.2.2.2.2.2.2.2.2.2.2.2.2.2.2.2.2.2.2.2.2.2.1
@[irreducible] noncomputable def ta := zc.1.2.2.2.2.2.2.2.2.2.2.2.2.2.2.2.2.2.2.2.2.2.2.2.2.2.2.2.2.2.2.2.2.2.1
@[irreducible] noncomputable def un := zc.1.2.2.2.2.2.2.2.2.2.2.2.2.2.2.2.2.2.2.2.2.2.2.2.2.2.2.2.2.2.2.2.2.2.2.1
@[irreducible] noncomputable def rp := zc.1.2.2.2.2.2.2.2.2.2.2.2.2.2.2.2.2.2.2.2.2.2.2.2.2.2.2.2.2.2.2.2.2.2.2.2.1
@[irreducible] noncomputable def k := zc.1.2.2.2.2.2.2.2.2.2.2.2.2.2.2.2.2.2.2.2.2.2.2.2.2.2.2.2.2.2.2.2.2.2.2.2.2.1
@[irreducible] noncomputable def lobj := zc.1.2.2.2.2.2.2.2.2.2.2.2.2.2.2.2.2.2.2.2.2.2.2.2.2.2.2.2.2.2.2.2.2.2.2.2.2.2.1
@[irreducible] noncomputable def nb := zc.1.2.2.2.2.2.2.2.2.2.2.2.2.2.2.2.2.2.2.2.2.2.2.2.2.2.2.2.2.2.2.2.2.2.2.2.2.2.2.1
@[irreducible] noncomputable def Q := zc.1.2.2.2.2.2.2.2.2.2.2.2.2.2.2.2.2.2.2.2.2.2.2.2.2.2.2.2.2.2.2.2.2.2.2.2.2.2.2.2.1
@[irreducible] noncomputable def E := zc.1.2.2.2.2.2.2.2.2.2.2.2.2.2.2.2.2.2.2.2.2.2.2.2.2.2.2.2.2.2.2.2.2.2.2.2.2.2.2.2.2
noncomputable def zpart0 : { R : ((Heap) → (Addr) → (Heap) → (Addr) → (Addr) → (Addr) → (Heap) → (Heap) → (Nat) → (Addr) → (Heap) → (Heap) → (Nat) → (Addr) → (Heap) → (Heap) → (Nat) → (Heap) → (Nat) → (Heap) → (Nat) → (Addr) → (Heap) → (Nat) → Prop) // Hide (∀ z1_1 z1_2 z1_13 z1_14 z1_23 z1_24 z1_29 z1_31 tk z1_35 z1_36 z1_39 z1_40 z1_41 z1_42 z1_45 z1_46 z1_47 z1_48 z1_49 z1_52 z1_55 z1_61 tkn, R z1_1 z1_2 z1_13 z1_14 z1_23 z1_24 z1_29 z1_31 tk z1_35 z1_36 z1_39 z1_40 z1_41 z1_42 z1_45 z1_46 z1_47 z1_48 z1_49 z1_52 z1_55 z1_61 tkn) → zP w p loose mean mg mb own cn cnm cmo a ccd cl outer A₀ base h₀ L m s x t1 t2 t3 t4 t5 t6 ro o1 hk hd lb nt ta un rp k lobj nb Q E } := by
  refine' ⟨_, fun hP1 => ?main⟩
  case main =>
    intro B F X T N LB hsys hok
    w_on
    iterate 65 (first | (k_unfold; (try dsimp only)) | (k_end; wrow_close) | (walk1; (try ((with_reducible show wpAny _ _ (execs _ _) _ _ (Shared.mk _ _ _ (_ + 1) _)); refine tok_any ?_; intro tkn))) | (dsimp only; walk1) | (leave1; (try dsimp only)))
    rename_i z1_1 z1_2 z1_3 z1_4 z1_5 z1_6 z1_7 z1_8 z1_9 z1_10 z1_11 z1_12 z1_13 z1_14 z1_15 z1_16 z1_17 z1_18 z1_19 z1_20 z1_21 z1_22 z1_23 z1_24 z1_25 z1_26 z1_27 z1_28
      z1_29 z1_30 z1_31 z1_32 z1_33 z1_34 z1_35 z1_36 z1_37 z1_38 z1_39 z1_40 z1_41 z1_42 z1_43 z1_44 z1_45 z1_46 z1_47 z1_48 z1_49 z1_50 z1_51 z1_52 z1_53 z1_54 z1_55
      z1_56 z1_57 z1_58 z1_59 z1_60 z1_61 z1_62 z1_63
    ((try clear ek); (try clear qk))
    revert X T LB hsys hok z1_7 z1_8 z1_9 z1_10 z1_11 z1_17 z1_18 z1_20 z1_21 z1_26 z1_27 z1_28 z1_33 z1_38 z1_44 z1_53 z1_54 z1_58 z1_62 z1_63
    exact hP1.out z1_1 z1_2 z1_13 z1_14 z1_23 z1_24 z1_29 z1_31 tk z1_35 z1_36 z1_39 z1_40 z1_41 z1_42 z1_45 z1_46 z1_47 z1_48 z1_49 z1_52 z1_55 z1_61 tkn
namespace z1
noncomputable def zc := eps (α := (Heap) × (Addr) × (Heap) × (Addr) × (Addr) × (Addr) × (Heap) × (Heap) × (Nat) × (Addr) × (Heap) × (Heap) × (Nat) × (Addr) × (Heap) × (Heap) × (Nat) × (Heap) × (Nat) × (Heap) × (Nat) × (Addr) × (Heap) × (Nat)) ⟨{}, default, {}, default, default, default, {}, {}, default, default, {}, {}, default, default, {}, {}, default, {}, default, {}, default, default, {}, default⟩ (fun c => zpart0.1 c.1 c.2.1 c.2.2.1 c.2.2.2.1 c.2.2.2.2.1 c.2.2.2.2.2.1 c.2.2.2.2.2.2.1 c.2.2.2.2.2.2.2.1 c.2.2.2.2.2.2.2.2.1 c.2.2.2.2.2.2.2.2.2.1 c.2.2.2.2.2.2.2.2.2.2.1 c.2.2.2.2.2.2.2.2.2.2.2.1 c.2.2.2.2.2.2.2.2.2.2.2.2.1 c.2.2.2.2.2.2.2.2.2.2.2.2.2.1 c.2.2.2.2.2.2.2.2.2.2.2.2.2.2.1 c.2.2.2.2.2.2.2.2.2.2.2.2.2.2.2.1 c.2.2.2.2.2.2.2.2.2.2.2.2.2.2.2.2.1 c.2.2.2.2.2.2.2.2.2.2.2.2.2.2.2.2.2.1 c.2.2.2.2.2.2.2.2.2.2.2.2.2.2.2.2.2.2.1 c.2.2.2.2.2.2.2.2.2.2.2.2.2.2.2.2.2.2.2.1 c.2.2.2.2.2.2.2.2.2.2.2.2.2.2.2.2.2.2.2.2.1 c.2.2.2.2.2.2.2.2.2.2.2.2.2.2.2.2.2.2.2.2.2.1 c.2.2.2.2.2.2.2.2.2.2.2.2.2.2.2.2.2.2.2.2.2.2.1 c.2.2.2.2.2.2.2.2.2.2.2.2.2.2.2.2.2.2.2.2.2.2.2)
@[irreducible] noncomputable def z1_1 := zc.1.1
@[irreducible] noncomputable def z1_2 := zc.1.2.1
@[irreducible] noncomputable def z1_13 := zc.1.2.2.1
@[irreducible] noncomputable def z1_14 := zc.1.2.2.2.1
@[irreducible] noncomputable def z1_23 := zc.1.2.2.2.2.1
@[irreducible] noncomputable def z1_24 := zc.1.2.2.2.2.2.1
@[irreducible] noncomputable def z1_29 := zc.1.2.2.2.2.2.2.1
@[irreducible] noncomputable def z1_31 := zc.1.2.2.2.2.2.2.2.1
@[irreducible] noncomputable def tk := zc.1.2.2.2.2.2.2.2.2.1
@[irreducible] noncomputable def z1_35 := zc.1.2.2.2.2.2.2.2.2.2.1
@[irreducible] noncomputable def z1_36 := zc.1.2.2.2.2.2.2.2.2.2.2.1
@[irreducible] noncomputable def z1_39 := zc.1.2.2.2.2.2.2.2.2.2.2.2.1
@[irreducible] noncomputable def z1_40 := zc.1.2.2.2.2.2.2.2.2.2.2.2.2.1
@[irreducible] noncomputable def z1_41 := zc.1.2.2.2.2.2.2.2.2.2.2.2.2.2.1
@[irreducible] noncomputable def z1_42 := zc.1.2.2.2.2.2.2.2.2.2.2.2.2.2.2.1
@[irreducible] noncomputable def z1_45 := zc.1.2.2.2.2.2.2.2.2.2.2.2.2.2.2.2.1
@[irreducible] noncomputable def z1_46 := zc.1.2.2.2.2.2.2.2.2.2.2.2.2.2.2.2.2.1
@[irreducible] noncomputable def z1_47 := zc.1.2.2.2.2.2.2.2.2.2.2.2.2.2.2.2.2.2.1
@[irreducible] noncomputable def z1_48 := zc.1.2.2.2.2.2.2.2.2.2.2.2.2.2.2.2.2.2.2.1
@[irreducible] noncomputable def z1_49 := zc.1.2.2.2.2.2.2.2.2.2.2.2.2.2.2.2.2.2.2.2.1
@[irreducible] noncomputable def z1_52 := zc.1.2.2.2.2.2.2.2.2.2.2.2.2.2.2.2.2.2.2.2.2.1
@[irreducible] noncomputable def z1_55 := zc.1.2.2.2.2.2.2.2.2.2.2.2.2.2.2.2.2.2.2.2.2.2.1
@[irreducible] noncomputable def z1_61 := zc.1.2.2.2.2.2.2.2.2.2.2.2.2.2.2.2.2.2.2.2.2.2.2.1
@[irreducible] noncomputable def tkn := zc.1.2.2.2.2.2.2.2.2.2.2.2.2.2.2.2.2.2.2.2.2.2.2.2
noncomputable def zpart1 : { R : ((Heap) → (Addr) → (Heap) → (Nat) → Prop) // Hide (∀ z2_7 z2_8 z2_14 tkn, R z2_7 z2_8 z2_14 tkn) → zpart0.1 z1_1 z1_2 z1_13 z1_14 z1_23 z1_24 z1_29 z1_31 tk z1_35 z1_36 z1_39 z1_40 z1_41 z1_42 z1_45 z1_46 z1_47 z1_48 z1_49 z1_52 z1_55 z1_61 tkn } := by
  refine' ⟨_, fun hP2 => ?main⟩
  case main =>
    intro X T LB hsys hok z1_7 z1_8 z1_9 z1_10 z1_11 z1_17 z1_18 z1_20 z1_21 z1_26 z1_27 z1_28 z1_33 z1_38 z1_44 z1_53 z1_54 z1_58 z1_62 z1_63
    iterate 65 (first | (k_unfold; (try dsimp only)) | (k_end; wrow_close) | ((first | with_reducible ((with_reducible show wpAny _ _ (subscriptTail (Expr.Name ..) (Expr.Name ..) (Value.ref _) (Value.int ..)) _ _ _); k_here; (with_unfolding_all refine' item_litK ?k1x7 ?k2x7 ?k3x7 ?k4x7 ?_ ?k6x7; (case k1x7 => first | is_list | exact News.isList (by assumption) (by repeat (first | exact List.Mem.head _ | apply List.Mem.tail))); (case k2x7 => decide); (case k3x7 => decide); (case k4x7 => rfl); (case k6x7 => with_unfolding_all rfl); k_whole)) | walk1); (try ((with_reducible show wpAny _ _ (execs _ _) _ _ (Shared.mk _ _ _ (_ + 1) _)); refine tok_any ?_; intro tkn))) | (dsimp only; walk1) | (leave1; (try dsimp only)))
    rename_i z2_1 z2_2 z2_3 z2_4 z2_5 z2_6 z2_7 z2_8 z2_9 z2_10 z2_11 z2_12 z2_13 z2_14 z2_15 z2_16 z2_17
    revert X T LB hsys hok z1_7 z1_8 z1_9 z1_10 z1_11 z1_18 z1_20 z1_21 z1_26 z1_27 z1_28 z1_33 z1_38 z1_44 z1_53 z1_54 z1_58 z2_11 z2_12 z2_13 qk ek z2_15 z2_16
    exact hP2.out z2_7 z2_8 z2_14 tkn
namespace z2
noncomputable def zc := eps (α := (Heap) × (Addr) × (Heap) × (Nat)) ⟨{}, default, {}, default⟩ (fun c => zpart1.1 c.1 c.2.1 c.2.2.1 c.2.2.2)
@[irreducible] noncomputable def z2_7 := zc.1.1
@[irreducible] noncomputable def z2_8 := zc.1.2.1
@[irreducible] noncomputable def z2_14 := zc.1.2.2.1
@[irreducible] noncomputable def tkn := zc.1.2.2.2
noncomputable def zpart2 : { R : ((Nat) → Prop) // Hide (∀ tkn, R tkn) → zpart1.1 z2_7 z2_8 z2_14 tkn } := by
  refine' ⟨_, fun hP3 => ?main⟩
  case main =>
    intro X T LB hsys hok z1_7 z1_8 z1_9 z1_10 z1_11 z1_18 z1_20 z1_21 z1_26 z1_27 z1_28 z1_33 z1_38 z1_44 z1_53 z1_54 z1_58 z2_11 z2_12 z2_13 qk ek z2_15 z2_16
    iterate 65 (first | (k_unfold; (try dsimp only)) | (k_end; wrow_close) | (walk1; (try ((with_reducible show wpAny _ _ (execs _ _) _ _ (Shared.mk _ _ _ (_ + 1) _)); refine tok_any ?_; intro tkn))) | (dsimp only; walk1) | (leave1; (try dsimp only)))
    rename_i z3_1 z3_2 z3_3 z3_4 z3_5
    revert X T LB hsys hok z1_7 z1_8 z1_9 z1_10 z1_11 z1_18 z1_20 z1_21 z1_26 z1_27 z1_28 z1_33 z1_38 z1_44 z1_53 z1_54 z1_58 z2_11 z2_12 z2_13 qk ek z2_15 z2_16
    exact hP3.out tkn
namespace z3
noncomputable def zc := eps (α := (Nat)) ⟨default⟩ zpart2.1
@[irreducible] noncomputable def tkn := zc.1
noncomputable def zpart3 : { R : ((Addr) → (Heap) → (Nat) → (Addr) → (Heap) → (Nat) → (Addr) → (Heap) → (Addr) → (Heap) → (Nat) → Prop) // Hide (∀ z4_3 z4_4 z4_7 z4_8 z4_9 z4_12 z4_13 z4_19 z4_20 z4_21 tk, R z4_3 z4_4 z4_7 z4_8 z4_9 z4_12 z4_13 z4_19 z4_20 z4_21 tk) → zpart2.1 tkn } := by
  refine' ⟨_, fun hP4 => ?main⟩
  case main =>
    intro X T LB hsys hok z1_7 z1_8 z1_9 z1_10 z1_11 z1_18 z1_20 z1_21 z1_26 z1_27 z1_28 z1_33 z1_38 z1_44 z1_53 z1_54 z1_58 z2_11 z2_12 z2_13 qk ek z2_15 z2_16
    iterate 65 (first | (k_unfold; (try dsimp only)) | (k_end; wrow_close) | (walk1; (try ((with_reducible show wpAny _ _ (execs _ _) _ _ (Shared.mk _ _ _ (_ + 1) _)); refine tok_any ?_; intro tkn))) | (dsimp only; walk1) | (leave1; (try dsimp only)))
    rename_i z4_1 z4_2 z4_3 z4_4 z4_5 z4_6 z4_7 z4_8 z4_9 z4_10 z4_11 z4_12 z4_13 z4_14 z4_15 z4_16 z4_17 z4_18 z4_19 z4_20 z4_21 z4_22 z4_23 z4_24 z4_25 z4_26 z4_27
    revert X T LB hsys hok z1_7 z1_8 z1_9 z1_10 z1_11 z1_18 z1_20 z1_21 z1_26 z1_27 z1_28 z1_33 z1_38 z1_44 z1_53 z1_54 z1_58 z2_12 z2_13 z4_1 z4_2 z4_6 z4_11 z4_18 z4_23
      z4_24 z4_26 qk ek
    exact hP4.out z4_3 z4_4 z4_7 z4_8 z4_9 z4_12 z4_13 z4_19 z4_20 z4_21 tk
namespace z4
noncomputable def zc := eps (α := (Addr) × (Heap) × (Nat) × (Addr) × (Heap) × (Nat) × (Addr) × (Heap) × (Addr) × (Heap) × (Nat)) ⟨default, {}, default, default, {}, default, default, {}, default, {}, default⟩ (fun c => zpart3.1 c.1 c.2.1 c.2.2.1 c.2.2.2.1 c.2.2.2.2.1 c.2.2.2.2.2.1 c.2.2.2.2.2.2.1 c.2.2.2.2.2.2.2.1 c.2.2.2.2.2.2.2.2.1 c.2.2.2.2.2.2.2.2.2.1 c.2.2.2.2.2.2.2.2.2.2)
@[irreducible] noncomputable def z4_3 := zc.1.1
@[irreducible] noncomputable def z4_4 := zc.1.2.1
@[irreducible] noncomputable def z4_7 := zc.1.2.2.1
@[irreducible] noncomputable def z4_8 := zc.1.2.2.2.1
@[irreducible] noncomputable def z4_9 := zc.1.2.2.2.2.1
@[irreducible] noncomputable def z4_12 := zc.1.2.2.2.2.2.1
@[irreducible] noncomputable def z4_13 := zc.1.2.2.2.2.2.2.1
@[irreducible] noncomputable def z4_19 := zc.1.2.2.2.2.2.2.2.1
@[irreducible] noncomputable def z4_20 := zc.1.2.2.2.2.2.2.2.2.1
@[irreducible] noncomputable def z4_21 := zc.1.2.2.2.2.2.2.2.2.2.1
@[irreducible] noncomputable def tk := zc.1.2.2.2.2.2.2.2.2.2.2
noncomputable def zpart4 : { R : ((Heap) → (Nat) → (Addr) → (Heap) → (Nat) → (Nat) → Prop) // Hide (∀ z5_1 z5_6 z5_7 z5_11 z5_14 tkn, R z5_1 z5_6 z5_7 z5_11 z5_14 tkn) → zpart3.1 z4_3 z4_4 z4_7 z4_8 z4_9 z4_12 z4_13 z4_19 z4_20 z4_21 tk } := by
  refine' ⟨_, fun hP5 => ?main⟩
  case main =>
    intro X T LB hsys hok z1_7 z1_8 z1_9 z1_10 z1_11 z1_18 z1_20 z1_21 z1_26 z1_27 z1_28 z1_33 z1_38 z1_44 z1_53 z1_54 z1_58 z2_12 z2_13 z4_1 z4_2 z4_6 z4_11 z4_18 z4_23
      z4_24 z4_26 qk ek
    iterate 65 (first | (k_unfold; (try dsimp only)) | (k_end; wrow_close) | (walk1; (try ((with_reducible show wpAny _ _ (execs _ _) _ _ (Shared.mk _ _ _ (_ + 1) _)); refine tok_any ?_; intro tkn))) | (dsimp only; walk1) | (leave1; (try dsimp only)))
    rename_i z5_1 z5_2 z5_3 z5_4 z5_5 z5_6 z5_7 z5_8 z5_9 z5_10 z5_11 z5_12 z5_13 z5_14 z5_15 z5_16 z5_17 z5_18 z5_19 z5_20 z5_21 z5_22
    ((try clear ek); (try clear qk); (try clear z4_2); (try clear z4_1))
    revert X T LB hsys hok z1_7 z1_8 z1_9 z1_10 z1_11 z1_18 z1_20 z1_21 z1_33 z1_54 z2_12 z4_26 z5_18 z5_19 z5_20 z5_21 z5_22
    exact hP5.out z5_1 z5_6 z5_7 z5_11 z5_14 tkn
namespace z5
noncomputable def zc := eps (α := (Heap) × (Nat) × (Addr) × (Heap) × (Nat) × (Nat)) ⟨{}, default, default, {}, default, default⟩ (fun c => zpart4.1 c.1 c.2.1 c.2.2.1 c.2.2.2.1 c.2.2.2.2.1 c.2.2.2.2.2)
@[irreducible] noncomputable def z5_1 := zc.1.1
@[irreducible] noncomputable def z5_6 := zc.1.2.1
@[irreducible] noncomputable def z5_7 := zc.1.2.2.1
@[irreducible] noncomputable def z5_11 := zc.1.2.2.2.1
@[irreducible] noncomputable def z5_14 := zc.1.2.2.2.2.1
@[irreducible] noncomputable def tkn := zc.1.2.2.2.2.2
noncomputable def zpart5 : { R : ((Heap) → (Addr) → (Heap) → (Nat) → Prop) // Hide (∀ z6_11 z6_12 z6_13 tk, R z6_11 z6_12 z6_13 tk) → zpart4.1 z5_1 z5_6 z5_7 z5_11 z5_14 tkn } := by
  refine' ⟨_, fun hP6 => ?main⟩
  case main =>
    intro X T LB hsys hok z1_7 z1_8 z1_9 z1_10 z1_11 z1_18 z1_20 z1_21 z1_33 z1_54 z2_12 z4_26 z5_18 z5_19 z5_20 z5_21 z5_22
    iterate 65 (first | (k_unfold; (try dsimp only)) | (k_end; wrow_close) | (walk1; (try ((with_reducible show wpAny _ _ (execs _ _) _ _ (Shared.mk _ _ _ (_ + 1) _)); refine tok_any ?_; intro tkn))) | (dsimp only; walk1) | (leave1; (try dsimp only)))
    rename_i z6_1 z6_2 z6_3 z6_4 z6_5 z6_6 z6_7 z6_8 z6_9 z6_10 z6_11 z6_12 z6_13 z6_14 z6_15 z6_16 z6_17 z6_18 z6_19
    ((try clear z1_21); (try clear z1_20))
    revert X T LB hsys hok z1_8 z1_10 z1_11 z1_18 z1_33 z1_54 z2_12 z4_26 z5_18 z5_22 z6_6 z6_7 z6_15 z6_16 z6_18 qk ek
    exact hP6.out z6_11 z6_12 z6_13 tk
namespace z6
noncomputable def zc := eps (α := (Heap) × (Addr) × (Heap) × (Nat)) ⟨{}, default, {}, default⟩ (fun c => zpart5.1 c.1 c.2.1 c.2.2.1 c.2.2.2)
@[irreducible] noncomputable def z6_11 := zc.1.1
@[irreducible] noncomputable def z6_12 := zc.1.2.1
@[irreducible] noncomputable def z6_13 := zc.1.2.2.1
@[irreducible] noncomputable def tk := zc.1.2.2.2
theorem zat : zpart5.1 z6_11 z6_12 z6_13 tk := by
  intro X T LB hsys hok z1_8 z1_10 z1_11 z1_18 z1_33 z1_54 z2_12 z4_26 z5_18 z5_22 z6_6 z6_7 z6_15 z6_16 z6_18 qk ek
  repeat' (first | (k_unfold; (try dsimp only)) | (k_end; wrow_close) | ((first | with_reducible ((with_reducible show wpAny _ _ (compareOp CmpOp.In _ _) _ _ _); k_here; (with_reducible show wpAny _ _ (compareOp CmpOp.In _ (Value.ref lb)) _ _ _); k_dflt (refine' lab_in LB ?k1x8 ?k2x8 hsys ?_; (case k1x8 => k_asm); (case k2x8 => k_mem))) | with_reducible ((with_reducible show wpAny _ _ (subscriptTail (Expr.Name ..) (Expr.Name ..) (Value.ref _) (Value.str ..)) _ _ _); k_here; (with_reducible show wpAny _ _ (subscriptTail _ _ (Value.ref lb) _) _ _ _); k_dflt (refine' lab_tail LB ?k1x9 ?k2x9 ?_; (case k1x9 => k_asm); (case k2x9 => k_mem))) | walk1); (try ((with_reducible show wpAny _ _ (execs _ _) _ _ (Shared.mk _ _ _ (_ + 1) _)); refine tok_any ?_; intro tkn))) | (dsimp only; walk1) | (leave1; (try dsimp only)))
  refine' hok _ _ _ ?zz1 ?zz2 _ (by assumption) (by assumption) ?zz3
  case zz3 =>
    intro q hq
    rcases List.mem_cons.mp hq with rfl | hq
    · exact List.Mem.head _
    · apply List.Mem.tail
      repeat (first | exact hq | apply List.Mem.tail)

theorem zall : ∀ z6_11 z6_12 z6_13 tk, zpart5.1 z6_11 z6_12 z6_13 tk := fun z6_11 z6_12 z6_13 tk => @epsH _ _ zc (by with_unfolding_all exact zat) (z6_11, z6_12, z6_13, tk)
end z6
theorem zat : zpart4.1 z5_1 z5_6 z5_7 z5_11 z5_14 tkn := zpart5.2 ⟨z6.zall⟩
theorem zall : ∀ z5_1 z5_6 z5_7 z5_11 z5_14 tkn, zpart4.1 z5_1 z5_6 z5_7 z5_11 z5_14 tkn := fun z5_1 z5_6 z5_7 z5_11 z5_14 tkn => @epsH _ _ zc (by with_unfolding_all exact zat) (z5_1, z5_6, z5_7, z5_11, z5_14, tkn)
end z5
theorem zat : zpart3.1 z4_3 z4_4 z4_7 z4_8 z4_9 z4_12 z4_13 z4_19 z4_20 z4_21 tk := zpart4.2 ⟨z5.zall⟩
theorem zall : ∀ z4_3 z4_4 z4_7 z4_8 z4_9 z4_12 z4_13 z4_19 z4_20 z4_21 tk, zpart3.1 z4_3 z4_4 z4_7 z4_8 z4_9 z4_12 z4_13 z4_19 z4_20 z4_21 tk := fun z4_3 z4_4 z4_7 z4_8 z4_9 z4_12 z4_13 z4_19 z4_20 z4_21 tk => @epsH _ _ zc (by with_unfolding_all exact zat) (z4_3, z4_4, z4_7, z4_8, z4_9, z4_12, z4_13, z4_19, z4_20, z4_21, tk)
end z4
theorem zat : zpart2.1 tkn := zpart3.2 ⟨z4.zall⟩
theorem zall : ∀ tkn, zpart2.1 tkn := fun tkn => @epsH _ _ zc (by with_unfolding_all exact zat) tkn
end z3
theorem zat : zpart1.1 z2_7 z2_8 z2_14 tkn := zpart2.2 ⟨z3.zall⟩
theorem zall : ∀ z2_7 z2_8 z2_14 tkn, zpart1.1 z2_7 z2_8 z2_14 tkn := fun z2_7 z2_8 z2_14 tkn => @epsH _ _ zc (by with_unfolding_all exact zat) (z2_7, z2_8, z2_14, tkn)
end z2
theorem zat : zpart0.1 z1_1 z1_2 z1_13 z1_14 z1_23 z1_24 z1_29 z1_31 tk z1_35 z1_36 z1_39 z1_40 z1_41 z1_42 z1_45 z1_46 z1_47 z1_48 z1_49 z1_52 z1_55 z1_61 tkn := zpart1.2 ⟨z2.zall⟩
theorem zall : ∀ z1_1 z1_2 z1_13 z1_14 z1_23 z1_24 z1_29 z1_31 tk z1_35 z1_36 z1_39 z1_40 z1_41 z1_42 z1_45 z1_46 z1_47 z1_48 z1_49 z1_52 z1_55 z1_61 tkn, zpart0.1 z1_1 z1_2 z1_13 z1_14 z1_23 z1_24 z1_29 z1_31 tk z1_35 z1_36 z1_39 z1_40 z1_41 z1_42 z1_45 z1_46 z1_47 z1_48 z1_49 z1_52 z1_55 z1_61 tkn := fun z1_1 z1_2 z1_13 z1_14 z1_23 z1_24 z1_29 z1_31 tk z1_35 z1_36 z1_39 z1_40 z1_41 z1_42 z1_45 z1_46 z1_47 z1_48 z1_49 z1_52 z1_55 z1_61 tkn => @epsH _ _ zc (by with_unfolding_all exact zat) (z1_1, z1_2, z1_13, z1_14, z1_23, z1_24, z1_29, z1_31, tk, z1_35, z1_36, z1_39, z1_40, z1_41, z1_42, z1_45, z1_46, z1_47, z1_48, z1_49, z1_52, z1_55, z1_61, tkn)
end z1
theorem zat : zP w p loose mean mg mb own cn cnm cmo a ccd cl outer A₀ base h₀ L m s x t1 t2 t3 t4 t5 t6 ro o1 hk hd lb nt ta un rp k lobj nb Q E := zpart0.2 ⟨z1.zall⟩
theorem zall : ∀ w p loose mean mg mb own cn cnm cmo a ccd cl outer A₀ base h₀ L m s x t1 t2 t3 t4 t5 t6 ro o1 hk hd lb nt ta un rp k lobj nb Q E, zP w p loose mean mg mb own cn cnm cmo a ccd cl outer A₀ base h₀ L m s x t1 t2 t3 t4 t5 t6 ro o1 hk hd lb nt ta un rp k lobj nb Q E := fun w p loose mean mg mb own cn cnm cmo a ccd cl outer A₀ base h₀ L m s x t1 t2 t3 t4 t5 t6 ro o1 hk hd lb nt ta un rp k lobj nb Q E => @epsH _ _ zc (by with_unfolding_all exact zat) (w, p, loose, mean, mg, mb, own, cn, cnm, cmo, a, ccd, cl, outer, A₀, base, h₀, L, m, s, x, t1, t2, t3, t4, t5, t6, ro, o1, hk, hd, lb, nt, ta, un, rp, k, lobj, nb, Q, E)
end goalC
theorem goalC (w : World) {p : Program} {loose : List Str} {mean : ExcName → Option Value} {mg mb : Str → Option Value} (own : List (Addr × Obj))
  (cn : Str) (cnm : List (Str × NameKind)) (cmo : List (Str × Const)) (a : Addr) (ccd : Value) (cl : List (Str × Addr)) (outer : List Env) (A₀ : Around) (base h₀ : Heap) (L : Addr) (m : Str → Option Value) (s : Shared)
    (x : Str) (t1 t2 t3 t4 t5 t6 : Tok) (ro o1 hk hd lb nt ta un rp : Addr) (k : Int) (lobj : Obj) (nb : Nat) (Q E : Value → Shared → Prop)
    (B : Below A₀ base outer h₀) (F : Fr h₀ L s.heap m) (X : (kdef.heap_1 w.params).In h₀) (T : Top p loose mean mg mb h₀)
    (N : News h₀ L s.heap ((ro, W.listOf #[.ref o1] nb) :: (o1, tup [.str (Str.ofString "LABEL") t1, .str x t2]) :: (hk, hooksO hd) :: (hd, hooksD w.params t3 t4 t5 rp lb nt) :: (lb, lobj) :: (ta, tup [.ref un, .int k t6]) :: own))
    (LB : LabO w lobj x ta) (hsys : (lb == sysModules) = false)
    (hok : ∀ r h' tk' ti ts led, Fr h₀ L h' m → News h₀ L h' led → (∀ q, q ∈ (r, tup [.str (Str.ofString "at") ts, .ref un, .int k ti]) :: (ro, W.listOf #[.ref o1] nb) :: (o1, tup [.str (Str.ofString "LABEL") t1, .str x t2]) :: (hk, hooksO hd) :: (hd, hooksD w.params t3 t4 t5 rp lb nt) :: (lb, lobj) :: (ta, tup [.ref un, .int k t6]) :: own → q ∈ led) → Q (.ref r) { s with heap := h', toks := tk' }) : wpAny (model PG w) (CT 560 4600 cn cnm cmo L a ccd cl outer) (call (.ref 289) [.ref ro, .ref hk]) Q E s := goalC.zall w p loose mean mg mb own cn cnm cmo a ccd cl outer A₀ base h₀ L m s x t1 t2 t3 t4 t5 t6 ro o1 hk hd lb nt ta un rp k lobj nb Q E B F X T N LB hsys hok
end
section
open PySem PySem.W PyProof.Rows PySem.Calls PySem.Spec
set_option Elab.async false
set_option maxRecDepth 100000
set_option maxHeartbeats 8000000
example : kdef.heap_1 = kdef.heap_1 ∧ PySem.Challenge.rw_xm0939_01 = PySem.Challenge.rw_xm0939_01 := by
  k_fill
  exact ⟨rfl, rfl⟩


theorem rowB_use (w : World) {p : Program} {loose : List Str} {mean : ExcName → Option Value} {mg mb : Str → Option Value} {rp ak lf : Addr} {t rest news : List (Addr × Obj)}
  {cn : Str} {cnm : List (Str × NameKind)} {cmo : List (Str × Const)} {a : Addr} {ccd : Value} {cl : List (Str × Addr)} {outer : List Env} {A₀ : Around} {base h₀ : Heap} {L : Addr} {m : Str → Option Value} {s : Shared}
    {asked : List (Str × Tok)} {left : List (Int × Tok)} {na nl : Nat} {x : Str} {t1 t2 t3 t4 t5 t6 t7 : Tok} {bo o1 o2 hk hd lb nt : Addr} {rc : Value} {rd : Option Addr} {fd : FuncData} {rsl : Array (Option Value)} {nb : Nat} {Q E : Value → Shared → Prop} {g₁ : Obj → List (Addr × Obj)} {g₂ : Obj → Obj → List (Addr × Obj)}
    (B : Below A₀ base outer h₀) (F : Fr h₀ L s.heap m) (X : (kdef.heap_1 w.params).In h₀) (T : Top p loose mean mg mb h₀) (N : News h₀ L s.heap news)
    (hrest : ∀ q ∈ rest, q ∈ news) (m1 : (bo, W.listOf #[.ref o1, .ref o2] nb) ∈ rest) (m2 : (o1, tup [.str (Str.ofString "CALL") t1, .str x t2, .int 0 t6, .bool false]) ∈ rest) (m3 : (o2, tup [.str (Str.ofString "DROP") t7]) ∈ rest) (m4 : (hk, hooksO hd) ∈ rest) (m5 : (hd, hooksD w.params t3 t4 t5 rp lb nt) ∈ rest) (m6 : (rp, (⟨rc, rd, .func fd, rsl⟩ : Obj)) ∈ rest)
    (R : RepOk w p loose mean mg mb rp ak lf t) (hsub : ∀ q ∈ t, q ∈ news) (hta : ∀ q ∈ t, q.1 ≠ ak) (htl : ∀ q ∈ t, q.1 ≠ lf) (hne : @Ne Nat ak lf) (hal : asked.length ≤ 1000) (hll : left.length ≤ 1000) (hwx : (Str.ofString "call" ++ x).length ≤ 1000)
    (ho2 : ∀ q ∈ rest, q.1 ≠ ak) (ho3 : ∀ q ∈ rest, q.1 ≠ lf)
    (U₁ : UpdF ak (W.listOf (asked.map strV).toArray na) news g₁) (U₂ : ∀ o, UpdF lf (W.listOf (left.map intV).toArray nl) (g₁ o) (g₂ o))
    (h1 : ∀ b r h' tk' tk₁ na' nl' wk, left = b :: r → b.1 = 1 → Fr h₀ L h' m → News h₀ L h' (g₂ (W.listOf ((asked ++ [(Str.ofString "call" ++ x, tk₁)]).map strV).toArray na') (W.listOf (r.map intV).toArray nl')) → Q (.ref wk) { s with heap := h', toks := tk' })
    (h2 : ∀ b r h' tk' tk₁ na' nl', left = b :: r → b.1 ≠ 1 → Fr h₀ L h' m → News h₀ L h' (g₂ (W.listOf ((asked ++ [(Str.ofString "call" ++ x, tk₁)]).map strV).toArray na') (W.listOf (r.map intV).toArray nl')) → Q .none { s with heap := h', toks := tk' })
    (h3 : ∀ g' h' tk' tk₁ na' e dx od tk₂ tv, left = [] → Fr h₀ L g' m → Thrown base g' (CE cn cnm cmo L a ccd cl :: outer) e dx ((dx, od) :: g₂ (W.listOf ((asked ++ [(Str.ofString "call" ++ x, tk₁)]).map strV).toArray na') (W.listOf #[] nl)) h' → g'.UpToSlots h' → NsO od (excMap 99 tk₂ tv) → E (.ref e) { s with heap := h', toks := tk' }) :
    wpAny (model PG w) (CT 560 4600 cn cnm cmo L a ccd cl outer) (call (.ref 254) [.ref bo, .ref hk]) Q E s := by
  have hka : @Ne Nat bo ak ∧ @Ne Nat o1 ak ∧ @Ne Nat o2 ak ∧ @Ne Nat hk ak ∧ @Ne Nat hd ak ∧ @Ne Nat rp ak := ⟨ho2 _ m1, ho2 _ m2, ho2 _ m3, ho2 _ m4, ho2 _ m5, ho2 _ m6⟩
  have hkl : @Ne Nat bo lf ∧ @Ne Nat o1 lf ∧ @Ne Nat o2 lf ∧ @Ne Nat hk lf ∧ @Ne Nat hd lf ∧ @Ne Nat rp lf := ⟨ho3 _ m1, ho3 _ m2, ho3 _ m3, ho3 _ m4, ho3 _ m5, ho3 _ m6⟩
  replace m1 := hrest _ m1
  replace m2 := hrest _ m2
  replace m3 := hrest _ m3
  replace m4 := hrest _ m4
  replace m5 := hrest _ m5
  replace m6 := hrest _ m6
  obtain ⟨n1, u1⟩ := updF_mem U₁
  have n2 : (lf, W.listOf (left.map intV).toArray nl) ∈ news := by
    rcases u1 _ _ (updF_mem (U₂ (W.listOf #[] 0))).1 with h | h
    · exact absurd (congrArg Prod.fst h).symm hne
    · exact h.1
  have hmem : ∀ o o' q, q ∈ g₂ o o' → q ∈ (ak, o) :: (lf, o') :: news.filter (fun q => q.1 != ak && q.1 != lf) := fun o o' q hq => by
    rcases (updF_mem (U₂ o)).2 o' q hq with rfl | ⟨hq, hl⟩
    · exact .tail _ (.head _)
    · rcases u1 o q hq with rfl | ⟨hq, hk⟩
      · exact .head _
      · exact .tail _ (.tail _ (List.mem_filter.mpr ⟨hq, by simp [hk, hl]⟩))
  have hf : ∀ q ∈ news.filter (fun q => q.1 != ak && q.1 != lf), q ∈ news ∧ q.1 ≠ ak ∧ q.1 ≠ lf := fun q hq => by
    obtain ⟨h1, h2⟩ := List.mem_filter.mp hq
    simp at h2
    exact ⟨h1, h2⟩
  have up : ∀ (led : List (Addr × Obj)) (o o' : Obj), (∀ q, q ∈ (ak, o) :: (lf, o') :: (bo, W.listOf #[.ref o1, .ref o2] nb) :: (o1, tup [.str (Str.ofString "CALL") t1, .str x t2, .int 0 t6, .bool false]) :: (o2, tup [.str (Str.ofString "DROP") t7]) :: (hk, hooksO hd) :: (hd, hooksD w.params t3 t4 t5 rp lb nt) :: (rp, ⟨rc, rd, .func fd, rsl⟩) :: news.filter (fun q => q.1 != ak && q.1 != lf) → q ∈ led) → ∀ q, q ∈ g₂ o o' → q ∈ led := fun led o o' h q hq => by
    apply h
    rcases List.mem_cons.mp (hmem o o' q hq) with rfl | hq
    · exact .head _
    · rcases List.mem_cons.mp hq with rfl | hq
      · exact .tail _ (.head _)
      · exact .tail _ (.tail _ (.tail _ (.tail _ (.tail _ (.tail _ (.tail _ (.tail _ hq)))))))
  refine rowB w rp ak lf t (news.filter (fun q => q.1 != ak && q.1 != lf)) cn cnm cmo a ccd cl outer A₀ base h₀ L m s asked left na nl x t1 t2 t3 t4 t5 t6 t7 bo o1 o2 hk hd lb nt rc rd fd rsl nb Q E B F X T (fun q hq => ?_) R
    (fun q hq => List.mem_filter.mpr ⟨hsub q hq, by simp [hta q hq, htl q hq]⟩) (fun q hq => (hf q hq).2.1) (fun q hq => (hf q hq).2.2) hta htl hne hal hll hwx hka hkl
    (fun b r h' tk' tk₁ na' nl' wk led e1 e2 F' N' hs => h1 b r h' tk' tk₁ na' nl' wk e1 e2 F' fun q hq => N' q (up led _ _ hs q hq))
    (fun b r h' tk' tk₁ na' nl' led e1 e2 F' N' hs => h2 b r h' tk' tk₁ na' nl' e1 e2 F' fun q hq => N' q (up led _ _ hs q hq))
    (fun g' h' tk' tk₁ na' e dx od tk₂ tv led e1 F' T' hs U' O' => h3 g' h' tk' tk₁ na' e dx od tk₂ tv e1 F' (T'.sub fun q hq => ?_) U' O')
  · rcases List.mem_cons.mp hq with rfl | hq
    · exact N _ n1
    rcases List.mem_cons.mp hq with rfl | hq
    · exact N _ n2
    rcases List.mem_cons.mp hq with rfl | hq
    · exact N _ m1
    rcases List.mem_cons.mp hq with rfl | hq
    · exact N _ m2
    rcases List.mem_cons.mp hq with rfl | hq
    · exact N _ m3
    rcases List.mem_cons.mp hq with rfl | hq
    · exact N _ m4
    rcases List.mem_cons.mp hq with rfl | hq
    · exact N _ m5
    rcases List.mem_cons.mp hq with rfl | hq
    · exact N _ m6
    exact N q (hf q hq).1
  · rcases List.mem_cons.mp hq with rfl | hq
    · exact hs _ (.head _)
    · exact up led _ _ (fun q hq => hs q (.tail _ hq)) q hq
theorem goalC_use (w : World) {p : Program} {loose : List Str} {mean : ExcName → Option Value} {mg mb : Str → Option Value} {news : List (Addr × Obj)}
  {cn : Str} {cnm : List (Str × NameKind)} {cmo : List (Str × Const)} {a : Addr} {ccd : Value} {cl : List (Str × Addr)} {outer : List Env} {A₀ : Around} {base h₀ : Heap} {L : Addr} {m : Str → Option Value} {s : Shared}
    {x : Str} {t1 t2 t3 t4 t5 t6 : Tok} {ro o1 hk hd lb nt ta un rp : Addr} {k : Int} {lobj : Obj} {nb : Nat} {Q E : Value → Shared → Prop}
    (B : Below A₀ base outer h₀) (F : Fr h₀ L s.heap m) (X : (kdef.heap_1 w.params).In h₀) (T : Top p loose mean mg mb h₀) (N : News h₀ L s.heap news)
    (m1 : (ro, W.listOf #[.ref o1] nb) ∈ news) (m2 : (o1, tup [.str (Str.ofString "LABEL") t1, .str x t2]) ∈ news) (m3 : (hk, hooksO hd) ∈ news) (m4 : (hd, hooksD w.params t3 t4 t5 rp lb nt) ∈ news) (m5 : (lb, lobj) ∈ news) (m6 : (ta, tup [.ref un, .int k t6]) ∈ news)
    (LB : LabO w lobj x ta) (hsys : (lb == sysModules) = false)
    (hok : ∀ r h' tk' ti ts, Fr h₀ L h' m → News h₀ L h' ((r, tup [.str (Str.ofString "at") ts, .ref un, .int k ti]) :: news) → Q (.ref r) { s with heap := h', toks := tk' }) :
    wpAny (model PG w) (CT 560 4600 cn cnm cmo L a ccd cl outer) (call (.ref 289) [.ref ro, .ref hk]) Q E s := by
  refine goalC w news cn cnm cmo a ccd cl outer A₀ base h₀ L m s x t1 t2 t3 t4 t5 t6 ro o1 hk hd lb nt ta un rp k lobj nb Q E B F X T (fun q hq => ?_) LB hsys (fun r h' tk' ti ts led F' N' hs => hok r h' tk' ti ts F' fun q hq => N' q (hs q ?_))
  · rcases List.mem_cons.mp hq with rfl | hq
    · exact N _ m1
    rcases List.mem_cons.mp hq with rfl | hq
    · exact N _ m2
    rcases List.mem_cons.mp hq with rfl | hq
    · exact N _ m3
    rcases List.mem_cons.mp hq with rfl | hq
    · exact N _ m4
    rcases List.mem_cons.mp hq with rfl | hq
    · exact N _ m5
    rcases List.mem_cons.mp hq with rfl | hq
    · exact N _ m6
    exact N q hq
  · rcases List.mem_cons.mp hq with rfl | hq
    · exact .head _
    · exact .tail _ (.tail _ (.tail _ (.tail _ (.tail _ (.tail _ (.tail _ hq))))))
end
example : True := by w_top off; (try walk1); trivial
section
open PySem PySem.W PyProof.Rows PySem.Calls PySem.Spec
set_option Elab.async false
set_option maxRecDepth 100000
set_option maxHeartbeats 8000000
example : kdef.heap_1 = kdef.heap_1 ∧ PySem.Challenge.rw_xm0939_01 = PySem.Challenge.rw_xm0939_01 := by
  k_fill
  exact ⟨rfl, rfl⟩


local macro_rules | `(tactic| walk_at "leaving ref") => `(tactic| (k_here; (with_reducible rename Thrown _ _ _ _ _ _ _ => rkX); k_dflt (refine' throw_next ?K ?F rfl ?R ?U ?_; (case R => exact rkX); (case K => assumption); (case F => assumption); (case U => assumption)); clear rkX; intro h' R' U'; (try dsimp only at R' U' ⊢)))

/-- one statement of a compiled program: its objects -/
structure SRec where
  (c cd bo o1 o2 su g fa gf ta : Addr) (nb ns nf : Nat) (la x sx fx : Str) (ln : Int) (k1 k2 k3 k4 k5 tl tn t1 t2 t6 t7 u1 u2 v1 v2 ti : Tok) (s f : Nat)
noncomputable abbrev SRec.dict (r : SRec) (P : Params) : Obj := dictOf [⟨PyData.keyHash P (Str.ofString "label"), .str (Str.ofString "label") r.k1, .str r.la r.tl⟩, ⟨PyData.keyHash P (Str.ofString "body"), .str (Str.ofString "body") r.k2, .ref r.bo⟩,
  ⟨PyData.keyHash P (Str.ofString "success"), .str (Str.ofString "success") r.k3, .ref r.su⟩, ⟨PyData.keyHash P (Str.ofString "failure"), .str (Str.ofString "failure") r.k4, .ref r.fa⟩, ⟨PyData.keyHash P (Str.ofString "line"), .str (Str.ofString "line") r.k5, .int r.ln r.tn⟩] 5
noncomputable def SRec.all (r : SRec) (P : Params) (un : Addr) (i : Nat) : List (Addr × Obj) :=
  [(r.c, instObj 313 r.cd), (r.cd, r.dict P), (r.bo, W.listOf #[.ref r.o1, .ref r.o2] r.nb), (r.o1, tup [.str (Str.ofString "CALL") r.t1, .str r.x r.t2, .int 0 r.t6, .bool false]), (r.o2, tup [.str (Str.ofString "DROP") r.t7]),
   (r.su, W.listOf #[.ref r.g] r.ns), (r.g, tup [.str (Str.ofString "LABEL") r.u1, .str r.sx r.u2]), (r.fa, W.listOf #[.ref r.gf] r.nf), (r.gf, tup [.str (Str.ofString "LABEL") r.v1, .str r.fx r.v2]), (r.ta, tup [.ref un, .int i r.ti])]
noncomputable abbrev unitD (P : Params) (k1 k2 k3 t1 : Tok) (sl ul : Addr) : Obj := dictOf [⟨PyData.keyHash P (Str.ofString "number"), .str (Str.ofString "number") k1, .int 1 t1⟩, ⟨PyData.keyHash P (Str.ofString "statements"), .str (Str.ofString "statements") k2, .ref sl⟩, ⟨PyData.keyHash P (Str.ofString "labels"), .str (Str.ofString "labels") k3, .ref ul⟩] 3
theorem whl_ind {prog : Program} {w : World} {A : Around} {E : Value → Shared → Prop} {env : Env} {test : PySem.Expr} {body orelse : List Stmt} {Q : Flow → Shared → Prop} (Inv : Nat → Shared → Prop)
    (step : ∀ k s, Inv k s → (∀ k' s', k' < k → Inv k' s' → WhlRest prog w A E env test body orelse Q 0 s') → WhlRest prog w A E env test body orelse Q 1 s) : ∀ k s, Inv k s → WhlRest prog w A E env test body orelse Q 0 s := by
  intro k
  induction k using Nat.strongRecOn with
  | _ k ih => exact fun s hs => step k s hs fun k' s' hk hi => ih k' hk s' hi
/-- what a run asks, and what it notes -/
noncomputable def askOf (S : Nat → SRec) : Nat → List Int → List Str
  | i, [] => [Str.ofString "call" ++ (S i).x]
  | i, b :: r => (Str.ofString "call" ++ (S i).x) :: askOf S (if b = 1 then (S i).s else (S i).f) r
noncomputable def noteOf (S : Nat → SRec) : Nat → List Int → List Int
  | i, [] => [(i : Int)]
  | i, b :: r => if b = 1 then (i : Int) :: noteOf S (S i).s r else (i : Int) :: (-1) :: noteOf S (S i).f r
theorem fr_names {h₀ h : Heap} {L : Addr} {m : Str → Option Value} {v1 v2 v3 : Value} (F : Fr h₀ L h m) (e1 : m "at" = some v1) (e2 : m "unit" = some v2) (e3 : m "hooks" = some v3) :
    Fr h₀ L h (fun y => if y = "at" then some v1 else if y = "unit" then some v2 else if y = "hooks" then some v3 else m y) := by
  have : (fun y => if y = (Str.ofString "at") then some v1 else if y = (Str.ofString "unit") then some v2 else if y = (Str.ofString "hooks") then some v3 else m y) = m := by
    funext y
    by_cases h1 : y = (Str.ofString "at")
    · rw [if_pos h1, h1]; exact e1.symm
    · rw [if_neg h1]
      by_cases h2 : y = (Str.ofString "unit")
      · rw [if_pos h2, h2]; exact e2.symm
      · rw [if_neg h2]
        by_cases h3 : y = (Str.ofString "hooks")
        · rw [if_pos h3, h3]; exact e3.symm
        · rw [if_neg h3]
  rw [this]; exact F
structure PStat (w : World) (own : List (Addr × Obj)) (n : Nat) (S : Nat → SRec) (vs : List Value) (un : Addr) (lobj : Obj) : Prop where
  mem : ∀ i, i < n → ∀ q, q ∈ (S i).all w.params un i → q ∈ own
  item : ∀ i, i < n → vs[(i : Int).toNat]? = some (.ref (S i).c)
  len : vs.length = n
  small : n ≤ 5
  lab : ∀ i, i < n → LabO w lobj (S i).la (S i).ta
  sx : ∀ i, i < n → (S i).sx = (S (S i).s).la ∧ (S i).fx = (S (S i).f).la ∧ (S i).s < n ∧ (S i).f < n
  xl : ∀ i, i < n → (Str.ofString "call" ++ (S i).x).length ≤ 1000
  noEnd : ∀ i, i < n → ((S i).la == (Str.ofString "END")) = false
namespace runF
def zP (w : World) (p : Program) (loose : List Str) (mean : ExcName → Option Value) (mg : Str → Option Value) (mb : Str → Option Value) (rp : Addr) (ak : Addr) (lf : Addr) (nt : Addr) (hk : Addr) (hd : Addr) (lb : Addr) (un : Addr) (ud : Addr) (sl : Addr) (ul : Addr) (t : List (Addr × Obj)) (own : List (Addr × Obj)) (cn : Str) (cnm : List (Str × NameKind)) (cmo : List (Str × Const)) (a : Addr) (ccd : Value) (cl : List (Str × Addr)) (outer : List Env) (A₀ : Around) (base : Heap) (h₀ : Heap) (L : Addr) (m : Str → Option Value) (s : Shared) (asked : List (Str × Tok)) (left : List (Int × Tok)) (notes : List (Int × Tok)) (na : Nat) (nl : Nat) (nn : Nat) (nsl : Nat) (n : Nat) (b : Nat) (vs : List Value) (tb : Tok) (t3 : Tok) (t4 : Tok) (t5 : Tok) (k1 : Tok) (k2 : Tok) (k3 : Tok) (tu : Tok) (lobj : Obj) (rc : Value) (rd : Option Addr) (fd : FuncData) (rsl : Array (Option Value)) (S : Nat → SRec) (Q : Value → Shared → Prop) (E : Value → Shared → Prop) : Prop := ∀ (B : Below A₀ base outer h₀) (F : Fr h₀ L s.heap m) (X : (kdef.heap_1 w.params).In h₀) (T : Top p loose mean mg mb h₀) (N : News h₀ L s.heap ((nt, W.listOf (notes.map intV).toArray nn) :: (ak, W.listOf (asked.map strV).toArray na) :: (lf, W.listOf (left.map intV).toArray nl) :: (hk, hooksO hd) :: (hd, hooksD w.params t3 t4 t5 rp lb nt) :: (lb, lobj) :: (rp, ⟨rc, rd, .func fd, rsl⟩) :: (un, instObj 334 ud) :: (ud, unitD w.params k1 k2 k3 tu sl ul) :: (sl, W.listOf vs.toArray nsl) :: own)) (P : PStat w own n S vs un lobj) (hb : b < n) (R : RepOk w p loose mean mg mb rp ak lf t) (hsub : ∀ q ∈ t, q ∈ own) (hta : ∀ q ∈ t, q.1 ≠ ak) (htl : ∀ q ∈ t, q.1 ≠ lf) (hsys : (lb == sysModules) = false) (hne : @Ne Nat nt ak ∧ @Ne Nat nt lf ∧ @Ne Nat ak lf) (hap : ∀ q ∈ own, @Ne Nat q.1 nt ∧ @Ne Nat q.1 ak ∧ @Ne Nat q.1 lf) (hap2 : ∀ q ∈ [hk, hd, lb, rp, un, ud, sl], @Ne Nat q nt ∧ @Ne Nat q ak ∧ @Ne Nat q lf) (hsz : notes.length + 2 * left.length ≤ 500 ∧ asked.length + left.length ≤ 500) (hend : ∀ g' h' tk' (asked' : List (Str × Tok)) (notes' : List (Int × Tok)) na' nn' nl' e dx od tk₂ tv, asked'.map Prod.fst = asked.map Prod.fst ++ askOf S b (left.map Prod.fst) → notes'.map Prod.fst = notes.map Prod.fst ++ noteOf S b (left.map Prod.fst) →
      Fr h₀ L g' m → Thrown base g' (CE cn cnm cmo L a ccd cl :: outer) e dx ((dx, od) :: (nt, W.listOf (notes'.map intV).toArray nn') :: (ak, W.listOf (asked'.map strV).toArray na') :: (lf, W.listOf #[] nl') :: (hk, hooksO hd) :: (hd, hooksD w.params t3 t4 t5 rp lb nt) :: own) h' → g'.UpToSlots h' → NsO od (excMap 99 tk₂ tv) → E (.ref e) { s with heap := h', toks := tk' }),
  wpAny (model PG w) (CT 550 4500 cn cnm cmo L a ccd cl outer) (call (.ref 296) [.ref un, .int b tb, .ref hk]) Q E s
noncomputable def zc := eps (α := (World) × (Program) × (List Str) × (ExcName → Option Value) × (Str → Option Value) × (Str → Option Value) × (Addr) × (Addr) × (Addr) × (Addr) × (Addr) × (Addr) × (Addr) × (Addr) × (Addr) × (Addr) × (Addr) × (List (Addr × Obj)) × (List (Addr × Obj)) × (Str) × (List (Str × NameKind)) × (List (Str × Const)) × (Addr) × (Value) × (List (Str × Addr)) × (List Env) × (Around) × (Heap) × (Heap) × (Addr) × (Str → Option Value) × (Shared) × (List (Str × Tok)) × (List (Int × Tok)) × (List (Int × Tok)) × (Nat) × (Nat) × (Nat) × (Nat) × (Nat) × (Nat) × (List Value) × (Tok) × (Tok) × (Tok) × (Tok) × (Tok) × (Tok) × (Tok) × (Tok) × (Obj) × (Value) × (Option Addr) × (FuncData) × (Array (Option Value)) × (Nat → SRec) × (Value → Shared → Prop) × (Value → Shared → Prop)) ⟨world0, default, default, (fun _ => default), (fun _ => default), (fun _ => default), default, default, default, default, default, default, default, default, default, default, default, default, default, default, default, default, default, default, default, default, {}, {}, {}, default, (fun _ => default), {}, default, default, default, default, default, default, default, default, default, default, default, default, default, default, default, default, default, default, default, default, default, default, default, (fun _ => by constructor <;> exact default), (fun _ _ => True), (fun _ _ => True)⟩ (fun c => zP c.1 c.2.1 c.2.2.1 c.2.2.2.1 c.2.2.2.2.1 c.2.2.2.2.2.1 c.2.2.2.2.2.2.1 c.2.2.2.2.2.2.2.1 c.2.2.2.2.2.2.2.2.1 c.2.2.2.2.2.2.2.2.2.1 c.2.2.2.2.2.2.2.2.2.2.1 c.2.2.2.2.2.2.2.2.2.2.2.1 c.2.2.2.2.2.2.2.2.2.2.2.2.1 c.2.2.2.2.2.2.2.2.2.2.2.2.2.1 c.2.2.2.2.2.2.2.2.2.2.2.2.2.2.1 c.2.2.2.2.2.2.2.2.2.2.2.2.2.2.2.1 c.2.2.2.2.2.2.2.2.2.2.2.2.2.2.2.2.1 c.2.2.2.2.2.2.2.2.2.2.2.2.2.2.2.2.2.1 c.2.2.2.2.2.2.2.2.2.2.2.2.2.2.2.2.2.2.1 c.2.2.2.2.2.2.2.2.2.2.2.2.2.2.2.2.2.2.2.1 c.2.2.2.2.2.2.2.2.2.2.2.2.2.2.2.2.2.2.2.2.1 c.2.2.2.2.2.2.2.2.2.2.2.2.2.2.2.2.2.2.2.2.2.1 c.2.2.2.2.2.2.2.2.2.2.2.2.2.2.2.2.2.2.2.2.2.2.1 c.2.2.2.2.2.2.2.2.2.2.2.2.2.2.2.2.2.2.2.2.2.2.2.1 c.2.2.2.2.2.2.2.2.2.2.2.2.2.2.2.2.2.2.2.2.2.2.2.2.1 c.2.2.2.2.2.2.2.2.2.2.2.2.2.2.2.2.2.2.2.2.2.2.2.2.2.1 c.2.2.2.2.2.2.2.2.2.2.2.2.2.2.2.2.2.2.2.2.2.2.2.2.2.2.1 c.2.2.2.2.2.2.2.2.2.2.2.2.2.2.2.2.2.2.2.2.2.2.2.2.2.2.2.1 c.2.2.2.2.2.2.2.2.2.2.2.2.2.2.2.2.2.2.2.2.2.2.2.2.2.2.2.2.1 c.2.2.2.2.2.2.2.2.2.2.2.2.2.2.2.2.2.2.2.2.2.2.2.2.2.2.2.2.2.1 c.2.2.2.2.2.2.2.2.2.2.2.2.2.2.2.2.2.2.2.2.2.2.2.2.2.2.2.2.2.2.1 c.2.2.2.2.2.2.2.2.2.2.2.2.2.2.2.2.2.2.2.2.2.2.2.2.2.2.2.2.2.2.2.1 c.2.2.2.2.2.2.2.2.2.2.2.2.2.2.2.2.2.2.2.2.2.2.2.2.2.2.2.2.2.2.2.2.1 c.2.2.2.2.2.2.2.2.2.2.2.2.2.2.2.2.2.2.2.2.2.2.2.2.2.2.2.2.2.2.2.2.2.1 c.2.2.2.2.2.2.2.2.2.2.2.2.2.2.2.2.2.2.2.2.2.2.2.2.2.2.2.2.2.2.2.2.2.2.1 c.2.2.2.2.2.2.2.2.2.2.2.2.2.2.2.2.2.2.2.2.2.2.2.2.2.2.2.2.2.2.2.2.2.2.2.1 c.2.2.2.2.2.2.2.2.2.2.2.2.2.2.2.2.2.2.2.2.2.2.2.2.2.2.2.2.2.2.2.2.2.2.2.2.1 c.2.2.2.2.2.2.2.2.2.2.2.2.2.2.2.2.2.2.2.2.2.2.2.2.2.2.2.2.2.2.2.2.2.2.2.2.2.1 c.2.2.2.2.2.2.2.2.2.2.2.2.2.2.2.2.2.2.2.2.2.2.2.2.2.2.2.2.2.2.2.2.2.2.2.2.2.2.1 c.2.2.2.2.2.2.2.2.2.2.2.2.2.2.2.2.2.2.2.2.2.2.2.2.2.2.2.2.2.2.2.2.2.2.2.2.2.2.2.1 c.2.2.2.2.2.2.2.2.2.2.2.2.2.2.2.2.2.2.2.2.2.2.2.2.2.2.2.2.2.2.2.2.2.2.2.2.2.2.2.2.1 c.2.2.2.2.2.2.2.2.2.2.2.2.2.2.2.2.2.2.2.2.2.2.2.2.2.2.2.2.2.2.2.2.2.2.2.2.2.2.2.2.2.1 c.2.2.2.2.2.2.2.2.2.2.2.2.2.2.2.2.2.2.2.2.2.2.2.2.2.2.2.2.2.2.2.2.2.2.2.2.2.2.2.2.2.2.1 c.2.2.2.2.2.2.2.2.2.2.2.2.2.2.2.2.2.2.2.2.2.2.2.2.2.2.2.2.2.2.2.2.2.2.2.2.2.2.2.2.2.2.2.1 c.2.2.2.2.2.2.2.2.2.2.2.2.2.2.2.2.2.2.2.2.2.2.2.2.2.2.2.2.2.2.2.2.2.2.2.2.2.2.2.2.2.2.2.2.1 c.2.2.2.2.2.2.2.2.2.2.2.2.2.2.2.2.2.2.2.2.2.2.2.2.2.2.2.2.2.2.2.2.2.2.2.2.2.2.2.2.2.2.2.2.2.1 c.2.2.2.2.2.2.2.2.2.2.2.2.2.2.2.2.2.2.2.2.2.2.2.2.2.2.2.2.2.2.2.2.2.2.2.2.2.2.2.2.2.2.2.2.2.2.1 c.2.2.2.2.2.2.2.2.2.2.2.2.2.2.2.2.2.2.2.2.2.2.2.2.2.2.2.2.2.2.2.2.2.2.2.2.2.2.2.2.2.2.2.2.2.2.2.1 c.2.2.2.2.2.2.2.2.2.2.2.2.2.2.2.2.2.2.2.2.2.2.2.2.2.2.2.2.2.2.2.2.2.2.2.2.2.2.2.2.2.2.2.2.2.2.2.2.1 c.2.2.2.2.2.2.2.2.2.2.2.2.2.2.2.2.2.2.2.2.2.2.2.2.2.2.2.2.2.2.2.2.2.2.2.2.2.2.2.2.2.2.2.2.2.2.2.2.2.1 c.2.2.2.2.2.2.2.2.2.2.2.2.2.2.2.2.2.2.2.2.2.2.2.2.2.2.2.2.2.2.2.2.2.2.2.2.2.2.2.2.2.2.2.2.2.2.2.2.2.2.1 c.2.2.2.2.2.2.2.2.2.2.2.2.2.2.2.2.2.2.2.2.2.2.2.2.2.2.2.2.2.2.2.2.2.2.2.2.2.2.2.2.2.2.2.2.2.2.2.2.2.2.2.1 c.2.2.2.2.2.2.2.2.2.2.2.2.2.2.2.2.2.2.2.2.2.2.2.2.2.2.2.2.2.2.2.2.2.2.2.2.2.2.2.2.2.2.2.2.2.2.2.2.2.2.2.2.1 c.2.2.2.2.2.2.2.2.2.2.2.2.2.2.2.2.2.2.2.2.2.2.2.2.2.2.2.2.2.2.2.2.2.2.2.2.2.2.2.2.2.2.2.2.2.2.2.2.2.2.2.2.2.1 c.2.2.2.2.2.2.2.2.2.2.2.2.2.2.2.2.2.2.2.2.2.2.2.2.2.2.2.2.2.2.2.2.2.2.2.2.2.2.2.2.2.2.2.2.2.2.2.2.2.2.2.2.2.2.1 c.2.2.2.2.2.2.2.2.2.2.2.2.2.2.2.2.2.2.2.2.2.2.2.2.2.2.2.2.2.2.2.2.2.2.2.2.2.2.2.2.2.2.2.2.2.2.2.2.2.2.2.2.2.2.2.1 c.2.2.2.2.2.2.2.2.2.2.2.2.2.2.2.2.2.2.2.2.2.2.2.2.2.2.2.2.2.2.2.2.2.2.2.2.2.2.2.2.2.2.2.2.2.2.2.2.2.2.2.2.2.2.2.2.1 c.2.2.2.2.2.2.2.2.2.2.2.2.2.2.2.2.2.2.2.2.2.2.2.2.2.2.2.2.2.2.2.2.2.2.2.2.2.2.2.2.2.2.2.2.2.2.2.2.2.2.2.2.2.2.2.2.2)
@[irreducible] noncomputable def w := zc.1.1
@[irreducible] noncomputable def p := zc.1.2.1
@[irreducible] noncomputable def loose := zc.1.2.2.1
@[irreducible] noncomputable def mean := zc.1.2.2.2.1
@[irreducible] noncomputable def mg := zc.1.2.2.2.2.1
@[irreducible] noncomputable def mb := zc.1.2.2.2.2.2.1
@[irreducible] noncomputable def rp := zc.1.2.2.2.2.2.2.1
@[irreducible] noncomputable def ak := zc.1.2.2.2.2.2.2.2.1
@[irreducible] noncomputable def lf := zc.1.2.2.2.2.2.2.2.2.1
@[irreducible] noncomputable def nt := zc.1.2.2.2.2.2.2.2.2.2.1
@[irreducible] noncomputable def hk := zc.1.2.2.2.2.2.2.2.2.2.2.1
@[irreducible] noncomputable def hd := zc.1.2.2.2.2.2.2.2.2.2.2.2.1
@[irreducible] noncomputable def lb := zc.1.2.2.2.2.2.2.2.2.2.2.2.2.1
@[irreducible] noncomputable def un := zc.1.2.2.2.2.2.2.2.2.2.2.2.2.2.1
@[irreducible] noncomputable def ud := zc.1.2.2.2.2.2.2.2.2.2.2.2.2.2.2.1
@[irreducible] noncomputable def sl := zc.1.2.2.2.2.2.2.2.2.2.2.2.2.2.2.2.1
@[irreducible] noncomputable def ul := zc.1.2.2.2.2.2.2.2.2.2.2.2.2.2.2.2.2.1
@[irreducible] noncomputable def t := zc.1.2.2.2.2.2.2.2.2.2.2.2.2.2.2.2.2.2.1
@[irreducible] noncomputable def own := zc.1.2.2.2.2.2.2.2.2.2.2.2.2.2.2.2.2.2.2.1
@[irreducible] noncomputable def cn := zc.1.2.2.2.2.2.2.2.2.2.2.2.2.2.2.2.2.2.2.2.1
@[irreducible] noncomputable def cnm := zc.1.2.2.2.2.2.2.2.2.2.2.2.2.2.2.2.2.2.2.2.2.1
@[irreducible] noncomputable def cmo := zc.1.2.2.2.2.2.2.2.2.2.2.2.2.2.2.2.2.2.2.2.2.2.1
@[irreducible] noncomputable def a := zc.1.2.2.2.2.2.2.2.2.2.2.2.2.2.2.2.2.2.2.2.2.2.2.1
@[irreducible] noncomputable def ccd := zc.1.2.2.2.2.2.2.2.2.2.2.2.2.2.2.2.2.2.2.2.2.2.2.2.1
@[irreducible] noncomputable def cl := zc.1.2.2.2.2.2.2.2.2.2.2.2.2.2.2.2.2.2.2.2.2.2.2.2.2.1
@[irreducible] noncomputable def outer := zc.1.2.2.2.2.2.2.2.2.2.2.2.2.2.2.2.2.2.2.2.2.2.2.2.2.2.1
@[irreducible] noncomputable def A₀ := zc.1.2.2.2.2.2.2.2.2.2.2.2.2.2.2.2.2.2.2.2.2.2.2.2.2.2.2.1
@[irreducible] noncomputable def base := zc.1.2.2.2.2.2.2.2.2.2.2.2.2.2.2.2.2.2.2.2.2.2.2.2.2.2.2.2.1
@[irreducible] noncomputable def h₀ := zc.1.2.2.2.2.2.2.2.2.2.2.2.2.2.2.2.2.2.2.2.2.2.2.2.2.2.2.2.2.1
@[irreducible] noncomputable def L := zc.1.2.2.2.2.2.2.2.2.2.2.2.2.2.2.2.2.2.2.2.2.2.2.2.2.2.2.2.2.2.1
@[irreducible] noncomputable def m := zc.1.2.2.2.2.2.2.2.2.2.2.2.2.2.2.2.2.2.2.2.2.2.2.2.2.2.2.2.2.2.2.1
@[irreducible] noncomputable def s := zc.1.2.2.2.2.2.2.2.2.2.2.2.2.2.2.2.2.2.2.2.2.2.2.2.2.2.2.2.2.2.2.2.1
@[irreducible] noncomputable def asked := zc.1.2.2.2.2.2.2.2.2.2.2.2.2.2.2.2.2.2.2.2.2.2.2.2.2.2.2.2.2.2.2.2.2.1
@[irreducible] noncomputable def left := zc.1.2.2.2.2.2.2.2.2.2.2.2.2.2.2.2.2.2.2.2.2.2.2.2.2.2.2.2.2.2.2.2.2.2.1
@[irreducible] noncomputable def notes := zc.1.2.2.2.2.2.2.2.2.2.2.2.2.2.2.2.2.2.2.2.2.2.2.2.2.2.2.2.2.2.2.2.2.2.2.1
@[irreducible] noncomputable def na := zc.1.2.2.2.2.2.2.2.2.2.2.2.2.2.2.2.2.2.2.2.2.2.2.2.2.2.2.2.2.2.2.2.2.2.2.2.1
@[irreducible] noncomputable def nl := zc.1.2.2.2.2.2.2.2.2.2.2.2.2.2.2.2.2.2.2.2.2.2.2.2.2.2.2.2.2.2.2.2.2.2.2.2.2.1
@[irreducible] noncomputable def nn := zc.1.2.2.2.2.2.2.2.2.2.2.2.2.2.2.2.2.2.2.2.2.2.2.2.2.2.2.2.2.2.2.2.2.2.2.2.2.2.1
@[irreducible] noncomputable def nsl := zc.1.2.2.2.2.2.2.2.2.2.2.2.2.2.2.2.2.2.2.2.2.2.2.2.2.2.2.2.2.2.2.2.2.2.2.2.2.2.2.1
@[irreducible] noncomputable def n := zc.1.2.2.2.2.2.2.2.2.2.2.2.2.2.2.2.2.2.2.2.2.2.2.2.2.2.2.2.2.2.2.2.2.2.2.2.2.2.2.2.1
@[irreducible] noncomputable def b := zc.1.2.2.2.2.2.2.2.2.2.2.2.2.2.2.2.2.2.2.2.2.2.2.2.2.2.2.2.2.2.2.2.2.2.2.2.2.2.2.2.2.1
@[irreducible] noncomputable def vs := zc.1.2.2.2.2.2.2.2.2.2.2.2.2.2.2.2.2.2.2.2.2.2.2.2.2.2.2.2.2.2.2.2.2.2.2.2.2.2.2.2.2.2.1
@[irreducible] noncomputable def tb := zc.1.2.2.2.2.2.2.2.2.2.2.2.2.2.2.2.2.2.2.2.2.2.2.2.2.2.2.2.2.2.2.2.2.2.2.2.2.2.2.2.2.2.2.1
@[irreducible] noncomputable def t3 := zc.1.2.2.2.2.2.2.2.2.2.2.2.2.2.2.2.2.2.2.2.2.2.2.2.2.2.2.2.2.2.2.2.2.2.2.2.2.2.2.2.2.2.2.2.1
@[irreducible] noncomputable def t4 := zc.1.2.2.2.2.2.2.2.2.2.2.2.2.2.2.2.2.2.2.2.2.2.2.2.2.2.2.2.2.2.2.2.2.2.2.2.2.2.2.2.2.2.2.2.2.1
@[irreducible] noncomputable def t5 := zc.1.2.2.2.2.2.2.2.2.2.2.2.2.2.2.2.2.2.2.2.2.2.2.2.2.2.2.2.2.2.2.2.2.2.2.2.2.2.2.2.2.2.2.2.2.2.1
@[irreducible] noncomputable def k1 := zc.1.2.2.2.2.2.2.2.2.2.2.2.2.2.2.2.2.2.2.2.2.2.2.2.2.2.2.2.2.2.2.2.2.2.2.2.2.2.2.2.2.2.2.2.2.2.2.1
@[irreducible] noncomputable def k2 := zc.1.2.2.2.2.2.2.2.2.2.2.2.2.2.2.2.2.2.2.2.2.2.2.2.2.2.2.2.2.2.2.2.2.2.2.2.2.2.2.2.2.2.2.2.2.2.2.2.1
@[irreducible] noncomputable def k3 := zc.1.2.2.2.2.2.2.2.2.2.2.2.2.2.2.2.2.2.2.2.2.2.2.2.2.2.2.2.2.2.2.2.2.2.2.2.2.2.2.2.2.2.2.2.2.2.2.2.2.1
@[irreducible] noncomputable def tu := zc.1.2.2.2.2.2.2.2.2.2.2.2.2.2.2.2.2.2.2.2.2.2.2.2.2.2.2.2.2.2.2.2.2.2.2.2.2.2.2.2.2.2.2.2.2.2.2.2.2.2.1
@[irreducible] noncomputable def lobj := zc.1.2.2.2.2.2.2.2.2.2.2.2.2.2.2.2.2.2.2.2.2.2.2.2.2.2.2.2.2.2.2.2.2.2.2.2.2.2.2.2.2.2.2.2.2.2.2.2.2.2.2.1
@[irreducible] noncomputable def rc := zc.1.2.2.2.2.2.2.2.2.2.2.2.2.2.2.2.2.2.2.2.2.2.2.2.2.2.2.2.2.2.2.2.2.2.2.2.2.2.2.2.2.2.2.2.2.2.2.2.2.2.2.2.1
@[irreducible] noncomputable def rd := zc.1.2.2.2.2.2.2.2.2.2.2.2.2.2.2.2.2.2.2.2.2.2.2.2.2.2.2.2.2.2.2.2.2.2.2.2.2.2.2.2.2.2.2.2.2.2.2.2.2.2.2.2.2.1
@[irreducible] noncomputable def fd := zc.1.2.2.2.2.2.2.2.2.2.2.2.2.2.2.2.2.2.2.2.2.2.2.2.2.2.2.2.2.2.2.2.2.2.2.2.2.2.2.2.2.2.2.2.2.2.2.2.2.2.2.2.2.2.1
@[irreducible] noncomputable def rsl := zc.1.2.2.2.2.2.2.2.2.2.2.2.2.2.2.2.2.2.2.2.2.2.2.2.2.2.2.2.2.2.2.2.2.2.2.2.2.2.2.2.2.2.2.2.2.2.2.2.2.2.2.2.2.2.2.1
@[irreducible] noncomputable def S := zc.1.2.2.2.2.2.2.2.2.2.2.2.2.2.2.2.2.2.2.2.2.2.2.2.2.2.2.2.2.2.2.2.2.2.2.2.2.2.2.2.2.2.2.2.2.2.2.2.2.2.2.2.2.2.2.2.1
@[irreducible] noncomputable def Q := zc.1.2.2.2.2.2.2.2.2.2.2.2.2.2.2.2.2.2.2.2.2.2.2.2.2.2.2.2.2.2.2.2.2.2.2.2.2.2.2.2.2.2.2.2.2.2.2.2.2.2.2.2.2.2.2.2.2.1
@[irreducible] noncomputable def E := zc.1.2.2.2.2.2.2.2.2.2.2.2.2.2.2.2.2.2.2.2.2.2.2.2.2.2.2.2.2.2.2.2.2.2.2.2.2.2.2.2.2.2.2.2.2.2.2.2.2.2.2.2.2.2.2.2.2.2
noncomputable def zpart0 : { R : ((Heap) → (Addr) → (Heap) → (Nat) → (List Str) → (List Int) → Prop) // Hide (∀ g' L' h' tk AA NN, R g' L' h' tk AA NN) → zP w p loose mean mg mb rp ak lf nt hk hd lb un ud sl ul t own cn cnm cmo a ccd cl outer A₀ base h₀ L m s asked left notes na nl nn nsl n b vs tb t3 t4 t5 k1 k2 k3 tu lobj rc rd fd rsl S Q E } := by
  refine' ⟨_, fun hP1 => ?main⟩
  case main =>
    intro B F X T N P hb R hsub hta htl hsys hne hap hap2 hsz hend
    w_on
    repeat' (first | (k_unfold; (try dsimp only)) | (k_end; wrow_close) | ((first | with_reducible ((with_reducible show wpAny _ _ (exec (Stmt.While ..) _) _ _ _); k_dflt (refine stop_ ?_)) | walk1); (try ((with_reducible show wpAny _ _ (execs _ _) _ _ (Shared.mk _ _ _ (_ + 1) _)); refine tok_any ?_; intro tkn))) | (dsimp only; walk1) | (leave1; (try dsimp only)))
    rename_i g' L' h' FG' F' N' B' X' T'
    unfold Stop
    refine cps fun zG zk => ?_
    obtain ⟨AA, hAA⟩ : ∃ AA, AA = asked.map Prod.fst ++ askOf S b (left.map Prod.fst) := ⟨_, rfl⟩
    obtain ⟨NN, hNN⟩ : ∃ NN, NN = notes.map Prod.fst ++ noteOf S b (left.map Prod.fst) := ⟨_, rfl⟩
    refine zk ?_
    clear zk zG
    rw [← hAA, ← hNN] at hend
    ((try clear N); (try clear T); (try clear F); (try clear B))
    revert X P hb R hsub hta htl hsys hne hap hap2 hsz FG' F' N' B' X' T' qk ek hAA hend hNN
    exact hP1.out g' L' h' tk AA NN
namespace z1
noncomputable def zc := eps (α := (Heap) × (Addr) × (Heap) × (Nat) × (List Str) × (List Int)) ⟨{}, default, {}, default, default, default⟩ (fun c => zpart0.1 c.1 c.2.1 c.2.2.1 c.2.2.2.1 c.2.2.2.2.1 c.2.2.2.2.2)
@[irreducible] noncomputable def g' := zc.1.1
@[irreducible] noncomputable def L' := zc.1.2.1
@[irreducible] noncomputable def h' := zc.1.2.2.1
@[irreducible] noncomputable def tk := zc.1.2.2.2.1
@[irreducible] noncomputable def AA := zc.1.2.2.2.2.1
@[irreducible] noncomputable def NN := zc.1.2.2.2.2.2
noncomputable def zpart1 : { R : ((Nat) → (List (Str × Tok)) → (List (Int × Tok)) → (List (Int × Tok)) → (Nat) → (Nat) → (Nat) → (Nat) → (Tok) → (Heap) → (Nat) → (Str → Option Value) → (SRec) → Prop) // Hide (∀ k asked left notes na nl nn i ti h' tk m' r, R k asked left notes na nl nn i ti h' tk m' r) → zpart0.1 g' L' h' tk AA NN } := by
  refine' ⟨_, fun hP2 => ?main⟩
  case main =>
    intro X P hb R hsub hta htl hsys hne hap hap2 hsz FG' F' N' B' X' T' qk ek hAA hend hNN
    refine whl_start 0 ?_
    refine whl_ind (fun k s' => ∃ (asked : List (Str × Tok)) (left notes : List (Int × Tok)) (na nl nn i : Nat) (ti : Tok) (h' : Heap) (tk : Nat) (m' : Str → Option Value), left.length = k ∧ i < n ∧ asked.map Prod.fst ++ askOf S i (left.map Prod.fst) = AA ∧ notes.map Prod.fst ++ noteOf S i (left.map Prod.fst) = NN ∧ notes.length + 2 * left.length ≤ 500 ∧ asked.length + left.length ≤ 500 ∧ s' = { s with heap := h', toks := tk } ∧
      Fr g' L' h' (fun y => if y = "at" then some (.int i ti) else if y = "unit" then some (.ref un) else if y = "hooks" then some (.ref hk) else m' y) ∧
      News g' L' h' ((nt, W.listOf (notes.map intV).toArray nn) :: (ak, W.listOf (asked.map strV).toArray na) :: (lf, W.listOf (left.map intV).toArray nl) :: (hk, hooksO hd) :: (hd, hooksD w.params t3 t4 t5 rp lb nt) :: (lb, lobj) :: (rp, ⟨rc, rd, .func fd, rsl⟩) :: (un, instObj 334 ud) :: (ud, unitD w.params k1 k2 k3 tu sl ul) :: (sl, W.listOf vs.toArray nsl) :: own)) ?_ left.length _ ?_
    · intro k s' hI IH
      refine cps fun zG zk => ?_
      obtain ⟨asked, left, notes, na, nl, nn, i, ti, h', tk, m', hk', hi, hA, hN, hn5, ha5, rfl, F'', N''⟩ := hI
      refine zk ?_
      clear zk zG
      ((try clear N'); (try clear F'))
      refine cps fun zG zk => ?_
      obtain ⟨p1, p2, p3, p4⟩ := P.sx i hi
      refine zk ?_
      clear zk zG
      have hit := P.item i hi
      have hEnd := P.noEnd i hi
      have hxl := P.xl i hi
      have hmem := P.mem i hi
      have hLs : LabO w lobj (S i).sx (S (S i).s).ta := p1 ▸ P.lab _ p3
      have hLf : LabO w lobj (S i).fx (S (S i).f).ta := p2 ▸ P.lab _ p4
      have hts : ((S (S i).s).ta, tup [.ref un, .int (S i).s (S (S i).s).ti]) ∈ own := P.mem _ p3 _ (by unfold SRec.all; simp)
      have htf : ((S (S i).f).ta, tup [.ref un, .int (S i).f (S (S i).f).ti]) ∈ own := P.mem _ p4 _ (by unfold SRec.all; simp)
      have hA0 : left = [] → ∀ tk : Tok, (asked ++ [(Str.ofString "call" ++ (S i).x, tk)]).map Prod.fst = AA := fun e tk => by rw [← hA, e]; simp [askOf]
      have hN0 : left = [] → ∀ tk : Tok, (notes ++ [((i : Int), tk)]).map Prod.fst = NN := fun e tk => by rw [← hN, e]; simp [noteOf]
      have hA1 : ∀ b r, left = b :: r → b.1 = 1 → ∀ tk : Tok, (asked ++ [(Str.ofString "call" ++ (S i).x, tk)]).map Prod.fst ++ askOf S (S i).s (r.map Prod.fst) = AA := fun b r e e1 tk => by rw [← hA, e]; simp [askOf, e1]
      have hN1 : ∀ b r, left = b :: r → b.1 = 1 → ∀ tk : Tok, (notes ++ [((i : Int), tk)]).map Prod.fst ++ noteOf S (S i).s (r.map Prod.fst) = NN := fun b r e e1 tk => by rw [← hN, e]; simp [noteOf, e1]
      have hA2 : ∀ b r, left = b :: r → b.1 ≠ 1 → ∀ tk : Tok, (asked ++ [(Str.ofString "call" ++ (S i).x, tk)]).map Prod.fst ++ askOf S (S i).f (r.map Prod.fst) = AA := fun b r e e1 tk => by rw [← hA, e]; simp [askOf, e1]
      have hN2 : ∀ b r, left = b :: r → b.1 ≠ 1 → ∀ tk tk' : Tok, (notes ++ [((i : Int), tk), (-1, tk')]).map Prod.fst ++ noteOf S (S i).f (r.map Prod.fst) = NN := fun b r e e1 tk tk' => by rw [← hN, e]; simp [noteOf, e1]
      ((try clear hN); (try clear hA))
      have hlen := P.len
      have hsm := P.small
      generalize S i = r at *
      have hoff : ∀ q ∈ r.all w.params un i ++ ((hk, hooksO hd) :: (hd, hooksD w.params t3 t4 t5 rp lb nt) :: (lb, lobj) :: (rp, ⟨rc, rd, .func fd, rsl⟩) :: (un, instObj 334 ud) :: (ud, unitD w.params k1 k2 k3 tu sl ul) :: (sl, W.listOf vs.toArray nsl) :: own), @Ne Nat q.1 nt ∧ @Ne Nat q.1 ak ∧ @Ne Nat q.1 lf := fun q hq => by
        rcases List.mem_append.mp hq with hq | hq
        · exact hap q (hmem q hq)
        · have hB := hap2
          simp only [List.forall_mem_cons, List.not_mem_nil, false_implies, implies_true, and_true] at hB
          refine cps fun zG zk => ?_
          obtain ⟨b1, b2, b3, b4, b5, b6, b7⟩ := hB
          refine zk ?_
          clear zk zG
          rcases List.mem_cons.mp hq with rfl | hq
          · exact b1
          rcases List.mem_cons.mp hq with rfl | hq
          · exact b2
          rcases List.mem_cons.mp hq with rfl | hq
          · exact b3
          rcases List.mem_cons.mp hq with rfl | hq
          · exact b4
          rcases List.mem_cons.mp hq with rfl | hq
          · exact b5
          rcases List.mem_cons.mp hq with rfl | hq
          · exact b6
          rcases List.mem_cons.mp hq with rfl | hq
          · exact b7
          exact hap q hq
      have N₄ : News g' L' h' ((nt, W.listOf (notes.map intV).toArray nn) :: (ak, W.listOf (asked.map strV).toArray na) :: (lf, W.listOf (left.map intV).toArray nl) :: (r.all w.params un i ++ ((hk, hooksO hd) :: (hd, hooksD w.params t3 t4 t5 rp lb nt) :: (lb, lobj) :: (rp, ⟨rc, rd, .func fd, rsl⟩) :: (un, instObj 334 ud) :: (ud, unitD w.params k1 k2 k3 tu sl ul) :: (sl, W.listOf vs.toArray nsl) :: own))) := fun q hq => by
        rcases List.mem_cons.mp hq with rfl | hq
        · exact N'' _ (.head _)
        rcases List.mem_cons.mp hq with rfl | hq
        · exact N'' _ (.tail _ (.head _))
        rcases List.mem_cons.mp hq with rfl | hq
        · exact N'' _ (.tail _ (.tail _ (.head _)))
        rcases List.mem_append.mp hq with hq | hq
        · exact N'' _ (by repeat (first | exact hmem q hq | apply List.Mem.tail))
        · exact N'' _ (.tail _ (.tail _ (.tail _ hq)))
      ((try clear N''))
      have ho1 := fun q hq => (hoff q hq).1
      have ho2 := fun q hq => (hoff q hq).2.1
      have ho3 := fun q hq => (hoff q hq).2.2
      ((try clear hoff))
      unfold SRec.all at N₄ ho1 ho2 ho3
      simp only [List.cons_append, List.nil_append] at N₄ ho1 ho2 ho3
      ((try clear hmem); (try clear p2); (try clear p1); (try clear hNN); (try clear hAA); (try clear hsz); (try clear hap2); (try clear hap); (try clear P))
      revert X hb R hsub hta htl hsys hne FG' B' X' T' qk ek hend IH hk' hi hn5 ha5 F'' hN0 hlen hsm p3 p4 hit hEnd hxl hLs hLf hts htf hA0 hA1 hN1 hA2 hN2 N₄ ho1 ho2 ho3
      exact hP2.out k asked left notes na nl nn i ti h' tk m' r
    · exact ⟨asked, left, notes, na, nl, nn, b, tb, _, _, _, rfl, hb, hAA.symm, hNN.symm, hsz.1, hsz.2, rfl, fr_names F' rfl rfl rfl, N'⟩

namespace z2
noncomputable def zc := eps (α := (Nat) × (List (Str × Tok)) × (List (Int × Tok)) × (List (Int × Tok)) × (Nat) × (Nat) × (Nat) × (Nat) × (Tok) × (Heap) × (Nat) × (Str → Option Value) × (SRec)) ⟨default, default, default, default, default, default, default, default, default, {}, default, (fun _ => default), by constructor <;> exact default⟩ (fun c => zpart1.1 c.1 c.2.1 c.2.2.1 c.2.2.2.1 c.2.2.2.2.1 c.2.2.2.2.2.1 c.2.2.2.2.2.2.1 c.2.2.2.2.2.2.2.1 c.2.2.2.2.2.2.2.2.1 c.2.2.2.2.2.2.2.2.2.1 c.2.2.2.2.2.2.2.2.2.2.1 c.2.2.2.2.2.2.2.2.2.2.2.1 c.2.2.2.2.2.2.2.2.2.2.2.2)
@[irreducible] noncomputable def k := zc.1.1
@[irreducible] noncomputable def asked := zc.1.2.1
@[irreducible] noncomputable def left := zc.1.2.2.1
@[irreducible] noncomputable def notes := zc.1.2.2.2.1
@[irreducible] noncomputable def na := zc.1.2.2.2.2.1
@[irreducible] noncomputable def nl := zc.1.2.2.2.2.2.1
@[irreducible] noncomputable def nn := zc.1.2.2.2.2.2.2.1
@[irreducible] noncomputable def i := zc.1.2.2.2.2.2.2.2.1
@[irreducible] noncomputable def ti := zc.1.2.2.2.2.2.2.2.2.1
@[irreducible] noncomputable def h' := zc.1.2.2.2.2.2.2.2.2.2.1
@[irreducible] noncomputable def tk := zc.1.2.2.2.2.2.2.2.2.2.2.1
@[irreducible] noncomputable def m' := zc.1.2.2.2.2.2.2.2.2.2.2.2.1
@[irreducible] noncomputable def r := zc.1.2.2.2.2.2.2.2.2.2.2.2.2
noncomputable def zpart2 : { R : ((Heap) → (Int × Tok) → (List (Int × Tok)) → (Heap) → (Nat) → (Tok) → (Nat) → (Nat) → (Heap) → (Nat) → Prop) × ((Heap) → (Int × Tok) → (List (Int × Tok)) → (Heap) → (Nat) → (Tok) → (Nat) → (Nat) → Prop) × ((Heap) → (Heap) → (Heap) → (Nat) → (Tok) → (Nat) → (Addr) → (Addr) → (Obj) → (Tok) → (Value) → Prop) // Hide (∀ z3_7 z3_19 z3_20 z3_21 z3_22 z3_23 z3_24 z3_25 z3_29 tkn, R.1 z3_7 z3_19 z3_20 z3_21 z3_22 z3_23 z3_24 z3_25 z3_29 tkn) → Hide (∀ z4_9 z4_23 z4_24 z4_25 z4_26 z4_27 z4_28 z4_29, R.2.1 z4_9 z4_23 z4_24 z4_25 z4_26 z4_27 z4_28 z4_29) → Hide (∀ z5_9 z5_23 z5_24 z5_25 z5_26 z5_27 z5_28 z5_29 z5_30 z5_31 z5_32, R.2.2 z5_9 z5_23 z5_24 z5_25 z5_26 z5_27 z5_28 z5_29 z5_30 z5_31 z5_32) → zpart1.1 k asked left notes na nl nn i ti h' tk m' r } := by
  refine' ⟨(_, _, _), fun hP3 hP4 hP5 => ?main⟩
  case main =>
    intro X hb R hsub hta htl hsys hne FG' B' X' T' qk ek hend IH hk' hi hn5 ha5 F'' hN0 hlen hsm p3 p4 hit hEnd hxl hLs hLf hts htf hA0 hA1 hN1 hA2 hN2 N₄ ho1 ho2 ho3
    iterate 80 (first | (k_unfold; (try dsimp only)) | (k_end; wrow_close) | ((first | with_reducible (k_here; (with_reducible show wpAny _ _ (call (Value.builtin _) [Value.ref sl]) _ _ _); k_dflt (refine' len_list ?k1x11 ?k2x11 ?_; (case k1x11 => exact News.isList (by k_asm) (by k_mem)); (case k2x11 => (rw [List.size_toArray, hlen]; exact (qib hsm (by decide)))))) | with_reducible (refine WhlIf.yes (by rw [List.size_toArray, hlen]; exact decide_eq_true (by exact (qcl hi))) ?_) | with_reducible (k_here; (with_reducible show wpAny _ _ (subscriptTail _ _ (Value.ref sl) _) _ _ _); (with_unfolding_all refine' item_litK ?k1x13 ?k2x13 ?k3x13 hit ?_ ?k6x13; (case k1x13 => first | is_list | exact News.isList (by assumption) (by repeat (first | exact List.Mem.head _ | apply List.Mem.tail))); (case k2x13 => exact (Int.natCast_nonneg _)); (case k3x13 => exact (qib (Nat.le_of_lt hi) (q1k hsm (by decide)))); (case k6x13 => with_unfolding_all rfl); k_whole)) | with_reducible (k_here; first | refine ite_pos (by with_reducible assumption) ?_ | refine ite_neg (by with_reducible assumption) ?_ | refine ite_isFalse (by with_reducible assumption) ?_) | with_reducible ((with_reducible show wpAny _ _ (call (Value.builtin _) _) _ _ _); k_here; (try dsimp only [List.nil_append, List.cons_append]); k_dflt (refine' append_K ?k1x15 ?k2x15 ?k3x15 ?_ ?zx15; (case k1x15 => k_asm); (case k2x15 => k_asm); (case k3x15 => k_upd); (case zx15 => size_fits); k_whole); intro _ _ _; (try k_sweep)) | with_reducible (k_here; (with_reducible show wpAny _ _ (call (Value.ref 254) _) _ _ _); k_dflt (refine wp_le (d := 560) (u := 4600) ?_ (Nat.le_of_ble_eq_true rfl) (Nat.le_of_ble_eq_true rfl)); k_dflt (refine' rowB_use w (asked := asked) (left := left) (na := na) (nl := nl) ?Bx16 ?Fx16 ?Xx16 ?Tx16 ?Nx16 ?restx16 ?m1x16 ?m2x16 ?m3x16 ?m4x16 ?m5x16 ?m6x16 R ?subx16 hta htl hne.2.2 ?alx16 ?llx16 hxl ho2 ho3 ?U1x16 ?U2x16 ?_ ?_ ?_; (case Nx16 => k_asm); (case Bx16 => k_asm); (case Fx16 => k_asm); (case Xx16 => k_asm); (case Tx16 => k_asm); (case restx16 => (intro q hq; repeat (first | exact hq | apply List.Mem.tail))); (case m1x16 => k_mem); (case m2x16 => k_mem); (case m3x16 => k_mem); (case m4x16 => k_mem); (case m5x16 => k_mem); (case m6x16 => k_mem); (case U1x16 => k_updF); (case U2x16 => (intro o; k_updF)); (case alx16 => exact (qadd (Nat.le_trans ha5 (by decide)))); (case llx16 => exact (qadd' (Nat.le_trans ha5 (by decide)))); (case subx16 => (intro q hq; have hq' := hsub q hq; repeat (first | exact hq' | apply List.Mem.tail)))); (all_goals (intros; try dsimp only at *))) | walk1); (try ((with_reducible show wpAny _ _ (execs _ _) _ _ (Shared.mk _ _ _ (_ + 1) _)); refine tok_any ?_; intro tkn))) | (dsimp only; walk1) | (leave1; (try dsimp only)))
    · skip
      rename_i z3_1 z3_2 z3_3 z3_4 z3_5 z3_6 z3_7 z3_8 z3_9 z3_10 z3_11 z3_12 z3_13 z3_14 z3_15 z3_16 z3_17 z3_18 z3_19 z3_20 z3_21 z3_22 z3_23 z3_24 z3_25 z3_26 z3_27
        z3_28 z3_29 z3_30 z3_31
      ((try clear z3_15); (try clear z3_14); (try clear ek); (try clear qk); (try clear z3_12); (try clear z3_10); (try clear ho3); (try clear ho2); (try clear ho1); (try clear hN2); (try clear hA2); (try clear hA0); (try clear htf); (try clear hLf); (try clear hxl); (try clear hEnd); (try clear hit); (try clear p4); (try clear hsm); (try clear hlen); (try clear hN0); (try clear hi); (try clear hend); (try clear T'); (try clear FG'); (try clear hne); (try clear htl); (try clear hta); (try clear hsub); (try clear R); (try clear hb))
      revert X hsys B' X' z3_1 z3_2 IH hk' hn5 ha5 p3 hLs hts hA1 hN1 z3_11 z3_17 z3_18 z3_27 z3_28 z3_30 z3_31
      exact hP3.out z3_7 z3_19 z3_20 z3_21 z3_22 z3_23 z3_24 z3_25 z3_29 tkn
    · skip
      rename_i z4_1 z4_2 z4_3 z4_4 z4_5 z4_6 z4_7 z4_8 z4_9 z4_10 z4_11 z4_12 z4_13 z4_14 z4_15 z4_16 z4_17 z4_18 z4_19 z4_20 z4_21 z4_22 z4_23 z4_24 z4_25 z4_26 z4_27
        z4_28 z4_29 z4_30 z4_31 z4_32 z4_33
      ((try clear z4_20); (try clear z4_19); (try clear z4_18); (try clear z4_17); (try clear ek); (try clear qk); (try clear z4_15); (try clear z4_13); (try clear z4_12); (try clear z4_6); (try clear z4_5); (try clear ho3); (try clear ho2); (try clear hN1); (try clear hA1); (try clear hA0); (try clear hts); (try clear hLs); (try clear hxl); (try clear hEnd); (try clear hit); (try clear p3); (try clear hsm); (try clear hlen); (try clear hN0); (try clear hi); (try clear hend); (try clear T'); (try clear FG'); (try clear htl); (try clear hta); (try clear hsub); (try clear R); (try clear hb))
      revert X hsys hne B' X' z4_1 z4_2 IH hk' hn5 ha5 p4 hLf htf hA2 hN2 ho1 z4_14 z4_21 z4_22 z4_30 z4_31 z4_32 z4_33
      exact hP4.out z4_9 z4_23 z4_24 z4_25 z4_26 z4_27 z4_28 z4_29
    · skip
      rename_i z5_1 z5_2 z5_3 z5_4 z5_5 z5_6 z5_7 z5_8 z5_9 z5_10 z5_11 z5_12 z5_13 z5_14 z5_15 z5_16 z5_17 z5_18 z5_19 z5_20 z5_21 z5_22 z5_23 z5_24 z5_25 z5_26 z5_27
        z5_28 z5_29 z5_30 z5_31 z5_32 z5_33 z5_34 z5_35 z5_36 z5_37
      ((try clear z5_21); (try clear z5_20); (try clear z5_19); (try clear z5_18); (try clear z5_17); (try clear ek); (try clear qk); (try clear z5_15); (try clear z5_13); (try clear z5_12); (try clear z5_6); (try clear z5_5); (try clear ho3); (try clear ho2); (try clear ho1); (try clear hN2); (try clear hA2); (try clear hN1); (try clear hA1); (try clear htf); (try clear hts); (try clear hLf); (try clear hLs); (try clear hxl); (try clear hEnd); (try clear hit); (try clear p4); (try clear p3); (try clear hsm); (try clear hlen); (try clear ha5); (try clear hn5); (try clear hi); (try clear hk'); (try clear IH); (try clear z5_1); (try clear T'); (try clear hne); (try clear hsys); (try clear htl); (try clear hta); (try clear hsub); (try clear R); (try clear hb))
      revert X FG' B' X' z5_2 hend hN0 hA0 z5_14 z5_22 z5_33 z5_34 z5_35 z5_36 z5_37
      exact hP5.out z5_9 z5_23 z5_24 z5_25 z5_26 z5_27 z5_28 z5_29 z5_30 z5_31 z5_32
namespace z3
noncomputable def zc := eps (α := (Heap) × (Int × Tok) × (List (Int × Tok)) × (Heap) × (Nat) × (Tok) × (Nat) × (Nat) × (Heap) × (Nat)) ⟨{}, default, default, {}, default, default, default, default, {}, default⟩ (fun c => zpart2.1.1 c.1 c.2.1 c.2.2.1 c.2.2.2.1 c.2.2.2.2.1 c.2.2.2.2.2.1 c.2.2.2.2.2.2.1 c.2.2.2.2.2.2.2.1 c.2.2.2.2.2.2.2.2.1 c.2.2.2.2.2.2.2.2.2)
@[irreducible] noncomputable def z3_7 := zc.1.1
@[irreducible] noncomputable def z3_19 := zc.1.2.1
@[irreducible] noncomputable def z3_20 := zc.1.2.2.1
@[irreducible] noncomputable def z3_21 := zc.1.2.2.2.1
@[irreducible] noncomputable def z3_22 := zc.1.2.2.2.2.1
@[irreducible] noncomputable def z3_23 := zc.1.2.2.2.2.2.1
@[irreducible] noncomputable def z3_24 := zc.1.2.2.2.2.2.2.1
@[irreducible] noncomputable def z3_25 := zc.1.2.2.2.2.2.2.2.1
@[irreducible] noncomputable def z3_29 := zc.1.2.2.2.2.2.2.2.2.1
@[irreducible] noncomputable def tkn := zc.1.2.2.2.2.2.2.2.2.2
theorem zat : zpart2.1.1 z3_7 z3_19 z3_20 z3_21 z3_22 z3_23 z3_24 z3_25 z3_29 tkn := by
  intro X hsys B' X' z3_1 z3_2 IH hk' hn5 ha5 p3 hLs hts hA1 hN1 z3_11 z3_17 z3_18 z3_27 z3_28 z3_30 z3_31
  repeat' (first | (k_unfold; (try dsimp only)) | (k_end; wrow_close) | ((first | with_reducible (k_here; (with_reducible show wpAny _ _ (call (Value.ref 289) _) _ _ _); k_dflt (refine wp_le (d := 560) (u := 4600) ?_ (Nat.le_of_ble_eq_true rfl) (Nat.le_of_ble_eq_true rfl)); k_dflt (refine' goalC_use _ ?Bx17 ?Fx17 ?Xx17 ?Tx17 ?Nx17 ?m1x17 ?m2x17 ?m3x17 ?m4x17 ?m5x17 ?m6x17 ?LBx17 ?sysx17 ?_;  (case Nx17 => k_asm); (case Bx17 => k_asm); (case Fx17 => k_asm); (case Xx17 => k_asm); (case Tx17 => k_asm); (case m1x17 => k_mem); (case m2x17 => k_mem); (case m3x17 => k_mem); (case m4x17 => k_mem); (case m5x17 => k_mem); (case LBx17 => assumption); (case m6x17 => k_mem); (case sysx17 => assumption)); intro _ _ _ _ _ _ _) | with_reducible ((with_reducible show WhlRest _ _ _ _ _ _ _ _ _ 0 _); k_dflt (refine stop_ ?_)) | walk1); (try ((with_reducible show wpAny _ _ (execs _ _) _ _ (Shared.mk _ _ _ (_ + 1) _)); refine tok_any ?_; intro tkn))) | (dsimp only; walk1) | (leave1; (try dsimp only)))
  unfold Stop
  rename left = _ :: _ => hl
  rename _ = (1 : Int) => hb1
  rename News _ _ _ _ => N9
  rename Fr _ _ _ _ => F9
  refine' IH _ _ (by rw [← hk', hl]; exact Nat.lt_succ_self _) ⟨asked ++ [_], _, notes ++ [_], _, _, _, r.s, _, _, _, _, rfl, p3, hA1 _ _ hl hb1 _, hN1 _ _ hl hb1 _, ?g1, ?g2, rfl, fr_names F9 rfl rfl rfl, ?g3⟩
  case g1 => rw [hl, List.length_cons] at hn5; rw [List.length_append, List.length_singleton]; exact (qh3 hn5)
  case g2 => rw [hl, List.length_cons] at ha5; rw [List.length_append, List.length_singleton]; exact (qh1 ha5)
  case g3 =>
    simp only [List.map_append, List.map_cons, List.map_nil]
    simp only [List.map_append, List.map_cons, List.map_nil] at N9
    intro q hq
    repeat (rcases List.mem_cons.mp hq with rfl | hq; (first | exact N9 _ (by k_mem)))
    exact N9 q (by repeat (first | exact hq | apply List.Mem.tail))
theorem zall : ∀ z3_7 z3_19 z3_20 z3_21 z3_22 z3_23 z3_24 z3_25 z3_29 tkn, zpart2.1.1 z3_7 z3_19 z3_20 z3_21 z3_22 z3_23 z3_24 z3_25 z3_29 tkn := fun z3_7 z3_19 z3_20 z3_21 z3_22 z3_23 z3_24 z3_25 z3_29 tkn => @epsH _ _ zc (by with_unfolding_all exact zat) (z3_7, z3_19, z3_20, z3_21, z3_22, z3_23, z3_24, z3_25, z3_29, tkn)
end z3
namespace z4
noncomputable def zc := eps (α := (Heap) × (Int × Tok) × (List (Int × Tok)) × (Heap) × (Nat) × (Tok) × (Nat) × (Nat)) ⟨{}, default, default, {}, default, default, default, default⟩ (fun c => zpart2.1.2.1 c.1 c.2.1 c.2.2.1 c.2.2.2.1 c.2.2.2.2.1 c.2.2.2.2.2.1 c.2.2.2.2.2.2.1 c.2.2.2.2.2.2.2)
@[irreducible] noncomputable def z4_9 := zc.1.1
@[irreducible] noncomputable def z4_23 := zc.1.2.1
@[irreducible] noncomputable def z4_24 := zc.1.2.2.1
@[irreducible] noncomputable def z4_25 := zc.1.2.2.2.1
@[irreducible] noncomputable def z4_26 := zc.1.2.2.2.2.1
@[irreducible] noncomputable def z4_27 := zc.1.2.2.2.2.2.1
@[irreducible] noncomputable def z4_28 := zc.1.2.2.2.2.2.2.1
@[irreducible] noncomputable def z4_29 := zc.1.2.2.2.2.2.2.2
theorem zat : zpart2.1.2.1 z4_9 z4_23 z4_24 z4_25 z4_26 z4_27 z4_28 z4_29 := by
  intro X hsys hne B' X' z4_1 z4_2 IH hk' hn5 ha5 p4 hLf htf hA2 hN2 ho1 z4_14 z4_21 z4_22 z4_30 z4_31 z4_32 z4_33
  repeat' (first | (k_unfold; (try dsimp only)) | (k_end; wrow_close) | ((first | with_reducible ((with_reducible show wpAny _ _ (call (Value.builtin _) _) _ _ _); k_here; (try dsimp only [List.nil_append, List.cons_append]); k_dflt (refine' append_K ?k1x19 ?k2x19 ?k3x19 ?_ ?zx19; (case k1x19 => k_asm); (case k2x19 => k_asm); (case k3x19 => k_upd); (case zx19 => size_fits); k_whole); intro _ _ _; (try k_sweep)) | with_reducible (k_here; (with_reducible show wpAny _ _ (call (Value.ref 289) _) _ _ _); k_dflt (refine wp_le (d := 560) (u := 4600) ?_ (Nat.le_of_ble_eq_true rfl) (Nat.le_of_ble_eq_true rfl)); k_dflt (refine' goalC_use _ ?Bx20 ?Fx20 ?Xx20 ?Tx20 ?Nx20 ?m1x20 ?m2x20 ?m3x20 ?m4x20 ?m5x20 ?m6x20 ?LBx20 ?sysx20 ?_;  (case Nx20 => k_asm); (case Bx20 => k_asm); (case Fx20 => k_asm); (case Xx20 => k_asm); (case Tx20 => k_asm); (case m1x20 => k_mem); (case m2x20 => k_mem); (case m3x20 => k_mem); (case m4x20 => k_mem); (case m5x20 => k_mem); (case LBx20 => assumption); (case m6x20 => k_mem); (case sysx20 => assumption)); intro _ _ _ _ _ _ _) | with_reducible ((with_reducible show WhlRest _ _ _ _ _ _ _ _ _ 0 _); k_dflt (refine stop_ ?_)) | walk1); (try ((with_reducible show wpAny _ _ (execs _ _) _ _ (Shared.mk _ _ _ (_ + 1) _)); refine tok_any ?_; intro tkn))) | (dsimp only; walk1) | (leave1; (try dsimp only)))
  unfold Stop
  rename left = _ :: _ => hl
  rename ¬ (_ = (1 : Int)) => hb1
  rename News _ _ _ _ => N9
  rename Fr _ _ _ _ => F9
  refine' IH _ _ (by rw [← hk', hl]; exact Nat.lt_succ_self _) ⟨asked ++ [_], _, notes ++ [_, _], _, _, _, r.f, _, _, _, _, rfl, p4, hA2 _ _ hl hb1 _, hN2 _ _ hl hb1 _ _, ?g1, ?g2, rfl, fr_names F9 rfl rfl rfl, ?g3⟩
  case g1 => rw [hl, List.length_cons] at hn5; rw [List.length_append]; simp only [List.length_cons, List.length_nil]; exact (qh2 hn5)
  case g2 => rw [hl, List.length_cons] at ha5; rw [List.length_append, List.length_singleton]; exact (qh1 ha5)
  case g3 =>
    simp only [List.map_append, List.map_cons, List.map_nil]
    simp only [List.map_append, List.map_cons, List.map_nil, List.append_assoc, List.cons_append, List.nil_append] at N9
    intro q hq
    repeat (rcases List.mem_cons.mp hq with rfl | hq; (first | exact N9 _ (by k_mem)))
    exact N9 q (by repeat (first | exact hq | apply List.Mem.tail))
theorem zall : ∀ z4_9 z4_23 z4_24 z4_25 z4_26 z4_27 z4_28 z4_29, zpart2.1.2.1 z4_9 z4_23 z4_24 z4_25 z4_26 z4_27 z4_28 z4_29 := fun z4_9 z4_23 z4_24 z4_25 z4_26 z4_27 z4_28 z4_29 => @epsH _ _ zc (by with_unfolding_all exact zat) (z4_9, z4_23, z4_24, z4_25, z4_26, z4_27, z4_28, z4_29)
end z4
namespace z5
noncomputable def zc := eps (α := (Heap) × (Heap) × (Heap) × (Nat) × (Tok) × (Nat) × (Addr) × (Addr) × (Obj) × (Tok) × (Value)) ⟨{}, {}, {}, default, default, default, default, default, default, default, default⟩ (fun c => zpart2.1.2.2 c.1 c.2.1 c.2.2.1 c.2.2.2.1 c.2.2.2.2.1 c.2.2.2.2.2.1 c.2.2.2.2.2.2.1 c.2.2.2.2.2.2.2.1 c.2.2.2.2.2.2.2.2.1 c.2.2.2.2.2.2.2.2.2.1 c.2.2.2.2.2.2.2.2.2.2)
@[irreducible] noncomputable def z5_9 := zc.1.1
@[irreducible] noncomputable def z5_23 := zc.1.2.1
@[irreducible] noncomputable def z5_24 := zc.1.2.2.1
@[irreducible] noncomputable def z5_25 := zc.1.2.2.2.1
@[irreducible] noncomputable def z5_26 := zc.1.2.2.2.2.1
@[irreducible] noncomputable def z5_27 := zc.1.2.2.2.2.2.1
@[irreducible] noncomputable def z5_28 := zc.1.2.2.2.2.2.2.1
@[irreducible] noncomputable def z5_29 := zc.1.2.2.2.2.2.2.2.1
@[irreducible] noncomputable def z5_30 := zc.1.2.2.2.2.2.2.2.2.1
@[irreducible] noncomputable def z5_31 := zc.1.2.2.2.2.2.2.2.2.2.1
@[irreducible] noncomputable def z5_32 := zc.1.2.2.2.2.2.2.2.2.2.2
theorem zat : zpart2.1.2.2 z5_9 z5_23 z5_24 z5_25 z5_26 z5_27 z5_28 z5_29 z5_30 z5_31 z5_32 := by
  intro X FG' B' X' z5_2 hend hN0 hA0 z5_14 z5_22 z5_33 z5_34 z5_35 z5_36 z5_37
  repeat' (first | (k_unfold; (try dsimp only)) | (k_end; wrow_close) | (walk1; (try ((with_reducible show wpAny _ _ (execs _ _) _ _ (Shared.mk _ _ _ (_ + 1) _)); refine tok_any ?_; intro tkn))) | (dsimp only; walk1) | (leave1; (try dsimp only)))
  rename left = [] => hl
  rename Thrown _ _ _ _ _ _ _ => rk
  rename NsO _ _ => rn
  rename Heap.UpToSlots _ _ => ru
  refine' hend _ _ _ (asked ++ [_]) (notes ++ [_]) _ _ _ _ _ _ _ _ (hA0 hl _) (hN0 hl _) FG' (Thrown.sub rk ?g3) ru rn
  case g3 =>
    simp only [List.map_append, List.map_cons, List.map_nil, List.push_toArray]
    intro q hq
    repeat (rcases List.mem_cons.mp hq with rfl | hq; (first | k_mem))
    repeat (first | exact hq | apply List.Mem.tail)
theorem zall : ∀ z5_9 z5_23 z5_24 z5_25 z5_26 z5_27 z5_28 z5_29 z5_30 z5_31 z5_32, zpart2.1.2.2 z5_9 z5_23 z5_24 z5_25 z5_26 z5_27 z5_28 z5_29 z5_30 z5_31 z5_32 := fun z5_9 z5_23 z5_24 z5_25 z5_26 z5_27 z5_28 z5_29 z5_30 z5_31 z5_32 => @epsH _ _ zc (by with_unfolding_all exact zat) (z5_9, z5_23, z5_24, z5_25, z5_26, z5_27, z5_28, z5_29, z5_30, z5_31, z5_32)
end z5
theorem zat : zpart1.1 k asked left notes na nl nn i ti h' tk m' r := zpart2.2 ⟨z3.zall⟩ ⟨z4.zall⟩ ⟨z5.zall⟩
theorem zall : ∀ k asked left notes na nl nn i ti h' tk m' r, zpart1.1 k asked left notes na nl nn i ti h' tk m' r := fun k asked left notes na nl nn i ti h' tk m' r => @epsH _ _ zc (by with_unfolding_all exact zat) (k, asked, left, notes, na, nl, nn, i, ti, h', tk, m', r)
end z2
theorem zat : zpart0.1 g' L' h' tk AA NN := zpart1.2 ⟨z2.zall⟩
theorem zall : ∀ g' L' h' tk AA NN, zpart0.1 g' L' h' tk AA NN := fun g' L' h' tk AA NN => @epsH _ _ zc (by with_unfolding_all exact zat) (g', L', h', tk, AA, NN)
end z1
theorem zat : zP w p loose mean mg mb rp ak lf nt hk hd lb un ud sl ul t own cn cnm cmo a ccd cl outer A₀ base h₀ L m s asked left notes na nl nn nsl n b vs tb t3 t4 t5 k1 k2 k3 tu lobj rc rd fd rsl S Q E := zpart0.2 ⟨z1.zall⟩
theorem zall : ∀ w p loose mean mg mb rp ak lf nt hk hd lb un ud sl ul t own cn cnm cmo a ccd cl outer A₀ base h₀ L m s asked left notes na nl nn nsl n b vs tb t3 t4 t5 k1 k2 k3 tu lobj rc rd fd rsl S Q E, zP w p loose mean mg mb rp ak lf nt hk hd lb un ud sl ul t own cn cnm cmo a ccd cl outer A₀ base h₀ L m s asked left notes na nl nn nsl n b vs tb t3 t4 t5 k1 k2 k3 tu lobj rc rd fd rsl S Q E := fun w p loose mean mg mb rp ak lf nt hk hd lb un ud sl ul t own cn cnm cmo a ccd cl outer A₀ base h₀ L m s asked left notes na nl nn nsl n b vs tb t3 t4 t5 k1 k2 k3 tu lobj rc rd fd rsl S Q E => @epsH _ _ zc (by with_unfolding_all exact zat) (w, p, loose, mean, mg, mb, rp, ak, lf, nt, hk, hd, lb, un, ud, sl, ul, t, own, cn, cnm, cmo, a, ccd, cl, outer, A₀, base, h₀, L, m, s, asked, left, notes, na, nl, nn, nsl, n, b, vs, tb, t3, t4, t5, k1, k2, k3, tu, lobj, rc, rd, fd, rsl, S, Q, E)
end runF
theorem runF (w : World) {p : Program} {loose : List Str} {mean : ExcName → Option Value} {mg mb : Str → Option Value} (rp ak lf nt hk hd lb un ud sl ul : Addr) (t own : List (Addr × Obj))
  (cn : Str) (cnm : List (Str × NameKind)) (cmo : List (Str × Const)) (a : Addr) (ccd : Value) (cl : List (Str × Addr)) (outer : List Env) (A₀ : Around) (base h₀ : Heap) (L : Addr) (m : Str → Option Value) (s : Shared)
    (asked : List (Str × Tok)) (left notes : List (Int × Tok)) (na nl nn nsl n b : Nat) (vs : List Value) (tb t3 t4 t5 k1 k2 k3 tu : Tok) (lobj : Obj) (rc : Value) (rd : Option Addr) (fd : FuncData) (rsl : Array (Option Value)) (S : Nat → SRec) (Q E : Value → Shared → Prop)
    (B : Below A₀ base outer h₀) (F : Fr h₀ L s.heap m) (X : (kdef.heap_1 w.params).In h₀) (T : Top p loose mean mg mb h₀)
    (N : News h₀ L s.heap ((nt, W.listOf (notes.map intV).toArray nn) :: (ak, W.listOf (asked.map strV).toArray na) :: (lf, W.listOf (left.map intV).toArray nl) :: (hk, hooksO hd) :: (hd, hooksD w.params t3 t4 t5 rp lb nt) :: (lb, lobj) :: (rp, ⟨rc, rd, .func fd, rsl⟩) :: (un, instObj 334 ud) :: (ud, unitD w.params k1 k2 k3 tu sl ul) :: (sl, W.listOf vs.toArray nsl) :: own))
    (P : PStat w own n S vs un lobj) (hb : b < n) (R : RepOk w p loose mean mg mb rp ak lf t) (hsub : ∀ q ∈ t, q ∈ own) (hta : ∀ q ∈ t, q.1 ≠ ak) (htl : ∀ q ∈ t, q.1 ≠ lf) (hsys : (lb == sysModules) = false)
    (hne : @Ne Nat nt ak ∧ @Ne Nat nt lf ∧ @Ne Nat ak lf) (hap : ∀ q ∈ own, @Ne Nat q.1 nt ∧ @Ne Nat q.1 ak ∧ @Ne Nat q.1 lf) (hap2 : ∀ q ∈ [hk, hd, lb, rp, un, ud, sl], @Ne Nat q nt ∧ @Ne Nat q ak ∧ @Ne Nat q lf) (hsz : notes.length + 2 * left.length ≤ 500 ∧ asked.length + left.length ≤ 500)
    (hend : ∀ g' h' tk' (asked' : List (Str × Tok)) (notes' : List (Int × Tok)) na' nn' nl' e dx od tk₂ tv, asked'.map Prod.fst = asked.map Prod.fst ++ askOf S b (left.map Prod.fst) → notes'.map Prod.fst = notes.map Prod.fst ++ noteOf S b (left.map Prod.fst) →
      Fr h₀ L g' m → Thrown base g' (CE cn cnm cmo L a ccd cl :: outer) e dx ((dx, od) :: (nt, W.listOf (notes'.map intV).toArray nn') :: (ak, W.listOf (asked'.map strV).toArray na') :: (lf, W.listOf #[] nl') :: (hk, hooksO hd) :: (hd, hooksD w.params t3 t4 t5 rp lb nt) :: own) h' → g'.UpToSlots h' → NsO od (excMap 99 tk₂ tv) → E (.ref e) { s with heap := h', toks := tk' }) : wpAny (model PG w) (CT 550 4500 cn cnm cmo L a ccd cl outer) (call (.ref 296) [.ref un, .int b tb, .ref hk]) Q E s := runF.zall w p loose mean mg mb rp ak lf nt hk hd lb un ud sl ul t own cn cnm cmo a ccd cl outer A₀ base h₀ L m s asked left notes na nl nn nsl n b vs tb t3 t4 t5 k1 k2 k3 tu lobj rc rd fd rsl S Q E B F X T N P hb R hsub hta htl hsys hne hap hap2 hsz hend
end
end
section
open PySem PySem.W PyProof.Rows PySem.Calls PySem.Spec
local macro_rules | `(tactic| f_reads) => `(tactic| (intro hk; first | exact hk.1 | exact hk.2.1 | exact hk.2.2.1 | exact hk.2.2.2.1 | exact hk.2.2.2.2.1 | exact hk.2.2.2.2.2.1 | exact hk.2.2.2.2.2.2.1 | exact hk.2.2.2.2.2.2.2.1 | exact hk.2.2.2.2.2.2.2.2.1 | exact hk.2.2.2.2.2.2.2.2.2.1 | exact hk.2.2.2.2.2.2.2.2.2.2.1 | exact hk.2.2.2.2.2.2.2.2.2.2.2.1 | exact hk.2.2.2.2.2.2.2.2.2.2.2.2.1 | exact hk.2 | exact hk.2.2 | exact hk.2.2.2 | exact hk.2.2.2.2 | exact hk.2.2.2.2.2 | exact hk.2.2.2.2.2.2 | exact hk.2.2.2.2.2.2.2 | exact hk.2.2.2.2.2.2.2.2 | exact hk.2.2.2.2.2.2.2.2.2 | exact hk.2.2.2.2.2.2.2.2.2.2 | exact hk.2.2.2.2.2.2.2.2.2.2.2 | exact hk.2.2.2.2.2.2.2.2.2.2.2.2))
local macro_rules | `(tactic| pv_reads) => `(tactic| with_reducible first | assumption | (refine' lt_conj ?h ?k; (case h => assumption); (case k => f_reads)) | (refine' ne_conj ?h ?k; (case h => assumption); (case k => f_reads)))
local macro_rules | `(tactic| k_ne) => `(tactic| (refine neN ?_; k_whole; (try dsimp only); first | (refine Nat.ne_of_lt ?_; pv_reads) | (refine Nat.ne_of_gt ?_; pv_reads) | pv_reads | (refine Ne.symm ?_; pv_reads) | omega))
local macro_rules | `(tactic| size_fits) => `(tactic| (simp only [PySem.sizeLine_eq, List.size_toArray, List.length_cons, List.length_nil]; decide))
local macro_rules | `(tactic| size_fits) => `(tactic| (simp only [PySem.sizeLine_eq, List.size_toArray, List.length_map]; omega))
local macro_rules | `(tactic| k_in) => `(tactic| (refine' Frag.In.keeps ?kX (Fr.keep ?kF); (case kF => with_reducible assumption); (case kX => with_reducible assumption)))
local macro_rules | `(tactic| k_mem) => `(tactic| with_reducible_and_instances assumption)
local macro_rules | `(tactic| k_all) => `(tactic| first | with_reducible assumption | (refine tlL ?_; with_reducible assumption))
local macro_rules | `(tactic| k_lt $h) => `(tactic| ((have hTl := $h); (repeat (replace hTl := tlS hTl)); (replace hTl := ltsOf hTl); replace $h := allLt_of $h; (try dsimp only [AllLt] at $h:ident)))
example : True := by w_top off; (try walk1); trivial
section
open PySem PySem.W PyProof.Rows PySem.Calls PySem.Spec
set_option Elab.async false
set_option maxRecDepth 100000
set_option maxHeartbeats 8000000
example : kdef.heap_1 = kdef.heap_1 ∧ PySem.Challenge.rw_xm0939_01 = PySem.Challenge.rw_xm0939_01 := by
  k_fill
  exact ⟨rfl, rfl⟩
/-- the surroundings of a call, in one -/
structure CX where
  (cn : Str) (cnm : List (Str × NameKind)) (cmo : List (Str × Const)) (L a : Addr) (ccd : Value) (cl : List (Str × Addr)) (outer : List Env)
noncomputable abbrev CX.T (c : CX) (dp un : Nat) : Around := CT dp un c.cn c.cnm c.cmo c.L c.a c.ccd c.cl c.outer
noncomputable abbrev CX.env (c : CX) : Env := CE c.cn c.cnm c.cmo c.L c.a c.ccd c.cl
/-- a statement before it is compiled -/
structure PRec where
  (st sd sb e0 gs n1 gf n2 : Addr) (la x sx fx : Str) (ln : Int) (ne0 : Nat) (k1 k2 k3 k4 k5 k6 k7 k8 k9 k10 tl tn tx b1 b2 s1 s2 s3 f1 f2 f3 : Tok)
noncomputable abbrev PRec.dict (r : PRec) (P : Params) : Obj := dictOf [
  ⟨PyData.keyHash P (Str.ofString "label"), .str (Str.ofString "label") r.k1, .str r.la r.tl⟩,
  ⟨PyData.keyHash P (Str.ofString "subject"), .str (Str.ofString "subject") r.k2, .ref r.sb⟩,
  ⟨PyData.keyHash P (Str.ofString "pattern"), .str (Str.ofString "pattern") r.k3, .none⟩,
  ⟨PyData.keyHash P (Str.ofString "is_replaced"), .str (Str.ofString "is_replaced") r.k4, .bool false⟩,
  ⟨PyData.keyHash P (Str.ofString "replacement"), .str (Str.ofString "replacement") r.k5, .none⟩,
  ⟨PyData.keyHash P (Str.ofString "go_success"), .str (Str.ofString "go_success") r.k6, .ref r.gs⟩,
  ⟨PyData.keyHash P (Str.ofString "go_failure"), .str (Str.ofString "go_failure") r.k7, .ref r.gf⟩,
  ⟨PyData.keyHash P (Str.ofString "go_always"), .str (Str.ofString "go_always") r.k8, .none⟩,
  ⟨PyData.keyHash P (Str.ofString "line"), .str (Str.ofString "line") r.k9, .int r.ln r.tn⟩,
  ⟨PyData.keyHash P (Str.ofString "text"), .str (Str.ofString "text") r.k10, .str (Str.ofString "") r.tx⟩] 10
structure PIn (P : Params) (own : List (Addr × Obj)) (r : PRec) : Prop where
  m1 : (r.st, instObj 416 r.sd) ∈ own
  m2 : (r.sd, r.dict P) ∈ own
  m3 : (r.sb, tup [.str (Str.ofString "call") r.b1, .str r.x r.b2, .ref r.e0]) ∈ own
  m4 : (r.e0, ({ cls := .type "tuple", data := .seq #[] r.ne0 } : Obj)) ∈ own
  m5 : (r.gs, tup [.str (Str.ofString "goto") r.s1, .ref r.n1]) ∈ own
  m6 : (r.n1, tup [.str (Str.ofString "name") r.s2, .str r.sx r.s3]) ∈ own
  m7 : (r.gf, tup [.str (Str.ofString "goto") r.f1, .ref r.n2]) ∈ own
  m8 : (r.n2, tup [.str (Str.ofString "name") r.f2, .str r.fx r.f3]) ∈ own
noncomputable def SRec.core (r : SRec) (P : Params) : List (Addr × Obj) :=
  [(r.c, instObj 313 r.cd), (r.cd, r.dict P), (r.bo, W.listOf #[.ref r.o1, .ref r.o2] r.nb), (r.o1, tup [.str (Str.ofString "CALL") r.t1, .str r.x r.t2, .int 0 r.t6, .bool false]), (r.o2, tup [.str (Str.ofString "DROP") r.t7]),
   (r.su, W.listOf #[.ref r.g] r.ns), (r.g, tup [.str (Str.ofString "LABEL") r.u1, .str r.sx r.u2]), (r.fa, W.listOf #[.ref r.gf] r.nf), (r.gf, tup [.str (Str.ofString "LABEL") r.v1, .str r.fx r.v2])]
theorem Lts.at {d : Addr} {r : List (Addr × Obj)} {a : Addr × Obj} (h : Lts r d) (ha : a ∈ r) : @LT.lt Nat _ a.1 d := h a ha
theorem forget_toks {α : Type} {M : Model} {A : Around} {t : Sem α} {Q : α → Shared → Prop} {E : Value → Shared → Prop} {h : Heap} {g : Array GenState} {d : Drawn} {os : OsState} (tk : Nat)
    (H : ∀ tk', wpAny M A t Q E ⟨h, g, d, tk', os⟩) : wpAny M A t Q E ⟨h, g, d, tk, os⟩ := H tk

namespace gotoC
def zP (w : World) (p : Program) (loose : List Str) (mean : ExcName → Option Value) (mg : Str → Option Value) (mb : Str → Option Value) (c : CX) (own : List (Addr × Obj)) (gs : Addr) (n1 : Addr) (sx : Str) (t1 : Tok) (t2 : Tok) (t3 : Tok) (A₀ : Around) (base : Heap) (h₀ : Heap) (m : Str → Option Value) (s : Shared) (Q : Value → Shared → Prop) (E : Value → Shared → Prop) : Prop := ∀ (B : Below A₀ base c.outer h₀) (F : Fr h₀ c.L s.heap m) (X : (kdef.heap_1 w.params).In h₀) (T : Top p loose mean mg mb h₀) (N : News h₀ c.L s.heap own) (i5 : (gs, tup [.str (Str.ofString "goto") t1, .ref n1]) ∈ own) (i6 : (n1, tup [.str (Str.ofString "name") t2, .str sx t3]) ∈ own) (hok : ∀ h' tk' (l g : Addr) u1, Fr h₀ c.L h' m → News h₀ c.L h' ((l, W.listOf #[.ref g] 0) :: (g, tup [.str (Str.ofString "LABEL") u1, .str sx t3]) :: own) → (∀ a ∈ own, a.1 < g) → @LT.lt Nat _ g l → Q (.ref l) { s with heap := h', toks := tk' }),
  wpAny (model PG w) (c.T 510 4100) (call (.ref 387) [.ref gs]) Q E s
noncomputable def zc := eps (α := (World) × (Program) × (List Str) × (ExcName → Option Value) × (Str → Option Value) × (Str → Option Value) × (CX) × (List (Addr × Obj)) × (Addr) × (Addr) × (Str) × (Tok) × (Tok) × (Tok) × (Around) × (Heap) × (Heap) × (Str → Option Value) × (Shared) × (Value → Shared → Prop) × (Value → Shared → Prop)) ⟨world0, default, default, (fun _ => default), (fun _ => default), (fun _ => default), by constructor <;> exact default, default, default, default, default, default, default, default, {}, {}, {}, (fun _ => default), {}, (fun _ _ => True), (fun _ _ => True)⟩ (fun c => zP c.1 c.2.1 c.2.2.1 c.2.2.2.1 c.2.2.2.2.1 c.2.2.2.2.2.1 c.2.2.2.2.2.2.1 c.2.2.2.2.2.2.2.1 c.2.2.2.2.2.2.2.2.1 c.2.2.2.2.2.2.2.2.2.1 c.2.2.2.2.2.2.2.2.2.2.1 c.2.2.2.2.2.2.2.2.2.2.2.1 c.2.2.2.2.2.2.2.2.2.2.2.2.1 c.2.2.2.2.2.2.2.2.2.2.2.2.2.1 c.2.2.2.2.2.2.2.2.2.2.2.2.2.2.1 c.2.2.2.2.2.2.2.2.2.2.2.2.2.2.2.1 c.2.2.2.2.2.2.2.2.2.2.2.2.2.2.2.2.1 c.2.2.2.2.2.2.2.2.2.2.2.2.2.2.2.2.2.1 c.2.2.2.2.2.2.2.2.2.2.2.2.2.2.2.2.2.2.1 c.2.2.2.2.2.2.2.2.2.2.2.2.2.2.2.2.2.2.2.1 c.2.2.2.2.2.2.2.2.2.2.2.2.2.2.2.2.2.2.2.2)
@[irreducible] noncomputable def w := zc.1.1
@[irreducible] noncomputable def p := zc.1.2.1
@[irreducible] noncomputable def loose := zc.1.2.2.1
@[irreducible] noncomputable def mean := zc.1.2.2.2.1
@[irreducible] noncomputable def mg := zc.1.2.2.2.2.1
@[irreducible] noncomputable def mb := zc.1.2.2.2.2.2.1
@[irreducible] noncomputable def c := zc.1.2.2.2.2.2.2.1
@[irreducible] noncomputable def own := zc.1.2.2.2.2.2.2.2.1
@[irreducible] noncomputable def gs := zc.1.2.2.2.2.2.2.2.2.1
@[irreducible] noncomputable def n1 := zc.1.2.2.2.2.2.2.2.2.2.1
@[irreducible] noncomputable def sx := zc.1.2.2.2.2.2.2.2.2.2.2.1
@[irreducible] noncomputable def t1 := zc.1.2.2.2.2.2.2.2.2.2.2.2.1
@[irreducible] noncomputable def t2 := zc.1.2.2.2.2.2.2.2.2.2.2.2.2.1
@[irreducible] noncomputable def t3 := zc.1.2.2.2.2.2.2.2.2.2.2.2.2.2.1
@[irreducible] noncomputable def A₀ := zc.1.2.2.2.2.2.2.2.2.2.2.2.2.2.2.1
@[irreducible] noncomputable def base := zc.1.2.2.2.2.2.2.2.2.2.2.2.2.2.2.2.1
@[irreducible] noncomputable def h₀ := zc.1.2.2.2.2.2.2.2.2.2.2.2.2.2.2.2.2.1
@[irreducible] noncomputable def m := zc.1.2.2.2.2.2.2.2.2.2.2.2.2.2.2.2.2.2.1
@[irreducible] noncomputable def s := zc.1.2.2.2.2.2.2.2.2.2.2.2.2.2.2.2.2.2.2.1
@[irreducible] noncomputable def Q := zc.1.2.2.2.2.2.2.2.2.2.2.2.2.2.2.2.2.2.2.2.1
@[irreducible] noncomputable def E := zc.1.2.2.2.2.2.2.2.2.2.2.2.2.2.2.2.2.2.2.2.2
theorem zat : zP w p loose mean mg mb c own gs n1 sx t1 t2 t3 A₀ base h₀ m s Q E := by
  intro B F X T N i5 i6 hok
  w_on
  repeat' (first | (k_unfold; (try dsimp only)) | (k_end; wrow_close) | (walk1; (try ((with_reducible show wpAny _ _ (execs _ _) _ _ (Shared.mk _ _ _ (_ + 1) _)); refine tok_any ?_; intro tkn))) | (dsimp only; walk1) | (leave1; (try dsimp only)))
  rename @LT.lt Nat _ _ _ ∧ _ => hlt
  exact hok _ _ _ _ _ (by with_reducible assumption) (by with_reducible assumption) (by (with_reducible rename Lts own _ => hz); clear hz; (with_reducible rename Lts own _ => hy); exact hy) hlt.1
theorem zall : ∀ w p loose mean mg mb c own gs n1 sx t1 t2 t3 A₀ base h₀ m s Q E, zP w p loose mean mg mb c own gs n1 sx t1 t2 t3 A₀ base h₀ m s Q E := fun w p loose mean mg mb c own gs n1 sx t1 t2 t3 A₀ base h₀ m s Q E => @epsH _ _ zc (by with_unfolding_all exact zat) (w, p, loose, mean, mg, mb, c, own, gs, n1, sx, t1, t2, t3, A₀, base, h₀, m, s, Q, E)
end gotoC
theorem gotoC (w : World) {p : Program} {loose : List Str} {mean : ExcName → Option Value} {mg mb : Str → Option Value} (c : CX) (own : List (Addr × Obj)) {gs n1 : Addr} {sx : Str} {t1 t2 t3 : Tok}
    {A₀ : Around} {base h₀ : Heap} {m : Str → Option Value} {s : Shared} {Q E : Value → Shared → Prop}
    (B : Below A₀ base c.outer h₀) (F : Fr h₀ c.L s.heap m) (X : (kdef.heap_1 w.params).In h₀) (T : Top p loose mean mg mb h₀) (N : News h₀ c.L s.heap own)
    (i5 : (gs, tup [.str (Str.ofString "goto") t1, .ref n1]) ∈ own) (i6 : (n1, tup [.str (Str.ofString "name") t2, .str sx t3]) ∈ own)
    (hok : ∀ h' tk' (l g : Addr) u1, Fr h₀ c.L h' m → News h₀ c.L h' ((l, W.listOf #[.ref g] 0) :: (g, tup [.str (Str.ofString "LABEL") u1, .str sx t3]) :: own) → (∀ a ∈ own, a.1 < g) → @LT.lt Nat _ g l → Q (.ref l) { s with heap := h', toks := tk' }) : wpAny (model PG w) (c.T 510 4100) (call (.ref 387) [.ref gs]) Q E s := gotoC.zall w p loose mean mg mb c own gs n1 sx t1 t2 t3 A₀ base h₀ m s Q E B F X T N i5 i6 hok

local macro_rules | `(tactic| walk_at "exec For Name Name cons nil") => `(tactic| (k_here; (rename Fr _ _ _ _ => lF'); (with_unfolding_all refine' For_turns lF' ?_; k_whole)))
namespace csC
def zP (w : World) (p : Program) (loose : List Str) (mean : ExcName → Option Value) (mg : Str → Option Value) (mb : Str → Option Value) (c : CX) (own : List (Addr × Obj)) (r : PRec) (A₀ : Around) (base : Heap) (h₀ : Heap) (m : Str → Option Value) (s : Shared) (Q : Value → Shared → Prop) (E : Value → Shared → Prop) : Prop := ∀ (B : Below A₀ base c.outer h₀) (F : Fr h₀ c.L s.heap m) (X : (kdef.heap_1 w.params).In h₀) (T : Top p loose mean mg mb h₀) (N : News h₀ c.L s.heap own) (I : PIn w.params own r) (hok : ∀ h' tk' (q : SRec), Fr h₀ c.L h' m → News h₀ c.L h' (q.core w.params ++ own) → q.la = r.la → q.x = r.x → q.sx = r.sx → q.fx = r.fx → (∀ a ∈ own, ∀ b ∈ q.core w.params, a.1 < b.1) → Q (.ref q.c) { s with heap := h', toks := tk' }),
  wpAny (model PG w) (c.T 500 4000) (call (.ref 394) [.ref r.st]) Q E s
noncomputable def zc := eps (α := (World) × (Program) × (List Str) × (ExcName → Option Value) × (Str → Option Value) × (Str → Option Value) × (CX) × (List (Addr × Obj)) × (PRec) × (Around) × (Heap) × (Heap) × (Str → Option Value) × (Shared) × (Value → Shared → Prop) × (Value → Shared → Prop)) ⟨world0, default, default, (fun _ => default), (fun _ => default), (fun _ => default), by constructor <;> exact default, default, by constructor <;> exact default, {}, {}, {}, (fun _ => default), {}, (fun _ _ => True), (fun _ _ => True)⟩ (fun c => zP c.1 c.2.1 c.2.2.1 c.2.2.2.1 c.2.2.2.2.1 c.2.2.2.2.2.1 c.2.2.2.2.2.2.1 c.2.2.2.2.2.2.2.1 c.2.2.2.2.2.2.2.2.1 c.2.2.2.2.2.2.2.2.2.1 c.2.2.2.2.2.2.2.2.2.2.1 c.2.2.2.2.2.2.2.2.2.2.2.1 c.2.2.2.2.2.2.2.2.2.2.2.2.1 c.2.2.2.2.2.2.2.2.2.2.2.2.2.1 c.2.2.2.2.2.2.2.2.2.2.2.2.2.2.1 c.2.2.2.2.2.2.2.2.2.2.2.2.2.2.2)
@[irreducible] noncomputable def w := zc.1.1
@[irreducible] noncomputable def p := zc.1.2.1
@[irreducible] noncomputable def loose := zc.1.2.2.1
@[irreducible] noncomputable def mean := zc.1.2.2.2.1
@[irreducible] noncomputable def mg := zc.1.2.2.2.2.1
@[irreducible] noncomputable def mb := zc.1.2.2.2.2.2.1
@[irreducible] noncomputable def c := zc.1.2.2.2.2.2.2.1
@[irreducible] noncomputable def own := zc.1.2.2.2.2.2.2.2.1
@[irreducible] noncomputable def r := zc.1.2.2.2.2.2.2.2.2.1
@[irreducible] noncomputable def A₀ := zc.1.2.2.2.2.2.2.2.2.2.1
@[irreducible] noncomputable def base := zc.1.2.2.2.2.2.2.2.2.2.2.1
@[irreducible] noncomputable def h₀ := zc.1.2.2.2.2.2.2.2.2.2.2.2.1
@[irreducible] noncomputable def m := zc.1.2.2.2.2.2.2.2.2.2.2.2.2.1
@[irreducible] noncomputable def s := zc.1.2.2.2.2.2.2.2.2.2.2.2.2.2.1
@[irreducible] noncomputable def Q := zc.1.2.2.2.2.2.2.2.2.2.2.2.2.2.2.1
@[irreducible] noncomputable def E := zc.1.2.2.2.2.2.2.2.2.2.2.2.2.2.2.2
noncomputable def zpart0 : { R : (Prop) // Hide (R) → zP w p loose mean mg mb c own r A₀ base h₀ m s Q E } := by
  refine' ⟨_, fun hP1 => ?main⟩
  case main =>
    intro B F X T N I hok
    w_on
    refine cps fun zG zk => ?_
    obtain ⟨i1, i2, i3, i4, i5, i6, i7, i8⟩ := I
    refine zk ?_
    clear zk zG
    replace N : News h₀ c.L s.heap ((r.e0, ({ cls := .type "tuple", data := .seq #[] r.ne0 } : Obj)) :: own) := fun q hq => by
      rcases List.mem_cons.mp hq with rfl | hq
      · exact N _ i4
      · exact N q hq
    revert B F X T hok i1 i2 i3 i5 i6 i7 i8 N
    exact hP1.out
namespace z1
noncomputable def zpart1 : { R : ((Heap) → (Addr) → (Heap) → (Addr) → (Addr) → (Addr) → (Tok) → (Addr) → (Addr) → (Tok) → (Heap) → (Nat) → Prop) // Hide (∀ z2_1 z2_2 z2_11 z2_17 z2_29 z2_30 z2_31 l' g' u1 z2_40 tkn, R z2_1 z2_2 z2_11 z2_17 z2_29 z2_30 z2_31 l' g' u1 z2_40 tkn) → zpart0.1 } := by
  refine' ⟨_, fun hP2 => ?main⟩
  case main =>
    intro B F X T hok i1 i2 i3 i5 i6 i7 i8 N
    iterate 75 (first | (k_unfold; (try dsimp only)) | (k_end; wrow_close) | ((first | with_reducible (k_here; (with_reducible show wpAny _ _ (call (Value.ref 387) [Value.ref _]) _ _ _); k_dflt (refine wp_le (d := 510) (u := 4100) ?_ (Nat.le_of_ble_eq_true rfl) (Nat.le_of_ble_eq_true rfl)); k_dflt (refine' gotoC w (CX.mk _ _ _ _ _ _ _ _) _ ?Bx22 ?Fx22 ?Xx22 ?Tx22 ?Nx22 ?m1x22 ?m2x22 ?_; (case Nx22 => k_asm); (case Bx22 => k_asm); (case Fx22 => k_asm); (case Xx22 => k_asm); (case Tx22 => k_asm); (case m1x22 => k_mem); (case m2x22 => k_mem)); intro h' tk' l' g' u1 F' N' l1 l2; k_lt l1) | walk1); (try ((with_reducible show wpAny _ _ (execs _ _) _ _ (Shared.mk _ _ _ (_ + 1) _)); refine tok_any ?_; intro tkn))) | (dsimp only; walk1) | (leave1; (try dsimp only)))
    rename_i z2_1 z2_2 z2_3 z2_4 z2_5 z2_6 z2_7 z2_8 z2_9 z2_10 z2_11 z2_12 z2_13 z2_14 z2_15 z2_16 z2_17 z2_18 z2_19 z2_20 z2_21 z2_22 z2_23 z2_24 z2_25 z2_26 z2_27 z2_28
      z2_29 z2_30 z2_31 z2_32 z2_33 z2_34 z2_35 z2_36 z2_37 z2_38 z2_39 z2_40 z2_41 z2_42
    ((try clear ek); (try clear qk))
    revert X T hok i1 i2 i3 z2_5 z2_6 z2_8 z2_9 z2_15 z2_21 z2_23 z2_24 z2_34 z2_35 l2 z2_39 z2_41 z2_42
    exact hP2.out z2_1 z2_2 z2_11 z2_17 z2_29 z2_30 z2_31 l' g' u1 z2_40 tkn
namespace z2
noncomputable def zc := eps (α := (Heap) × (Addr) × (Heap) × (Addr) × (Addr) × (Addr) × (Tok) × (Addr) × (Addr) × (Tok) × (Heap) × (Nat)) ⟨{}, default, {}, default, default, default, default, default, default, default, {}, default⟩ (fun c => zpart1.1 c.1 c.2.1 c.2.2.1 c.2.2.2.1 c.2.2.2.2.1 c.2.2.2.2.2.1 c.2.2.2.2.2.2.1 c.2.2.2.2.2.2.2.1 c.2.2.2.2.2.2.2.2.1 c.2.2.2.2.2.2.2.2.2.1 c.2.2.2.2.2.2.2.2.2.2.1 c.2.2.2.2.2.2.2.2.2.2.2)
@[irreducible] noncomputable def z2_1 := zc.1.1
@[irreducible] noncomputable def z2_2 := zc.1.2.1
@[irreducible] noncomputable def z2_11 := zc.1.2.2.1
@[irreducible] noncomputable def z2_17 := zc.1.2.2.2.1
@[irreducible] noncomputable def z2_29 := zc.1.2.2.2.2.1
@[irreducible] noncomputable def z2_30 := zc.1.2.2.2.2.2.1
@[irreducible] noncomputable def z2_31 := zc.1.2.2.2.2.2.2.1
@[irreducible] noncomputable def l' := zc.1.2.2.2.2.2.2.2.1
@[irreducible] noncomputable def g' := zc.1.2.2.2.2.2.2.2.2.1
@[irreducible] noncomputable def u1 := zc.1.2.2.2.2.2.2.2.2.2.1
@[irreducible] noncomputable def z2_40 := zc.1.2.2.2.2.2.2.2.2.2.2.1
@[irreducible] noncomputable def tkn := zc.1.2.2.2.2.2.2.2.2.2.2.2
noncomputable def zpart2 : { R : ((Heap) → (Addr) → (Heap) → (Addr) → (Heap) → (Nat) → Prop) // Hide (∀ z3_1 z3_2 z3_15 z3_16 z3_22 tkn, R z3_1 z3_2 z3_15 z3_16 z3_22 tkn) → zpart1.1 z2_1 z2_2 z2_11 z2_17 z2_29 z2_30 z2_31 l' g' u1 z2_40 tkn } := by
  refine' ⟨_, fun hP3 => ?main⟩
  case main =>
    intro X T hok i1 i2 i3 z2_5 z2_6 z2_8 z2_9 z2_15 z2_21 z2_23 z2_24 z2_34 z2_35 l2 z2_39 z2_41 z2_42
    iterate 75 (first | (k_unfold; (try dsimp only)) | (k_end; wrow_close) | (walk1; (try ((with_reducible show wpAny _ _ (execs _ _) _ _ (Shared.mk _ _ _ (_ + 1) _)); refine tok_any ?_; intro tkn))) | (dsimp only; walk1) | (leave1; (try dsimp only)))
    rename_i z3_1 z3_2 z3_3 z3_4 z3_5 z3_6 z3_7 z3_8 z3_9 z3_10 z3_11 z3_12 z3_13 z3_14 z3_15 z3_16 z3_17 z3_18 z3_19 z3_20 z3_21 z3_22 z3_23 z3_24
    revert X T hok i1 i2 i3 z2_5 z2_6 z2_8 z2_9 z2_15 z2_21 z2_23 z2_24 z2_34 z2_35 l2 z2_39 z3_8 z3_9 z3_10 z3_11 z3_19 z3_20 z3_21 qk ek z3_23 z3_24
    exact hP3.out z3_1 z3_2 z3_15 z3_16 z3_22 tkn
namespace z3
noncomputable def zc := eps (α := (Heap) × (Addr) × (Heap) × (Addr) × (Heap) × (Nat)) ⟨{}, default, {}, default, {}, default⟩ (fun c => zpart2.1 c.1 c.2.1 c.2.2.1 c.2.2.2.1 c.2.2.2.2.1 c.2.2.2.2.2)
@[irreducible] noncomputable def z3_1 := zc.1.1
@[irreducible] noncomputable def z3_2 := zc.1.2.1
@[irreducible] noncomputable def z3_15 := zc.1.2.2.1
@[irreducible] noncomputable def z3_16 := zc.1.2.2.2.1
@[irreducible] noncomputable def z3_22 := zc.1.2.2.2.2.1
@[irreducible] noncomputable def tkn := zc.1.2.2.2.2.2
noncomputable def zpart3 : { R : ((Heap) → (Addr) → (Heap) → (Nat) → Prop) // Hide (∀ z4_7 z4_14 z4_23 z4_24, R z4_7 z4_14 z4_23 z4_24) → zpart2.1 z3_1 z3_2 z3_15 z3_16 z3_22 tkn } := by
  refine' ⟨_, fun hP4 => ?main⟩
  case main =>
    intro X T hok i1 i2 i3 z2_5 z2_6 z2_8 z2_9 z2_15 z2_21 z2_23 z2_24 z2_34 z2_35 l2 z2_39 z3_8 z3_9 z3_10 z3_11 z3_19 z3_20 z3_21 qk ek z3_23 z3_24
    iterate 75 (first | (k_unfold; (try dsimp only)) | (k_end; wrow_close) | ((first | with_reducible (k_here; (with_reducible show wpAny _ _ (pyIter (Value.ref _)) (fun it s₂ => TurnsAt _ _ _ _ _ _ _ _ _ it s₂) _ _); k_dflt (refine' iter_tupTurns (vs := []) ?hx23 ?Fx23 ?Nx23 ?mx23 ?cx23 ?dx23 ?_; (case hx23 => exact rfl); (case Fx23 => k_asm); (case Nx23 => k_asm); (case mx23 => first | k_mem); (case cx23 => exact rfl); (case dx23 => exact rfl)); intro _ _; k_dflt (refine ItemsRest.zero ?_); intro _ _ _ _) | walk1); (try ((with_reducible show wpAny _ _ (execs _ _) _ _ (Shared.mk _ _ _ (_ + 1) _)); refine tok_any ?_; intro tkn))) | (dsimp only; walk1) | (leave1; (try dsimp only)))
    rename_i z4_1 z4_2 z4_3 z4_4 z4_5 z4_6 z4_7 z4_8 z4_9 z4_10 z4_11 z4_12 z4_13 z4_14 z4_15 z4_16 z4_17 z4_18 z4_19 z4_20 z4_21 z4_22 z4_23 z4_24 z4_25 z4_26 z4_27 z4_28
      z4_29 z4_30
    ((try clear ek); (try clear qk))
    revert X T hok i1 i2 i3 z2_5 z2_6 z2_8 z2_9 z2_15 z2_21 z2_23 z2_24 z2_34 z2_35 l2 z2_39 z3_8 z3_9 z3_10 z3_11 z3_20 z4_1 z4_2 z4_12 z4_16 z4_27 z4_28 z4_29 z4_30
    exact hP4.out z4_7 z4_14 z4_23 z4_24
namespace z4
noncomputable def zc := eps (α := (Heap) × (Addr) × (Heap) × (Nat)) ⟨{}, default, {}, default⟩ (fun c => zpart3.1 c.1 c.2.1 c.2.2.1 c.2.2.2)
@[irreducible] noncomputable def z4_7 := zc.1.1
@[irreducible] noncomputable def z4_14 := zc.1.2.1
@[irreducible] noncomputable def z4_23 := zc.1.2.2.1
@[irreducible] noncomputable def z4_24 := zc.1.2.2.2
theorem zat : zpart3.1 z4_7 z4_14 z4_23 z4_24 := by
  intro X T hok i1 i2 i3 z2_5 z2_6 z2_8 z2_9 z2_15 z2_21 z2_23 z2_24 z2_34 z2_35 l2 z2_39 z3_8 z3_9 z3_10 z3_11 z3_20 z4_1 z4_2 z4_12 z4_16 z4_27 z4_28 z4_29 z4_30
  repeat' (first | (k_unfold; (try dsimp only)) | (k_end; wrow_close) | (walk1; (try ((with_reducible show wpAny _ _ (execs _ _) _ _ (Shared.mk _ _ _ (_ + 1) _)); refine tok_any ?_; intro tkn))) | (dsimp only; walk1) | (leave1; (try dsimp only)))
  rename News _ _ _ _ => N9
  refine' hok _ _ (SRec.mk _ _ _ _ _ _ _ _ _ 0 _ _ _ r.la r.x r.sx r.fx _ _ _ _ _ _ _ _ _ _ _ _ _ _ _ _ 0 0 0) (by with_reducible assumption) ?nn rfl rfl rfl rfl ?lt
  case nn =>
    unfold SRec.core
    dsimp only
    simp only [List.cons_append, List.nil_append]
    intro q hq
    repeat (rcases List.mem_cons.mp hq with rfl | hq; (first | exact N9 _ (by k_mem)))
    exact N9 q (by repeat (first | exact hq | apply List.Mem.tail))
  case lt =>
    intro a ha b hb
    unfold SRec.core at hb
    dsimp only at hb
    simp only [List.mem_cons, List.not_mem_nil, or_false] at hb
    repeat ((with_reducible rename Lts own _ => hy); have := Lts.at hy ha; clear hy)
    rcases hb with rfl | rfl | rfl | rfl | rfl | rfl | rfl | rfl | rfl
    all_goals (refine ltN ?_; dsimp only; (first | exact (by assumption) | exact (Nat.lt_trans (by assumption) z2_34) | exact (Nat.lt_trans (by assumption) l2) | omega))

theorem zall : ∀ z4_7 z4_14 z4_23 z4_24, zpart3.1 z4_7 z4_14 z4_23 z4_24 := fun z4_7 z4_14 z4_23 z4_24 => @epsH _ _ zc (by with_unfolding_all exact zat) (z4_7, z4_14, z4_23, z4_24)
end z4
theorem zat : zpart2.1 z3_1 z3_2 z3_15 z3_16 z3_22 tkn := zpart3.2 ⟨z4.zall⟩
theorem zall : ∀ z3_1 z3_2 z3_15 z3_16 z3_22 tkn, zpart2.1 z3_1 z3_2 z3_15 z3_16 z3_22 tkn := fun z3_1 z3_2 z3_15 z3_16 z3_22 tkn => @epsH _ _ zc (by with_unfolding_all exact zat) (z3_1, z3_2, z3_15, z3_16, z3_22, tkn)
end z3
theorem zat : zpart1.1 z2_1 z2_2 z2_11 z2_17 z2_29 z2_30 z2_31 l' g' u1 z2_40 tkn := zpart2.2 ⟨z3.zall⟩
theorem zall : ∀ z2_1 z2_2 z2_11 z2_17 z2_29 z2_30 z2_31 l' g' u1 z2_40 tkn, zpart1.1 z2_1 z2_2 z2_11 z2_17 z2_29 z2_30 z2_31 l' g' u1 z2_40 tkn := fun z2_1 z2_2 z2_11 z2_17 z2_29 z2_30 z2_31 l' g' u1 z2_40 tkn => @epsH _ _ zc (by with_unfolding_all exact zat) (z2_1, z2_2, z2_11, z2_17, z2_29, z2_30, z2_31, l', g', u1, z2_40, tkn)
end z2
theorem zat : zpart0.1 := zpart1.2 ⟨z2.zall⟩
theorem zall : zpart0.1 := zat
end z1
theorem zat : zP w p loose mean mg mb c own r A₀ base h₀ m s Q E := zpart0.2 ⟨z1.zall⟩
theorem zall : ∀ w p loose mean mg mb c own r A₀ base h₀ m s Q E, zP w p loose mean mg mb c own r A₀ base h₀ m s Q E := fun w p loose mean mg mb c own r A₀ base h₀ m s Q E => @epsH _ _ zc (by with_unfolding_all exact zat) (w, p, loose, mean, mg, mb, c, own, r, A₀, base, h₀, m, s, Q, E)
end csC
theorem csC (w : World) {p : Program} {loose : List Str} {mean : ExcName → Option Value} {mg mb : Str → Option Value} (c : CX) (own : List (Addr × Obj)) (r : PRec)
    (A₀ : Around) (base h₀ : Heap) (m : Str → Option Value) (s : Shared) (Q E : Value → Shared → Prop)
    (B : Below A₀ base c.outer h₀) (F : Fr h₀ c.L s.heap m) (X : (kdef.heap_1 w.params).In h₀) (T : Top p loose mean mg mb h₀) (N : News h₀ c.L s.heap own) (I : PIn w.params own r)
    (hok : ∀ h' tk' (q : SRec), Fr h₀ c.L h' m → News h₀ c.L h' (q.core w.params ++ own) → q.la = r.la → q.x = r.x → q.sx = r.sx → q.fx = r.fx → (∀ a ∈ own, ∀ b ∈ q.core w.params, a.1 < b.1) → Q (.ref q.c) { s with heap := h', toks := tk' }) : wpAny (model PG w) (c.T 500 4000) (call (.ref 394) [.ref r.st]) Q E s := csC.zall w p loose mean mg mb c own r A₀ base h₀ m s Q E B F X T N I hok
end
section
open PySem PySem.W PyProof.Rows PySem.Calls PySem.Spec
set_option Elab.async false
set_option maxRecDepth 100000
set_option maxHeartbeats 8000000
section
variable {prog : Program} {w : World} {A : Around} {s : Shared} {h₀ : Heap} {L : Addr} {m : Str → Option Value} {env : Env}
theorem CompEnd.mono {s₁ s₂ : Shared} {I C D : Addr} {oI oC oD : Obj} {S : List (Addr × Obj) → Prop} {r r' : Value → List (Addr × Obj) → Prop} {y : Value} (h : LCg.CompEnd h₀ L m s₁ I oI C oC D oD S r y s₂) (k : ∀ y n, r y n → r' y n) :
    LCg.CompEnd h₀ L m s₁ I oI C oC D oD S r' y s₂ := by
  obtain ⟨h', tk, news', e, F, N, o, hS, hr⟩ := h
  exact ⟨h', tk, news', e, F, N, o, hS, k _ _ hr⟩
theorem compRest_ind {elt : Expr} {x : Str} {scope : Scope} {cl : List (Str × Addr)} {S : List (Addr × Obj) → Prop} {P : Nat → Value → Prop} {Fin : List Value → List (Addr × Obj) → Prop} {n : Nat} (Inv : Nat → List Value → List (Addr × Obj) → Prop)
    (step : ∀ i ys news, i < n → Inv i ys news → ∀ v I oI C oC D m₂ h tk (E' : Value → Shared → Prop), P i v → LCg.NsObj oC m₂ → m₂ x = some v → Fr h₀ L h m → News h₀ L h ((I, oI) :: (C, oC) :: (D, LCg.lst ys) :: news) → LCg.Off3 I C D news → ((@Ne Nat I C) ∧ (@Ne Nat I D) ∧ (@Ne Nat C D)) →
      wpAny (model prog w) A (eval elt (compEnvC scope cl C env)) (LCg.CompEnd h₀ L m { s with heap := h, toks := tk } I oI C oC D (LCg.lst ys) S (fun y news' => Inv (i + 1) (ys ++ [y]) news')) E' { s with heap := h, toks := tk })
    (fin : ∀ ys news, Inv n ys news → Fin ys news) : ∀ k i ys news, i + k = n → Inv i ys news → LCg.CompRest prog w A h₀ L m env elt x scope cl s S P Fin k i ys news
  | 0, i, ys, news, e, hi => LCg.CompRest.zero (fin ys news (by rw [← e]; exact hi))
  | k + 1, i, ys, news, e, hi => LCg.CompRest.succ fun v I oI C oC D m₂ h tk E' a b c d f g j =>
      wpAny_mono (step i ys news (by exact (qg1 e)) hi v I oI C oC D m₂ h tk E' a b c d f g j) (fun y s' hy => CompEnd.mono hy fun y n hn => compRest_ind Inv step fin k (i + 1) _ _ (by exact (qg2 e)) hn) fun _ _ z => z
end
section
variable {prog : Program} {w : World} {A : Around} {E : Value → Shared → Prop} {s : Shared} {env : Env} {h₀ : Heap} {target : Expr} {body : List Stmt} {Q : Flow → Shared → Prop}
theorem AllObj.mono : ∀ {ws : List (Addr × String)} {k k' : List (Addr × Obj) → Prop}, AllObj ws k → (∀ its, k its → k' its) → AllObj ws k'
  | [], _, _, h, f => f _ h
  | _ :: _, _, _, h, f => fun o ho => AllObj.mono (h o ho) fun its hi => f _ hi
theorem UnrPostW.mono {L : Addr} {s₁ s₂ : Shared} {its : List (Addr × Obj)} {r r' : (Str → Option Value) → List (Addr × Obj) → Prop} {f : Flow} (h : UnrPostW h₀ L s₁ its r Q f s₂) (k : ∀ m n, r m n → r' m n) : UnrPostW h₀ L s₁ its r' Q f s₂ := by
  have e : UnrEndW h₀ L s₁ its r s₂ → UnrEndW h₀ L s₁ its r' s₂ := fun h => by
    obtain ⟨h', tk, m', news', e, F, N, o, hr⟩ := h
    exact ⟨h', tk, m', news', e, F, N, o, k _ _ hr⟩
  cases f with
  | ret v => exact h
  | brk => exact h
  | next => exact e h
  | cont => exact e h
theorem itemsRest_ind {ws : List (Addr × String)} {keep : List (Addr × Obj)} {xs : List Itm} (Inv : Nat → (Str → Option Value) → List (Addr × Obj) → Prop)
    (step : ∀ i a m news, xs[i]? = some a → Inv i m news → ∀ v h tk, a.Is v h → Fr h₀ env.locals h m → AllObj ws (fun its => News h₀ env.locals h (its ++ news) →
      wpAny (model prog w) A (assign target env v) (fun _ s₂ => wpAny (model prog w) A (execs body env) (UnrPostW h₀ env.locals { s with heap := h, toks := tk } its (fun m' n' => SubL keep n' ∧ Inv (i + 1) m' n') Q) E s₂) E { s with heap := h, toks := tk }))
    (fin : ∀ m news, Inv xs.length m news → ∀ h tk, Fr h₀ env.locals h m → News h₀ env.locals h news → Q .next { s with heap := h, toks := tk }) :
    ∀ (r : List Itm) i m news, xs.drop i = r → Inv i m news → i ≤ xs.length → ItemsRest prog w A E h₀ env target body Q s ws keep r m news
  | [], i, m, news, e, hi, hl => ItemsRest.zero (fin m news (by
      have : xs.length ≤ i := List.drop_eq_nil_iff.mp e
      have : i = xs.length := Nat.le_antisymm hl this
      rw [← this]; exact hi))
  | a :: r, i, m, news, e, hi, hl => fun v h tk hv F => by
      have hlt : i < xs.length := by
        rcases Nat.lt_or_ge i xs.length with h | h
        · exact h
        · rw [List.drop_eq_nil_of_le h] at e; cases e
      have hx := List.drop_eq_getElem_cons hlt
      rw [e] at hx
      injection hx with h1 h2
      have hg : xs[i]? = some a := by rw [h1]; exact List.getElem?_eq_getElem hlt
      refine AllObj.mono (step i a m news hg hi v h tk hv F) fun its k N => ?_
      exact wpAny_mono (k N) (fun _ s₂ q => wpAny_mono q (fun f s₃ u => UnrPostW.mono u fun m' n' z => ⟨z.1, itemsRest_ind Inv step fin r (i + 1) m' n' h2.symm z.2 hlt⟩) fun _ _ z => z) fun _ _ z => z
end
end
example : True := by w_top off; (try walk1); trivial
section
open PySem PySem.W PyProof.Rows PySem.Calls PySem.Spec
set_option Elab.async false
set_option maxRecDepth 100000
set_option maxHeartbeats 8000000
example : kdef.heap_1 = kdef.heap_1 ∧ PySem.Challenge.rw_xm0939_01 = PySem.Challenge.rw_xm0939_01 := by
  k_fill
  exact ⟨rfl, rfl⟩


structure SOf (p : PRec) (q : SRec) : Prop where
  la : q.la = p.la
  x : q.x = p.x
  sx : q.sx = p.sx
  fx : q.fx = p.fx
def RelPS (ps : List PRec) (qs : List SRec) : Prop := ∀ (k : Nat) (p : PRec) (q : SRec), ps[k]? = some p → qs[k]? = some q → SOf p q
theorem RelPS.nil (ps : List PRec) : RelPS ps [] := fun k p q _ e => by simp at e
theorem RelPS.snoc {ps : List PRec} {qs : List SRec} (h : RelPS ps qs) {p : PRec} {q : SRec} (hp : ps[qs.length]? = some p) (r : SOf p q) : RelPS ps (qs ++ [q]) := fun k p' q' e1 e2 => by
  rcases Nat.lt_trichotomy k qs.length with hk | hk | hk
  · rw [List.getElem?_append_left hk] at e2; exact h k p' q' e1 e2
  · subst hk
    rw [List.getElem?_append_right (Nat.le_refl _), Nat.sub_self] at e2
    rw [hp] at e1
    cases e1; cases e2; exact r
  · rw [List.getElem?_eq_none (by rw [List.length_append, List.length_singleton]; exact hk)] at e2; cases e2
theorem PIn.mono {P : Params} {own own' : List (Addr × Obj)} {r : PRec} (h : PIn P own r) (k : ∀ e ∈ own, e ∈ own') : PIn P own' r :=
  ⟨k _ h.m1, k _ h.m2, k _ h.m3, k _ h.m4, k _ h.m5, k _ h.m6, k _ h.m7, k _ h.m8⟩
def MadeInv (P : Params) (ps : List PRec) (led : List (Addr × Obj)) (i : Nat) (ys : List Value) (news : List (Addr × Obj)) : Prop :=
  ∃ qs : List SRec, qs.length = i ∧ ys = qs.map (fun q => .ref q.c) ∧ RelPS ps qs ∧ (∀ q ∈ qs, ∀ e ∈ q.core P, e ∈ news) ∧ ∀ e ∈ led, e ∈ news
theorem fr_name {h₀ h : Heap} {L : Addr} {m : Str → Option Value} {x : Str} {v : Value} (F : Fr h₀ L h m) (e : m x = some v) : Fr h₀ L h (fun y => if y = x then some v else m y) := by
  have : (fun y => if y = x then some v else m y) = m := by
    funext y
    by_cases h1 : y = x
    · rw [if_pos h1, h1]; exact e.symm
    · rw [if_neg h1]
  rw [this]; exact F
theorem fr_name3 {h₀ h : Heap} {L : Addr} {m : Str → Option Value} {x y z : Str} {v1 v2 v3 : Value} (F : Fr h₀ L h m) (e1 : m x = some v1) (e2 : m y = some v2) (e3 : m z = some v3) :
    Fr h₀ L h (fun t => if t = x then some v1 else if t = y then some v2 else if t = z then some v3 else m t) := by
  have : (fun t => if t = x then some v1 else if t = y then some v2 else if t = z then some v3 else m t) = m := by
    funext t
    by_cases h1 : t = x
    · rw [if_pos h1, h1]; exact e1.symm
    · rw [if_neg h1]
      by_cases h2 : t = y
      · rw [if_pos h2, h2]; exact e2.symm
      · rw [if_neg h2]
        by_cases h3 : t = z
        · rw [if_pos h3, h3]; exact e3.symm
        · rw [if_neg h3]
  rw [this]; exact F
/-- the labels so far: the i first of them, each with its place -/
structure LabK (las : List Str) (i : Nat) (kvs : List (Str × Value)) : Prop where
  len : kvs.length = i
  at' : ∀ k, k < i → ∃ la t, las[k]? = some la ∧ kvs[k]? = some (la, .int (k : Int) t)
theorem LabK.none {las : List Str} {i : Nat} {kvs : List (Str × Value)} (h : LabK las i kvs) (hn : las.Nodup) {la : Str} (hi : las[i]? = some la) : valueAt kvs la = none := by
  unfold valueAt
  rw [Option.map_eq_none_iff, List.find?_eq_none]
  intro kv hkv
  refine cps fun zG zk => ?_
  obtain ⟨k, hk, e⟩ := List.getElem_of_mem hkv
  have hk' : k < i := by rw [← h.len]; exact hk
  obtain ⟨la', t, e1, e2⟩ := h.at' k hk'
  refine zk ?_
  clear zk zG
  rw [List.getElem?_eq_getElem hk, e] at e2
  cases e2
  simp only [decide_eq_true_eq]
  intro hh
  have h1 := List.getElem?_eq_some_iff.mp e1
  have h2 := List.getElem?_eq_some_iff.mp hi
  refine cps fun zG zk => ?_
  obtain ⟨l1, g1⟩ := h1
  obtain ⟨l2, g2⟩ := h2
  refine zk ?_
  clear zk zG
  exact List.pairwise_iff_getElem.mp hn k i l1 l2 hk' (by rw [g1, g2]; exact hh)
theorem LabK.put {las : List Str} {i : Nat} {kvs : List (Str × Value)} (h : LabK las i kvs) (hn : las.Nodup) {la : Str} (hi : las[i]? = some la) (t : Tok) : LabK las (i + 1) (stored kvs la (.int (i : Int) t)) := by
  have hv := h.none hn hi
  have e : stored kvs la (.int (i : Int) t) = kvs ++ [(la, .int (i : Int) t)] := stored_absent hv _
  rw [e]
  refine ⟨by rw [List.length_append, h.len]; rfl, fun k hk => ?_⟩
  rcases Nat.lt_or_ge k i with hk' | hk'
  · refine cps fun zG zk => ?_
    obtain ⟨la', t', e1, e2⟩ := h.at' k hk'
    refine zk ?_
    clear zk zG
    exact ⟨la', t', e1, by rw [List.getElem?_append_left (by rw [h.len]; exact hk')]; exact e2⟩
  · have : k = i := by exact (Nat.le_antisymm (qs3 hk) hk')
    subst this
    exact ⟨la, t, hi, by rw [List.getElem?_append_right (by rw [h.len]; exact Nat.le_refl _), h.len, Nat.sub_self]; rfl⟩
def LabInv (w : World) (las : List Str) (d D : Addr) (ys : List Value) (tn : Tok) (news : List (Addr × Obj)) (i : Nat) (m : Str → Option Value) (n : List (Addr × Obj)) : Prop :=
  ∃ o kvs Dp, n = (d, o) :: (D, LCg.lst ys) :: news ∧ o.IsDictOf (strKind PG w) kvs ∧ PyProof.V.FlatPairs PyData.str kvs Dp ∧ Dp.length ≤ i ∧ LabK las i kvs ∧ m "labels" = some (.ref d) ∧ m "made" = some (.ref D) ∧ m "number" = some (.int 1 tn)
section
variable {w : World} {A : Around} {E : Value → Shared → Prop} {s : Shared} {Q : Value → Shared → Prop} {h₀ : Heap} {L d : Addr} {news : List (Addr × Obj)} {o : Obj} {kvs : List (Str × Value)} {x : Str} {t : Tok}
theorem ne_str_t {y : Str} {u : Tok} (hh : (x != y) = true) (h : Q (.bool true) s) : wpAny (model PG w) A (compareOp .NotEq (.str x t) (.str y u)) Q E s := ne_str (by rw [hh]; exact h)
theorem dict_notin (N : News h₀ L s.heap news) (hm : (d, o) ∈ news) (hd : o.IsDictOf (strKind PG w) kvs) (hs : (d == sysModules) = false) (hv : valueAt kvs x = none) (h : Q (.bool true) { s with toks := s.toks + 1 }) :
    wpAny (model PG w) A (compareOp .NotIn (.str x t) (.ref d)) Q E s :=
  wpAny_notIn_of (strKind_is _ _ _ _) hs (Heap.dictOf_iff.mpr ⟨o, N.get hm, hd⟩).mapOf (by rw [hv]; exact h)
end
local macro_rules | `(tactic| walk_at "exec For Tuple Call cons nil") => `(tactic| (k_here; (rename Fr _ _ _ _ => lF'); (with_unfolding_all refine' For_turns lF' ?_; k_whole)))
namespace cpC
def zP (w : World) (p : Program) (loose : List Str) (mean : ExcName → Option Value) (mg : Str → Option Value) (mb : Str → Option Value) (c : CX) (own : List (Addr × Obj)) (ps : List PRec) (sl : Addr) (nsl : Nat) (t1 : Tok) (A₀ : Around) (base : Heap) (h₀ : Heap) (m : Str → Option Value) (s : Shared) (Q : Value → Shared → Prop) (E : Value → Shared → Prop) : Prop := ∀ (B : Below A₀ base c.outer h₀) (F : Fr h₀ c.L s.heap m) (X : (kdef.heap_1 w.params).In h₀) (T : Top p loose mean mg mb h₀) (N : News h₀ c.L s.heap ((sl, W.listOf (ps.map fun r => .ref r.st).toArray nsl) :: own)) (I : ∀ r ∈ ps, PIn w.params own r) (hlen : ps.length ≤ 5) (hnd : (ps.map (·.la)).Nodup) (hne : ∀ r ∈ ps, (r.la != Str.ofString "") = true) (hok : ∀ h' tk' (qs : List SRec) (un ud ul D : Addr) (k1 k2 k3 : Tok) (o : Obj) (kvs : List (Str × Value)) (news' : List (Addr × Obj)), Fr h₀ c.L h' m →
      News h₀ c.L h' ((un, instObj 334 ud) :: (ud, unitD w.params k1 k2 k3 t1 D ul) :: (ul, o) :: (D, LCg.lst (qs.map fun q => .ref q.c)) :: news') → qs.length = ps.length → RelPS ps qs → (∀ q ∈ qs, ∀ e ∈ q.core w.params, e ∈ news') →
      (∀ e ∈ (sl, W.listOf (ps.map fun r => .ref r.st).toArray nsl) :: own, e ∈ news') → o.IsDictOf (strKind PG w) kvs → LabK (ps.map (·.la)) ps.length kvs → (ul == sysModules) = false → Q (.ref un) { s with heap := h', toks := tk' }),
  wpAny (model PG w) (c.T 490 3900) (call (.ref 399) [.ref sl, .int 1 t1]) Q E s
noncomputable def zc := eps (α := (World) × (Program) × (List Str) × (ExcName → Option Value) × (Str → Option Value) × (Str → Option Value) × (CX) × (List (Addr × Obj)) × (List PRec) × (Addr) × (Nat) × (Tok) × (Around) × (Heap) × (Heap) × (Str → Option Value) × (Shared) × (Value → Shared → Prop) × (Value → Shared → Prop)) ⟨world0, default, default, (fun _ => default), (fun _ => default), (fun _ => default), by constructor <;> exact default, default, default, default, default, default, {}, {}, {}, (fun _ => default), {}, (fun _ _ => True), (fun _ _ => True)⟩ (fun c => zP c.1 c.2.1 c.2.2.1 c.2.2.2.1 c.2.2.2.2.1 c.2.2.2.2.2.1 c.2.2.2.2.2.2.1 c.2.2.2.2.2.2.2.1 c.2.2.2.2.2.2.2.2.1 c.2.2.2.2.2.2.2.2.2.1 c.2.2.2.2.2.2.2.2.2.2.1 c.2.2.2.2.2.2.2.2.2.2.2.1 c.2.2.2.2.2.2.2.2.2.2.2.2.1 c.2.2.2.2.2.2.2.2.2.2.2.2.2.1 c.2.2.2.2.2.2.2.2.2.2.2.2.2.2.1 c.2.2.2.2.2.2.2.2.2.2.2.2.2.2.2.1 c.2.2.2.2.2.2.2.2.2.2.2.2.2.2.2.2.1 c.2.2.2.2.2.2.2.2.2.2.2.2.2.2.2.2.2.1 c.2.2.2.2.2.2.2.2.2.2.2.2.2.2.2.2.2.2)
@[irreducible] noncomputable def w := zc.1.1
@[irreducible] noncomputable def p := zc.1.2.1
@[irreducible] noncomputable def loose := zc.1.2.2.1
@[irreducible] noncomputable def mean := zc.1.2.2.2.1
@[irreducible] noncomputable def mg := zc.1.2.2.2.2.1
@[irreducible] noncomputable def mb := zc.1.2.2.2.2.2.1
@[irreducible] noncomputable def c := zc.1.2.2.2.2.2.2.1
@[irreducible] noncomputable def own := zc.1.2.2.2.2.2.2.2.1
@[irreducible] noncomputable def ps := zc.1.2.2.2.2.2.2.2.2.1
@[irreducible] noncomputable def sl := zc.1.2.2.2.2.2.2.2.2.2.1
@[irreducible] noncomputable def nsl := zc.1.2.2.2.2.2.2.2.2.2.2.1
@[irreducible] noncomputable def t1 := zc.1.2.2.2.2.2.2.2.2.2.2.2.1
@[irreducible] noncomputable def A₀ := zc.1.2.2.2.2.2.2.2.2.2.2.2.2.1
@[irreducible] noncomputable def base := zc.1.2.2.2.2.2.2.2.2.2.2.2.2.2.1
@[irreducible] noncomputable def h₀ := zc.1.2.2.2.2.2.2.2.2.2.2.2.2.2.2.1
@[irreducible] noncomputable def m := zc.1.2.2.2.2.2.2.2.2.2.2.2.2.2.2.2.1
@[irreducible] noncomputable def s := zc.1.2.2.2.2.2.2.2.2.2.2.2.2.2.2.2.2.1
@[irreducible] noncomputable def Q := zc.1.2.2.2.2.2.2.2.2.2.2.2.2.2.2.2.2.2.1
@[irreducible] noncomputable def E := zc.1.2.2.2.2.2.2.2.2.2.2.2.2.2.2.2.2.2.2
noncomputable def zpart0 : { R : ((Heap) → (Addr) → (Heap) → (Nat) → (Heap) → Prop) // Hide (∀ g' L' h' tk g, R g' L' h' tk g) → zP w p loose mean mg mb c own ps sl nsl t1 A₀ base h₀ m s Q E } := by
  refine' ⟨_, fun hP1 => ?main⟩
  case main =>
    intro B F X T N I hlen hnd hne hok
    w_on
    repeat' (first | (k_unfold; (try dsimp only)) | (k_end; wrow_close) | ((first | with_reducible ((with_reducible show wpAny _ _ (exec (Stmt.Assign ..) _) _ _ _); k_here; k_dflt (refine LCg.Assign_ListComp_U (F₀ := by k_asm) (by rfl) (by with_unfolding_all rfl) (by rfl) (by decide) (by rfl) (by decide) (by rfl) (by rfl) (by rfl) ?_)) | with_reducible ((with_reducible show LCg.CompSrc ..); k_dflt (refine stop_ ?_)) | walk1); (try ((with_reducible show wpAny _ _ (execs _ _) _ _ (Shared.mk _ _ _ (_ + 1) _)); refine tok_any ?_; intro tkn))) | (dsimp only; walk1) | (leave1; (try dsimp only)))
    rename_i g' L' h' FG' F' N' B' X' T'
    unfold Stop
    refine LCg.CompSrc.ledger rfl F' N' (.head _) (by simp only [PySem.sizeLine_eq, List.size_toArray, List.length_map]; exact (q16 hlen (by decide))) ?_
    intro g
    revert X T I hlen hnd hne hok B' X' T' qk ek
    exact hP1.out g' L' h' tk g
namespace z1
noncomputable def zc := eps (α := (Heap) × (Addr) × (Heap) × (Nat) × (Heap)) ⟨{}, default, {}, default, {}⟩ (fun c => zpart0.1 c.1 c.2.1 c.2.2.1 c.2.2.2.1 c.2.2.2.2)
@[irreducible] noncomputable def g' := zc.1.1
@[irreducible] noncomputable def L' := zc.1.2.1
@[irreducible] noncomputable def h' := zc.1.2.2.1
@[irreducible] noncomputable def tk := zc.1.2.2.2.1
@[irreducible] noncomputable def g := zc.1.2.2.2.2
noncomputable def zpart1 : { R : ((Nat) → (List Value) → (List (Addr × Obj)) → (Addr) → (Obj) → (Addr) → (Obj) → (Addr) → (Str → Option Value) → (Heap) → (Nat) → (Value → Shared → Prop) → (List SRec) → (PRec) → Prop) × ((List Value) → (List (Addr × Obj)) → (List SRec) → (Addr) → (Heap) → (Nat) → Prop) // Hide (∀ i ys news I' oI C oC D m₂ h tk E' qs pr, R.1 i ys news I' oI C oC D m₂ h tk E' qs pr) → Hide (∀ ys news qs D h tk, R.2 ys news qs D h tk) → zpart0.1 g' L' h' tk g } := by
  refine' ⟨(_, _), fun hP2 hP3 => ?main⟩
  case main =>
    intro X T I hlen hnd hne hok B' X' T' qk ek
    refine compRest_ind (MadeInv w.params ps ((sl, W.listOf (ps.map fun r => .ref r.st).toArray nsl) :: own)) ?_ ?_ _ 0 [] _ (Nat.zero_add _) ⟨[], rfl, rfl, RelPS.nil ps, fun q hq => (nomatch hq), fun e he => he⟩
    · intro i ys news hi hv v I' oI C oC D m₂ h tk E' hP hC hx F₁ N₁ off ne
      refine cps fun zG zk => ?_
      obtain ⟨qs, hq1, hq2, hq3, hq4, hq5⟩ := hv
      refine zk ?_
      clear zk zG
      rw [List.size_toArray, List.length_map] at hi
      have hpr : ps[i]? = some ps[i] := List.getElem?_eq_getElem hi
      generalize ps[i] = pr at hpr
      have hvv : v = .ref pr.st := by
        rw [List.getElem?_toArray, List.getElem?_map, hpr] at hP
        exact (Option.some.inj hP).symm
      subst hvv
      have hI9 : PIn w.params news pr := PIn.mono (I pr (List.mem_of_getElem? hpr)) fun e he => hq5 e (.tail _ he)
      revert X B' X' T' hC F₁ N₁ off hq1 hq2 hq3 hq4 hq5 hpr hx hI9
      exact hP2.out i ys news I' oI C oC D m₂ h tk E' qs pr
    · intro ys news hv
      refine cps fun zG zk => ?_
      obtain ⟨qs, hq1, hq2, hq3, hq4, hq5⟩ := hv
      refine zk ?_
      clear zk zG
      unfold LCg.FinA
      intro D h tk F₁ N₁ o1
      revert X T hlen hnd hne hok B' X' T' qk ek hq1 hq2 hq3 hq4 hq5 F₁ N₁
      exact hP3.out ys news qs D h tk

namespace z2
noncomputable def zc := eps (α := (Nat) × (List Value) × (List (Addr × Obj)) × (Addr) × (Obj) × (Addr) × (Obj) × (Addr) × (Str → Option Value) × (Heap) × (Nat) × (Value → Shared → Prop) × (List SRec) × (PRec)) ⟨default, default, default, default, default, default, default, default, (fun _ => default), {}, default, (fun _ _ => True), default, by constructor <;> exact default⟩ (fun c => zpart1.1.1 c.1 c.2.1 c.2.2.1 c.2.2.2.1 c.2.2.2.2.1 c.2.2.2.2.2.1 c.2.2.2.2.2.2.1 c.2.2.2.2.2.2.2.1 c.2.2.2.2.2.2.2.2.1 c.2.2.2.2.2.2.2.2.2.1 c.2.2.2.2.2.2.2.2.2.2.1 c.2.2.2.2.2.2.2.2.2.2.2.1 c.2.2.2.2.2.2.2.2.2.2.2.2.1 c.2.2.2.2.2.2.2.2.2.2.2.2.2)
@[irreducible] noncomputable def i := zc.1.1
@[irreducible] noncomputable def ys := zc.1.2.1
@[irreducible] noncomputable def news := zc.1.2.2.1
@[irreducible] noncomputable def I' := zc.1.2.2.2.1
@[irreducible] noncomputable def oI := zc.1.2.2.2.2.1
@[irreducible] noncomputable def C := zc.1.2.2.2.2.2.1
@[irreducible] noncomputable def oC := zc.1.2.2.2.2.2.2.1
@[irreducible] noncomputable def D := zc.1.2.2.2.2.2.2.2.1
@[irreducible] noncomputable def m₂ := zc.1.2.2.2.2.2.2.2.2.1
@[irreducible] noncomputable def h := zc.1.2.2.2.2.2.2.2.2.2.1
@[irreducible] noncomputable def tk := zc.1.2.2.2.2.2.2.2.2.2.2.1
@[irreducible] noncomputable def E' := zc.1.2.2.2.2.2.2.2.2.2.2.2.1
@[irreducible] noncomputable def qs := zc.1.2.2.2.2.2.2.2.2.2.2.2.2.1
@[irreducible] noncomputable def pr := zc.1.2.2.2.2.2.2.2.2.2.2.2.2.2
theorem zat : zpart1.1.1 i ys news I' oI C oC D m₂ h tk E' qs pr := by
  intro X B' X' T' hC F₁ N₁ off hq1 hq2 hq3 hq4 hq5 hpr hx hI9
  repeat' (first | (k_unfold; (try dsimp only)) | (k_end; wrow_close) | ((first | with_reducible (k_here; (with_reducible show wpAny _ _ (call (Value.ref 394) [Value.ref _]) _ _ _); k_dflt (refine wp_le (d := 500) (u := 4000) ?_ (Nat.le_of_ble_eq_true rfl) (Nat.le_of_ble_eq_true rfl)); k_dflt (refine' csC w (CX.mk _ _ _ _ _ _ _ _) _ pr _ _ _ _ _ _ _ ?Bx26 ?Fx26 ?Xx26 ?Tx26 ?Nx26 ?m1x26 ?_; (case Nx26 => k_asm); (case Bx26 => k_asm); (case Fx26 => k_asm); (case Xx26 => k_asm); (case Tx26 => k_asm); (case m1x26 => exact PIn.mono hI9 (fun q hq => .tail _ (.tail _ (.tail _ hq))))); intro h9 tk9 q9 F9 N9 e1 e2 e3 e4 l9) | with_reducible ((with_reducible show LCg.CompEnd ..); k_dflt (refine stop_ ?_)) | walk1); (try ((with_reducible show wpAny _ _ (execs _ _) _ _ (Shared.mk _ _ _ (_ + 1) _)); refine tok_any ?_; intro tkn))) | (dsimp only; walk1) | (leave1; (try dsimp only)))
  unfold Stop
  refine LCg.CompEnd.intro F9 N9 (q9.core w.params ++ news) ?_ (LCg.Off3.of ?_) (.inr ⟨_, List.mem_append_right _ (hq5 _ (.head _)), rfl, _, rfl⟩) ⟨qs ++ [q9], ?_, ?_, ?_, ?_, ?_⟩
  · intro e he
    rcases List.mem_cons.mp he with rfl | he
    · exact List.mem_append_right _ (.head _)
    rcases List.mem_cons.mp he with rfl | he
    · exact List.mem_append_right _ (.tail _ (.head _))
    rcases List.mem_cons.mp he with rfl | he
    · exact List.mem_append_right _ (.tail _ (.tail _ (.head _)))
    rcases List.mem_append.mp he with he | he
    · exact List.mem_append_left _ he
    · exact List.mem_append_right _ (.tail _ (.tail _ (.tail _ he)))
  · intro e he
    rcases List.mem_append.mp he with he | he
    · exact ⟨Nat.ne_of_gt (l9 _ (.head _) e he), Nat.ne_of_gt (l9 _ (.tail _ (.head _)) e he), Nat.ne_of_gt (l9 _ (.tail _ (.tail _ (.head _))) e he)⟩
    · exact off.mem e he
  · rw [List.length_append, hq1]; rfl
  · rw [hq2, List.map_append]; rfl
  · exact hq3.snoc (by rw [hq1]; exact hpr) ⟨e1, e2, e3, e4⟩
  · intro q hq e he
    rcases List.mem_append.mp hq with hq | hq
    · exact List.mem_append_right _ (hq4 q hq e he)
    · rw [List.mem_singleton.mp hq] at he
      exact List.mem_append_left _ he
  · exact fun e he => List.mem_append_right _ (hq5 e he)
theorem zall : ∀ i ys news I' oI C oC D m₂ h tk E' qs pr, zpart1.1.1 i ys news I' oI C oC D m₂ h tk E' qs pr := fun i ys news I' oI C oC D m₂ h tk E' qs pr => @epsH _ _ zc (by with_unfolding_all exact zat) (i, ys, news, I', oI, C, oC, D, m₂, h, tk, E', qs, pr)
end z2
namespace z3
noncomputable def zc := eps (α := (List Value) × (List (Addr × Obj)) × (List SRec) × (Addr) × (Heap) × (Nat)) ⟨default, default, default, default, {}, default⟩ (fun c => zpart1.1.2 c.1 c.2.1 c.2.2.1 c.2.2.2.1 c.2.2.2.2.1 c.2.2.2.2.2)
@[irreducible] noncomputable def ys := zc.1.1
@[irreducible] noncomputable def news := zc.1.2.1
@[irreducible] noncomputable def qs := zc.1.2.2.1
@[irreducible] noncomputable def D := zc.1.2.2.2.1
@[irreducible] noncomputable def h := zc.1.2.2.2.2.1
@[irreducible] noncomputable def tk := zc.1.2.2.2.2.2
noncomputable def zpart3 : { R : ((Addr) → (Heap) → (Nat) → (Addr) → (Nat) → (Str → Option Value) → (Heap) → (Nat) → (Obj) → (List (Str × Value)) → (List (PyData × PyData)) → (SRec) → (Addr) → (Tok) → (Obj) → (Obj) → Prop) × ((Addr) → (Heap) → (Nat) → (Str → Option Value) → (Heap) → (Nat) → (Obj) → (List (Str × Value)) → Prop) // Hide (∀ z4_1 z4_8 tkn I' i m₁ h₁ tk₁ o kvs Dp q T₁ t₁ oe oi, R.1 z4_1 z4_8 tkn I' i m₁ h₁ tk₁ o kvs Dp q T₁ t₁ oe oi) → Hide (∀ z5_1 z5_8 tkn m₁ h₁ tk₁ o kvs, R.2 z5_1 z5_8 tkn m₁ h₁ tk₁ o kvs) → zpart1.1.2 ys news qs D h tk } := by
  refine' ⟨(_, _), fun hP4 hP5 => ?main⟩
  case main =>
    intro X T hlen hnd hne hok B' X' T' qk ek hq1 hq2 hq3 hq4 hq5 F₁ N₁
    repeat' (first | (k_unfold; (try dsimp only)) | (k_end; wrow_close) | ((first | with_reducible ((with_reducible show wpAny _ _ (call (Value.type _) _) _ _ _); k_dflt (refine stop_ ?_)) | walk1); (try ((with_reducible show wpAny _ _ (execs _ _) _ _ (Shared.mk _ _ _ (_ + 1) _)); refine tok_any ?_; intro tkn))) | (dsimp only; walk1) | (leave1; (try dsimp only)))
    unfold Stop
    rename News _ _ _ _ => N'
    rename Fr _ _ _ _ => F'
    rename (_ == sysModules) = false => lo9
    rename Obj.IsDictOf (PySem.strKind PG w) _ _ => hs9
    rename PyProof.V.FlatPairs PyData.str _ _ => fs9
    refine' ktu_enum (lo := LCg.lst ys) (vs := ys) (n := ys.length) ?ka ?kb ?kc ?kd ?ke ?kf ?kg ?_
    case ka => exact rfl
    case kb => exact F'
    case kc => exact N'
    case kd => exact .tail _ (.head _)
    case ke => exact rfl
    case kf => exact rfl
    case kg => exact rfl
    intro I' l1
    k_lt l1
    refine itemsRest_ind (LabInv w (ps.map (·.la)) _ D ys t1 news) ?_ ?_ _ 0 _ _ rfl ⟨_, [], [], rfl, hs9, fs9, Nat.le_refl _, ⟨rfl, fun k hk => absurd hk (Nat.not_lt_zero k)⟩, rfl, rfl, rfl⟩ (Nat.zero_le _)
    · intro i a m₁ n₁ hx hv v h₁ tk₁ hav F₁
      refine cps fun zG zk => ?_
      obtain ⟨o, kvs, Dp, rfl, hD, hFP, hDp, hK, e1, e2, e3⟩ := hv
      refine zk ?_
      clear zk zG
      rw [List.size_toArray, List.length_map] at hq1
      have hi : i < ys.length := by
        have := (List.getElem?_eq_some_iff.mp hx).1
        rwa [enumItems_length] at this
      have hi' : i < qs.length := by rwa [hq2, List.length_map] at hi
      have hqi : qs[i]? = some qs[i] := List.getElem?_eq_getElem hi'
      generalize qs[i] = q at hqi
      have hyi : ys[i]? = some (.ref q.c) := by rw [hq2, List.getElem?_map, hqi]; rfl
      have := enumItems_get ys 0 i hyi
      rw [this] at hx
      have hpi : ps[i]? = some ps[i] := List.getElem?_eq_getElem (by rw [← hq1]; exact hi')
      generalize ps[i] = p at hpi
      have hla := (hq3 i p q hpi hqi).la
      have hlai : (ps.map (·.la))[i]? = some q.la := by rw [List.getElem?_map, hpi, hla]; rfl
      have hys : ys.length ≤ 5 := by rw [hq2, List.length_map, hq1]; exact hlen
      have hqb : (q.la != Str.ofString "") = true := by rw [hla]; exact hne p (List.mem_of_getElem? hpi)
      have hvn := hK.none hnd hlai
      have c1 : (q.c, instObj 313 q.cd) ∈ news := hq4 q (List.mem_of_getElem? hqi) _ (by unfold SRec.core; simp)
      have c2 : (q.cd, q.dict w.params) ∈ news := hq4 q (List.mem_of_getElem? hqi) _ (by unfold SRec.core; simp)
      cases hx
      refine cps fun zG zk => ?_
      obtain ⟨T₁, t₁, rfl, hT⟩ := hav
      refine zk ?_
      clear zk zG
      rw [Nat.zero_add] at hT
      refine AllObj.cons fun oe he => AllObj.cons fun oi ho => AllObj.nil fun N₁ => ?_
      replace F₁ := fr_name3 F₁ e1 e2 e3
      ((try clear N'); (try clear F'))
      simp only [List.cons_append, List.nil_append] at N₁
      rename_i z4_1 z4_2 z4_3 z4_4 z4_5 z4_6 z4_7 z4_8 z4_9
      revert X hlen hnd X' qk ek hq1 lo9 z4_6 z4_7 z4_9 l1 hD hFP hDp hK hi' hlai hqb hvn c1 c2 hT N₁ F₁
      exact hP4.out z4_1 z4_8 tkn I' i m₁ h₁ tk₁ o kvs Dp q T₁ t₁ oe oi
    · intro m₁ n₁ hv h₁ tk₁ F₁ N₁
      refine cps fun zG zk => ?_
      obtain ⟨o, kvs, Dp, rfl, hD, hFP, hDp, hK, e1, e2, e3⟩ := hv
      refine zk ?_
      clear zk zG
      replace F₁ := fr_name3 F₁ e1 e2 e3
      ((try clear N'); (try clear F'))
      rw [enumItems_length] at hK
      rw [List.size_toArray, List.length_map] at hq1
      rename_i z5_1 z5_2 z5_3 z5_4 z5_5 z5_6 z5_7 z5_8 z5_9
      revert X T hok B' X' T' qk ek hq1 hq2 hq3 hq4 hq5 lo9 N₁ hD hK F₁
      exact hP5.out z5_1 z5_8 tkn m₁ h₁ tk₁ o kvs
namespace z4
noncomputable def zc := eps (α := (Addr) × (Heap) × (Nat) × (Addr) × (Nat) × (Str → Option Value) × (Heap) × (Nat) × (Obj) × (List (Str × Value)) × (List (PyData × PyData)) × (SRec) × (Addr) × (Tok) × (Obj) × (Obj)) ⟨default, {}, default, default, default, (fun _ => default), {}, default, default, default, default, by constructor <;> exact default, default, default, default, default⟩ (fun c => zpart3.1.1 c.1 c.2.1 c.2.2.1 c.2.2.2.1 c.2.2.2.2.1 c.2.2.2.2.2.1 c.2.2.2.2.2.2.1 c.2.2.2.2.2.2.2.1 c.2.2.2.2.2.2.2.2.1 c.2.2.2.2.2.2.2.2.2.1 c.2.2.2.2.2.2.2.2.2.2.1 c.2.2.2.2.2.2.2.2.2.2.2.1 c.2.2.2.2.2.2.2.2.2.2.2.2.1 c.2.2.2.2.2.2.2.2.2.2.2.2.2.1 c.2.2.2.2.2.2.2.2.2.2.2.2.2.2.1 c.2.2.2.2.2.2.2.2.2.2.2.2.2.2.2)
@[irreducible] noncomputable def z4_1 := zc.1.1
@[irreducible] noncomputable def z4_8 := zc.1.2.1
@[irreducible] noncomputable def tkn := zc.1.2.2.1
@[irreducible] noncomputable def I' := zc.1.2.2.2.1
@[irreducible] noncomputable def i := zc.1.2.2.2.2.1
@[irreducible] noncomputable def m₁ := zc.1.2.2.2.2.2.1
@[irreducible] noncomputable def h₁ := zc.1.2.2.2.2.2.2.1
@[irreducible] noncomputable def tk₁ := zc.1.2.2.2.2.2.2.2.1
@[irreducible] noncomputable def o := zc.1.2.2.2.2.2.2.2.2.1
@[irreducible] noncomputable def kvs := zc.1.2.2.2.2.2.2.2.2.2.1
@[irreducible] noncomputable def Dp := zc.1.2.2.2.2.2.2.2.2.2.2.1
@[irreducible] noncomputable def q := zc.1.2.2.2.2.2.2.2.2.2.2.2.1
@[irreducible] noncomputable def T₁ := zc.1.2.2.2.2.2.2.2.2.2.2.2.2.1
@[irreducible] noncomputable def t₁ := zc.1.2.2.2.2.2.2.2.2.2.2.2.2.2.1
@[irreducible] noncomputable def oe := zc.1.2.2.2.2.2.2.2.2.2.2.2.2.2.2.1
@[irreducible] noncomputable def oi := zc.1.2.2.2.2.2.2.2.2.2.2.2.2.2.2.2
theorem zat : zpart3.1.1 z4_1 z4_8 tkn I' i m₁ h₁ tk₁ o kvs Dp q T₁ t₁ oe oi := by
  intro X hlen hnd X' qk ek hq1 lo9 z4_6 z4_7 z4_9 l1 hD hFP hDp hK hi' hlai hqb hvn c1 c2 hT N₁ F₁
  repeat' (first | (k_unfold; (try dsimp only)) | (k_end; wrow_close) | ((first | with_reducible ((with_reducible show wpAny _ _ (compareOp CmpOp.NotEq (Value.str ..) (Value.str ..)) _ _ _); k_here; k_dflt (refine' ne_str_t ?k1x29 ?_; (case k1x29 => assumption))) | with_reducible ((with_reducible show wpAny _ _ (compareOp CmpOp.NotIn (Value.str ..) (Value.ref _)) _ _ _); k_here; (with_reducible show wpAny _ _ (compareOp CmpOp.NotIn _ (Value.ref _)) _ _ _); k_dflt (refine' dict_notin ?k1x30 ?k2x30 hD lo9 hvn ?_; (case k1x30 => k_asm); (case k2x30 => k_mem))) | with_reducible (k_here; k_dflt (refine' setItem_K PyProof.V.same_str (strKind_is _ _ _ _) (PyProof.V.Flat.int _ _) ?k1x31 ?k2x31 ?k3x31 hD hFP ?_ ?zx31; (case k1x31 => k_asm); (case k2x31 => k_asm); (case k3x31 => k_updF); (case zx31 => rw [PySem.sizeLine_eq]; exact (q16 hDp (q16 (Nat.le_of_lt hi') (q16 (qele hq1 hlen) (by decide)))))); intro h8 o8 F8 N8 hD8 hFP8) | walk1); (try ((with_reducible show wpAny _ _ (execs _ _) _ _ (Shared.mk _ _ _ (_ + 1) _)); refine tok_any ?_; intro tkn))) | (dsimp only; walk1) | (leave1; (try dsimp only)))
  rename News _ _ _ _ => N9
  rename Fr _ _ _ _ => F9
  skip
  skip
  refine ⟨_, _, _, _, rfl, F9, N9, ?_, ?_, _, _, _, rfl, hD8, hFP8, ?_, hK.put hnd hlai _, rfl, rfl, rfl⟩
  · intro e he q hq
    simp only [List.mem_cons, List.not_mem_nil, or_false] at hq
    have h1 : @LT.lt Nat _ e.1 I' := by
      rcases List.mem_cons.mp he with rfl | he
      · exact l1.1
      rcases List.mem_cons.mp he with rfl | he
      · exact l1.2.1
      exact Lts.at (by assumption) he
    rcases hq with rfl | rfl <;> k_ne
  · exact ⟨.tail _ (.head _), trivial⟩
  · unfold PyProof.V.putD
    split
    · rw [List.length_map]; exact (qles hDp)
    · rw [List.length_append]; simp only [List.length_singleton]; exact (qp1 hDp)
theorem zall : ∀ z4_1 z4_8 tkn I' i m₁ h₁ tk₁ o kvs Dp q T₁ t₁ oe oi, zpart3.1.1 z4_1 z4_8 tkn I' i m₁ h₁ tk₁ o kvs Dp q T₁ t₁ oe oi := fun z4_1 z4_8 tkn I' i m₁ h₁ tk₁ o kvs Dp q T₁ t₁ oe oi => @epsH _ _ zc (by with_unfolding_all exact zat) (z4_1, z4_8, tkn, I', i, m₁, h₁, tk₁, o, kvs, Dp, q, T₁, t₁, oe, oi)
end z4
namespace z5
noncomputable def zc := eps (α := (Addr) × (Heap) × (Nat) × (Str → Option Value) × (Heap) × (Nat) × (Obj) × (List (Str × Value))) ⟨default, {}, default, (fun _ => default), {}, default, default, default⟩ (fun c => zpart3.1.2 c.1 c.2.1 c.2.2.1 c.2.2.2.1 c.2.2.2.2.1 c.2.2.2.2.2.1 c.2.2.2.2.2.2.1 c.2.2.2.2.2.2.2)
@[irreducible] noncomputable def z5_1 := zc.1.1
@[irreducible] noncomputable def z5_8 := zc.1.2.1
@[irreducible] noncomputable def tkn := zc.1.2.2.1
@[irreducible] noncomputable def m₁ := zc.1.2.2.2.1
@[irreducible] noncomputable def h₁ := zc.1.2.2.2.2.1
@[irreducible] noncomputable def tk₁ := zc.1.2.2.2.2.2.1
@[irreducible] noncomputable def o := zc.1.2.2.2.2.2.2.1
@[irreducible] noncomputable def kvs := zc.1.2.2.2.2.2.2.2
theorem zat : zpart3.1.2 z5_1 z5_8 tkn m₁ h₁ tk₁ o kvs := by
  intro X T hok B' X' T' qk ek hq1 hq2 hq3 hq4 hq5 lo9 N₁ hD hK F₁
  repeat' (first | (k_unfold; (try dsimp only)) | (k_end; wrow_close) | (walk1; (try ((with_reducible show wpAny _ _ (execs _ _) _ _ (Shared.mk _ _ _ (_ + 1) _)); refine tok_any ?_; intro tkn))) | (dsimp only; walk1) | (leave1; (try dsimp only)))
  rename News _ _ _ _ => N9
  rename Fr _ _ _ _ => F9
  rw [hq2] at N9 hK
  rw [List.length_map, hq1] at hK
  exact hok _ _ qs _ _ _ _ _ _ _ o kvs news F9 N9 hq1 hq3 hq4 hq5 hD hK lo9
theorem zall : ∀ z5_1 z5_8 tkn m₁ h₁ tk₁ o kvs, zpart3.1.2 z5_1 z5_8 tkn m₁ h₁ tk₁ o kvs := fun z5_1 z5_8 tkn m₁ h₁ tk₁ o kvs => @epsH _ _ zc (by with_unfolding_all exact zat) (z5_1, z5_8, tkn, m₁, h₁, tk₁, o, kvs)
end z5
theorem zat : zpart1.1.2 ys news qs D h tk := zpart3.2 ⟨z4.zall⟩ ⟨z5.zall⟩
theorem zall : ∀ ys news qs D h tk, zpart1.1.2 ys news qs D h tk := fun ys news qs D h tk => @epsH _ _ zc (by with_unfolding_all exact zat) (ys, news, qs, D, h, tk)
end z3
theorem zat : zpart0.1 g' L' h' tk g := zpart1.2 ⟨z2.zall⟩ ⟨z3.zall⟩
theorem zall : ∀ g' L' h' tk g, zpart0.1 g' L' h' tk g := fun g' L' h' tk g => @epsH _ _ zc (by with_unfolding_all exact zat) (g', L', h', tk, g)
end z1
theorem zat : zP w p loose mean mg mb c own ps sl nsl t1 A₀ base h₀ m s Q E := zpart0.2 ⟨z1.zall⟩
theorem zall : ∀ w p loose mean mg mb c own ps sl nsl t1 A₀ base h₀ m s Q E, zP w p loose mean mg mb c own ps sl nsl t1 A₀ base h₀ m s Q E := fun w p loose mean mg mb c own ps sl nsl t1 A₀ base h₀ m s Q E => @epsH _ _ zc (by with_unfolding_all exact zat) (w, p, loose, mean, mg, mb, c, own, ps, sl, nsl, t1, A₀, base, h₀, m, s, Q, E)
end cpC
theorem cpC (w : World) {p : Program} {loose : List Str} {mean : ExcName → Option Value} {mg mb : Str → Option Value} (c : CX) (own : List (Addr × Obj)) (ps : List PRec) (sl : Addr) (nsl : Nat) (t1 : Tok)
    (A₀ : Around) (base h₀ : Heap) (m : Str → Option Value) (s : Shared) (Q E : Value → Shared → Prop)
    (B : Below A₀ base c.outer h₀) (F : Fr h₀ c.L s.heap m) (X : (kdef.heap_1 w.params).In h₀) (T : Top p loose mean mg mb h₀)
    (N : News h₀ c.L s.heap ((sl, W.listOf (ps.map fun r => .ref r.st).toArray nsl) :: own)) (I : ∀ r ∈ ps, PIn w.params own r) (hlen : ps.length ≤ 5)
    (hnd : (ps.map (·.la)).Nodup) (hne : ∀ r ∈ ps, (r.la != Str.ofString "") = true)
    (hok : ∀ h' tk' (qs : List SRec) (un ud ul D : Addr) (k1 k2 k3 : Tok) (o : Obj) (kvs : List (Str × Value)) (news' : List (Addr × Obj)), Fr h₀ c.L h' m →
      News h₀ c.L h' ((un, instObj 334 ud) :: (ud, unitD w.params k1 k2 k3 t1 D ul) :: (ul, o) :: (D, LCg.lst (qs.map fun q => .ref q.c)) :: news') → qs.length = ps.length → RelPS ps qs → (∀ q ∈ qs, ∀ e ∈ q.core w.params, e ∈ news') →
      (∀ e ∈ (sl, W.listOf (ps.map fun r => .ref r.st).toArray nsl) :: own, e ∈ news') → o.IsDictOf (strKind PG w) kvs → LabK (ps.map (·.la)) ps.length kvs → (ul == sysModules) = false → Q (.ref un) { s with heap := h', toks := tk' }) : wpAny (model PG w) (c.T 490 3900) (call (.ref 399) [.ref sl, .int 1 t1]) Q E s := cpC.zall w p loose mean mg mb c own ps sl nsl t1 A₀ base h₀ m s Q E B F X T N I hlen hnd hne hok
end
example : True := by w_top off; (try walk1); trivial
section
open PySem PySem.W PyProof.Rows PySem.Calls PySem.Spec
set_option Elab.async false
set_option maxRecDepth 100000
set_option maxHeartbeats 8000000
example : kdef.heap_1 = kdef.heap_1 ∧ PySem.Challenge.rw_xm0939_01 = PySem.Challenge.rw_xm0939_01 := by
  k_fill
  exact ⟨rfl, rfl⟩


/-- a statement as it is made -/
noncomputable abbrev newD (P : Params) (k : Nat → Tok) (ln : Int) (tn tx : Tok) : Obj := dictOf [
  ⟨PyData.keyHash P (Str.ofString "label"), .str (Str.ofString "label") (k 1), .none⟩,
  ⟨PyData.keyHash P (Str.ofString "subject"), .str (Str.ofString "subject") (k 2), .none⟩,
  ⟨PyData.keyHash P (Str.ofString "pattern"), .str (Str.ofString "pattern") (k 3), .none⟩,
  ⟨PyData.keyHash P (Str.ofString "is_replaced"), .str (Str.ofString "is_replaced") (k 4), .bool false⟩,
  ⟨PyData.keyHash P (Str.ofString "replacement"), .str (Str.ofString "replacement") (k 5), .none⟩,
  ⟨PyData.keyHash P (Str.ofString "go_success"), .str (Str.ofString "go_success") (k 6), .none⟩,
  ⟨PyData.keyHash P (Str.ofString "go_failure"), .str (Str.ofString "go_failure") (k 7), .none⟩,
  ⟨PyData.keyHash P (Str.ofString "go_always"), .str (Str.ofString "go_always") (k 8), .none⟩,
  ⟨PyData.keyHash P (Str.ofString "line"), .str (Str.ofString "line") (k 9), .int ln tn⟩,
  ⟨PyData.keyHash P (Str.ofString "text"), .str (Str.ofString "text") (k 10), .str (Str.ofString "") tx⟩] 10
namespace stC
def zP (w : World) (p : Program) (loose : List Str) (mean : ExcName → Option Value) (mg : Str → Option Value) (mb : Str → Option Value) (c : CX) (own : List (Addr × Obj)) (ln : Int) (tn : Tok) (tx : Tok) (A₀ : Around) (base : Heap) (h₀ : Heap) (m : Str → Option Value) (s : Shared) (Q : Value → Shared → Prop) (E : Value → Shared → Prop) : Prop := ∀ (B : Below A₀ base c.outer h₀) (F : Fr h₀ c.L s.heap m) (X : (kdef.heap_1 w.params).In h₀) (T : Top p loose mean mg mb h₀) (N : News h₀ c.L s.heap own) (hok : ∀ h' tk' (st sd : Addr) (k : Nat → Tok), Fr h₀ c.L h' m → News h₀ c.L h' ((st, instObj 416 sd) :: (sd, newD w.params k ln tn tx) :: own) → (∀ a ∈ own, a.1 < sd) → @LT.lt Nat _ sd st → Q (.ref st) { s with heap := h', toks := tk' }),
  wpAny (model PG w) (c.T 490 3900) (call (.ref 416) [.int ln tn, .str (Str.ofString "") tx]) Q E s
noncomputable def zc := eps (α := (World) × (Program) × (List Str) × (ExcName → Option Value) × (Str → Option Value) × (Str → Option Value) × (CX) × (List (Addr × Obj)) × (Int) × (Tok) × (Tok) × (Around) × (Heap) × (Heap) × (Str → Option Value) × (Shared) × (Value → Shared → Prop) × (Value → Shared → Prop)) ⟨world0, default, default, (fun _ => default), (fun _ => default), (fun _ => default), by constructor <;> exact default, default, default, default, default, {}, {}, {}, (fun _ => default), {}, (fun _ _ => True), (fun _ _ => True)⟩ (fun c => zP c.1 c.2.1 c.2.2.1 c.2.2.2.1 c.2.2.2.2.1 c.2.2.2.2.2.1 c.2.2.2.2.2.2.1 c.2.2.2.2.2.2.2.1 c.2.2.2.2.2.2.2.2.1 c.2.2.2.2.2.2.2.2.2.1 c.2.2.2.2.2.2.2.2.2.2.1 c.2.2.2.2.2.2.2.2.2.2.2.1 c.2.2.2.2.2.2.2.2.2.2.2.2.1 c.2.2.2.2.2.2.2.2.2.2.2.2.2.1 c.2.2.2.2.2.2.2.2.2.2.2.2.2.2.1 c.2.2.2.2.2.2.2.2.2.2.2.2.2.2.2.1 c.2.2.2.2.2.2.2.2.2.2.2.2.2.2.2.2.1 c.2.2.2.2.2.2.2.2.2.2.2.2.2.2.2.2.2)
@[irreducible] noncomputable def w := zc.1.1
@[irreducible] noncomputable def p := zc.1.2.1
@[irreducible] noncomputable def loose := zc.1.2.2.1
@[irreducible] noncomputable def mean := zc.1.2.2.2.1
@[irreducible] noncomputable def mg := zc.1.2.2.2.2.1
@[irreducible] noncomputable def mb := zc.1.2.2.2.2.2.1
@[irreducible] noncomputable def c := zc.1.2.2.2.2.2.2.1
@[irreducible] noncomputable def own := zc.1.2.2.2.2.2.2.2.1
@[irreducible] noncomputable def ln := zc.1.2.2.2.2.2.2.2.2.1
@[irreducible] noncomputable def tn := zc.1.2.2.2.2.2.2.2.2.2.1
@[irreducible] noncomputable def tx := zc.1.2.2.2.2.2.2.2.2.2.2.1
@[irreducible] noncomputable def A₀ := zc.1.2.2.2.2.2.2.2.2.2.2.2.1
@[irreducible] noncomputable def base := zc.1.2.2.2.2.2.2.2.2.2.2.2.2.1
@[irreducible] noncomputable def h₀ := zc.1.2.2.2.2.2.2.2.2.2.2.2.2.2.1
@[irreducible] noncomputable def m := zc.1.2.2.2.2.2.2.2.2.2.2.2.2.2.2.1
@[irreducible] noncomputable def s := zc.1.2.2.2.2.2.2.2.2.2.2.2.2.2.2.2.1
@[irreducible] noncomputable def Q := zc.1.2.2.2.2.2.2.2.2.2.2.2.2.2.2.2.2.1
@[irreducible] noncomputable def E := zc.1.2.2.2.2.2.2.2.2.2.2.2.2.2.2.2.2.2
theorem zat : zP w p loose mean mg mb c own ln tn tx A₀ base h₀ m s Q E := by
  intro B F X T N hok
  w_on
  repeat' (first | (k_unfold; (try dsimp only)) | (k_end; wrow_close) | (walk1; (try ((with_reducible show wpAny _ _ (execs _ _) _ _ (Shared.mk _ _ _ (_ + 1) _)); refine tok_any ?_; intro tkn))) | (dsimp only; walk1) | (leave1; (try dsimp only)))
  rename News _ _ _ _ => N9
  rename Fr _ _ _ _ => F9
  with_reducible rename Lts own _ => hz
  rename @LT.lt Nat _ _ _ => l2
  exact hok _ _ _ _ (fun n => [0, _, _, _, _, _, _, _, _, _, _].getD n 0) F9 N9 hz l2

theorem zall : ∀ w p loose mean mg mb c own ln tn tx A₀ base h₀ m s Q E, zP w p loose mean mg mb c own ln tn tx A₀ base h₀ m s Q E := fun w p loose mean mg mb c own ln tn tx A₀ base h₀ m s Q E => @epsH _ _ zc (by with_unfolding_all exact zat) (w, p, loose, mean, mg, mb, c, own, ln, tn, tx, A₀, base, h₀, m, s, Q, E)
end stC
theorem stC (w : World) {p : Program} {loose : List Str} {mean : ExcName → Option Value} {mg mb : Str → Option Value} (c : CX) (own : List (Addr × Obj)) (ln : Int) (tn tx : Tok)
    (A₀ : Around) (base h₀ : Heap) (m : Str → Option Value) (s : Shared) (Q E : Value → Shared → Prop)
    (B : Below A₀ base c.outer h₀) (F : Fr h₀ c.L s.heap m) (X : (kdef.heap_1 w.params).In h₀) (T : Top p loose mean mg mb h₀) (N : News h₀ c.L s.heap own)
    (hok : ∀ h' tk' (st sd : Addr) (k : Nat → Tok), Fr h₀ c.L h' m → News h₀ c.L h' ((st, instObj 416 sd) :: (sd, newD w.params k ln tn tx) :: own) → (∀ a ∈ own, a.1 < sd) → @LT.lt Nat _ sd st → Q (.ref st) { s with heap := h', toks := tk' }) : wpAny (model PG w) (c.T 490 3900) (call (.ref 416) [.int ln tn, .str (Str.ofString "") tx]) Q E s := stC.zall w p loose mean mg mb c own ln tn tx A₀ base h₀ m s Q E B F X T N hok
end
section
open PySem PySem.W PyProof.Rows PySem.Calls PySem.Spec
set_option Elab.async false
set_option maxRecDepth 100000
set_option maxHeartbeats 8000000
section
variable {prog : Program} {w : World} {A : Around} {E : Value → Shared → Prop} {s : Shared} {h₀ : Heap} {L : Addr} {m : Str → Option Value} {env : Env}
/-- a comprehension's source: the keys (strs) of a made dict -/
def SrcK (prog : Program) (w : World) (A : Around) (h₀ : Heap) (L : Addr) (m : Str → Option Value) (env : Env) (elt : Expr) (x : Str) (scope : Scope) (cl : List (Str × Addr)) (Fin : Shared → List Value → List (Addr × Obj) → Prop) (xv : Value) (s₁ : Shared) : Prop :=
  ∃ d o kvs news, xv = .ref d ∧ A.handled = none ∧ Fr h₀ L s₁.heap m ∧ News h₀ L s₁.heap news ∧ (d, o) ∈ news ∧ (d == sysModules) = false ∧ o.IsDictOf (strKind prog w) kvs ∧ kvs.length ≤ sizeLine ∧
    ∀ s₂ : Shared, (∃ h, s₂ = { s₁ with heap := h }) → LCg.CompRest prog w A h₀ L m env elt x scope cl s₂ (fun nw => (d, o) ∈ nw) (fun i v => ∃ k y t, kvs[i]? = some (k, y) ∧ v = .str k t) (Fin s₂) kvs.length 0 [] news
theorem ListComp_keys {elt iter : Expr} {x : Str} {px : Pos} {scope : Scope} {cl : List (Str × Addr)} {pos : Pos} {Q : Value → Shared → Prop} (_F₀ : Fr h₀ L s.heap m)
    (hclos : closureFor scope env = pure cl) (hcell : ∀ y ∈ scope.names, y.2 ≠ .cell) (hkind : scope.kind = .function)
    (hnames : ∀ y ∈ scope.names, y.2 = .local → scope.names.lookup y.1 = some .local) (hx : scope.names.lookup x = some .local)
    (h : wpAny (model prog w) A (eval iter env) (SrcK prog w A h₀ L m env elt x scope cl (fun s₂ => LCg.FinE h₀ L m s₂ Q)) E s)
    (hs : ∀ x, foldedSetIterable iter env x = pure x := by intro _; rfl) :
    wpAny (model prog w) A (eval (.ListComp elt [⟨.Name x px, iter, [], 0⟩] scope pos) env) Q E s := by
  rw [eval_ListComp]
  refine wpAny_comprehension_free (use := none) rfl hs hclos hkind hnames (wpAny_mono h (fun xv s₁ h₁ => ?_) fun _ _ e => e)
  obtain ⟨d, o, kvs, news, rfl, hh, F, N, hm, hsys, hd, hsz, R⟩ := h₁
  obtain ⟨es, ep, r⟩ := hd
  have hat : ∀ g : Heap, g.get? d = some o → g.DictAt (strKind prog w) d kvs ep := fun g e => ⟨o, es, e, r⟩
  have hax := N _ hm
  have hlt : d < s₁.heap.objs.size := Heap.lt_size hax.1
  have hne : d ≠ s₁.heap.objs.size := Nat.ne_of_lt hlt
  refine wpAny_pyIter_dict hsys (hat _ hax.1) ?_
  have up : ∀ b o, s₁.heap.get? b = some o → (s₁.heap.push { cls := .type "dict_keyiterator", data := .fields #[.ref d, .int 0 0, .int kvs.length 0, .int ep 0] }).get? b = some o := fun b o e => Heap.get?_push_of_some _ e
  have W := (Walks.dictKeys (prog := prog) (w := w) (knd := strKind prog w) hh s₁.heap.objs.size d hne kvs ep).weaken (P' := fun i v => ∃ k y t, kvs[i]? = some (k, y) ∧ v = .str k t) (fun i v hv => by
    obtain ⟨k, y, hk, hkv⟩ := hv
    obtain ⟨t, ht⟩ := Value.isStrOf_shape hkv
    exact ⟨k, y, t, hk, ht⟩)
  refine LCg.block_U W hsz (fun i h st => by obtain ⟨o, e, _⟩ := st.1; exact ⟨o, e⟩) (fun i g g' o' nw st e e' k N' hS => ⟨?_, hat _ (N' _ hS).1⟩) hcell hkind hx ⟨⟨_, Heap.get?_push_size _ rfl, rfl, rfl⟩, hat _ (up _ _ hax.1)⟩ (fun b hb => ?_)
    (F.keeps up) (N.grown up) (Nat.ne_of_lt F.ns.lt) (next_is_new F) (fun p hp => Nat.ne_of_lt (Heap.lt_size (N p hp).1)) hm (R _ ⟨_, rfl⟩) ?_
  · obtain ⟨o'', q, r⟩ := st.1
    rw [e] at q; cases q
    exact ⟨o', e', r⟩
  · show b < (s₁.heap.push _).objs.size
    rw [Heap.size_push]
    rcases List.mem_cons.mp hb with rfl | hb
    · exact Nat.lt_succ_self _
    · rw [List.mem_singleton.mp hb]; exact Nat.lt_succ_of_lt hlt
  · intro D C h tk m' ys news' F' N' o1 hn hC₀ hD₀ hCL hDL hCD offC fin
    refine ⟨m', hn, fun h'' hs'' => fin D h'' tk (F'.change hs'' hCL hC₀) (fun p hp => ?_) o1⟩
    refine ⟨hs''.extBut _ _ ?_ (N' p hp).1, (N' p hp).2⟩
    rcases List.mem_cons.mp hp with rfl | hp
    · exact Ne.symm hCD
    · exact offC p hp
end
end
section
open PySem PySem.W PyProof.Rows PySem.Calls PySem.Spec
set_option Elab.async false
set_option maxRecDepth 100000
set_option maxHeartbeats 4000000
theorem lk_list_keys : typeLookup (.type "list") "keys" = pure none := by rw [typeLookup_type, builtinLookup_eq_fast]; kernel_rfl
theorem getAttrQ_miss {prog : Program} {w : World} {A : Around} {E : Value → Shared → Prop} {s : Shared} {a : Addr} {xs : Array Value} {k : Nat} {sl : Array (Option Value)} {name : Str} {Q : Option Value → Shared → Prop}
    (hx : s.heap.get? a = some { cls := .type "list", dict := none, data := .seq xs k, slots := sl }) (hmiss : typeLookup (.type "list") name = pure none) (hname : (["__module__", "__name__", "__qualname__", "__doc__", "__annotations__"] : List Str).contains name = false) (hA : A.handled = none)
    (h : ∀ h' tk, (∀ b o, s.heap.get? b = some o → h'.get? b = some o) → Q none { s with heap := h', toks := tk }) (hsz : name.length + 100 ≤ sizeLine := by size_fits) :
    wpAny (model prog w) A (getAttr? (.ref a) name) Q E s := by
  obtain ⟨hp, g, d, tk, os⟩ := s
  have hT : ∀ tk', (⟨hp, g, d, tk', os⟩ : Shared).TypeIs (.ref a) "list" := fun _ => ⟨_, hx, rfl⟩
  have f1 := sub_AttributeError
  have f3 := F.slot_list_getattribute.lookup
  have f4 := F.slot_list_getattribute.bind (.ref a)
  have f5 := am_list_getattr_none
  unfold getAttr? getAttrBy? getAttrBy
  repeat (any_goals (first | assumption | exact hT _ | ((with_reducible show wpAny _ _ (call (Value.builtin "list.__getattribute__") _ _) _ _ _); refine call_meets F.slot_list_getattribute (hT _) am_entry_list_getattribute (F.args_list_getattribute_2 _ _) (meets_getattribute_miss_list a xs k sl name _ hmiss hname hsz) ⟨hx, hA, fun h' tk' e hx' => ?_⟩) | wp_step))
  obtain ⟨t', u', he⟩ := hx'.there
  show wpAny _ _ (getattributeRaised _ _ _ _ _ _ _) _ _ _
  unfold getattributeRaised
  repeat (any_goals (first | assumption | wp_step))
  exact h _ _ hx'.keeps
theorem entry_dict_loop : entryFor table "dict.update.loop" = some Builtin.«dict.update.loop» := entryFor_of_tree (by kernel_rfl)
theorem plain_dict_loop : plainId "dict.update.loop" = true := by decide +kernel
section
variable {prog : Program} {w : World} {A : Around} {R : Result → Shared → Prop} {I l d : Addr} {ys : List Value} {kvs : List (Str × Value)}
theorem code_dict_loop (hh : A.in1.handled = none) (hIl : l ≠ I) (hdl : d ≠ l) (hdI : d ≠ I) (res : Value) (hlen : ys.length = kvs.length) (hsz : kvs.length ≤ 1000) (hnd : (kvs.map (·.1)).Nodup) (s₀ : Shared)
    (hp : ∀ (i : Nat) (k : Str) (v : Value), kvs[i]? = some (k, v) → ∃ (T : Addr) (t : Tok) (n : Nat), ys[i]? = some (.ref T) ∧ T ≠ I ∧ T ≠ d ∧ s₀.heap.get? T = some { cls := .type "tuple", dict := none, data := .seq #[.str k t, v] n, slots := #[] }) :
    ∀ (k i : Nat) (s : Shared) (tz : Tok), kvs.length - i = k → i ≤ kvs.length → s.heap.IsListIter I l i → s.heap.IsList l ys.toArray → s.heap.DictOf (strKind prog w) d (kvs.take i) → (∀ b o, b ≠ I → b ≠ d → s₀.heap.get? b = some o → s.heap.get? b = some o) → (∃ h' tk, s = { s₀ with heap := h', toks := tk }) →
    (∀ h' tk, h'.DictOf (strKind prog w) d kvs → (∀ b o, b ≠ I → b ≠ d → s₀.heap.get? b = some o → h'.get? b = some o) → R (.ok (.ret res)) { s₀ with heap := h', toks := tk }) →
    codeAny (model prog w) A (.builtin "dict.update.loop" ⟨[.ref d, .ref I, .int i tz, res], []⟩) R s := by
  have W := Walks.list (prog := prog) (w := w) hh I l hIl ys.toArray
  have hn : ys.toArray.size = kvs.length := by rw [List.size_toArray, hlen]
  rw [hn] at W
  intro k
  induction k with
  | zero =>
    intro i s tz hk hi hit hl hd hkeep hs hR
    have hin : i = kvs.length := by omega
    subst hin
    refine codeAny_builtin entry_dict_loop ?_
    rw [Around.under_plainId plain_dict_loop _]
    show wpAny _ A.in1 (pyNext (.ref I) >>= _) _ _ s
    refine wpAny_bind (W.done s _ _ ⟨hit, hl⟩ fun h' tk hk' => ?_)
    obtain ⟨h₁, tk₁, rfl⟩ := hs
    rw [List.take_length] at hd
    refine wpAny_bind (wpAny_pure ?_)
    exact wpAny_pure (hR h' tk (Heap.DictOf.at hd fun o e => hk' d o (by simpa using hdI) e) fun b o hb hb' e => hk' b o (by simpa using hb) (hkeep b o hb hb' e))
  | succ k ih =>
    intro i s tz hk hi hit hl hd hkeep hs hR
    have hlt : i < kvs.length := by omega
    have hkv : kvs[i]? = some kvs[i] := List.getElem?_eq_getElem hlt
    obtain ⟨T, t, n, hy, hTI, hTd, hT⟩ := hp i kvs[i].1 kvs[i].2 hkv
    refine codeAny_builtin entry_dict_loop ?_
    rw [Around.under_plainId plain_dict_loop _]
    show wpAny _ A.in1 (pyNext (.ref I) >>= _) _ _ s
    refine wpAny_bind (W.item i s _ _ hlt ⟨hit, hl⟩ fun v h' tk hP hst hk' => ?_)
    have hv : v = .ref T := by
      rw [List.getElem?_toArray, hy] at hP
      exact (Option.some.inj hP).symm
    subst hv
    have hT' : h'.get? T = some _ := hk' T _ (by simpa using hTI) (hkeep T _ hTI hTd hT)
    have hd' : h'.DictOf (strKind prog w) d (kvs.take i) := Heap.DictOf.at hd fun o e => hk' d o (by simpa using hdI) e
    have htk : (kvs.take i).length ≤ sizeLine := by rw [List.length_take, sizeLine_eq]; omega
    have hTy : ∀ tk', (⟨h', s.gens, s.drawn, tk', s.os⟩ : Shared).TypeIs (.ref T) "tuple" := fun _ => ⟨_, hT', rfl⟩
    refine wpAny_bind (wpAny_holding (wpAny_bind (wpAny_tryCatch ?_)))
    unfold Builtin.Dict.pairItems
    refine wpAny_bind (wpAny_typeOf (hTy _) ?_)
    rw [if_pos (by decide)]
    refine wpAny_bind (wpAny_seqItems hT' rfl (wpAny_pure ?_))
    show wpAny _ _ (holding _ (dictSet d _ _)) _ _ _
    refine wpAny_holding (wpAny_dictSet_pairs (strKind_is _ _ _ _) hd' (fun h₂ hd₂ hs₂ => ?_) htk)
    have hne : valueAt (kvs.take i) kvs[i].1 = none := by
      unfold valueAt
      rw [Option.map_eq_none_iff, List.find?_eq_none]
      intro kv hkv'
      obtain ⟨j, hj, e⟩ := List.getElem_of_mem hkv'
      have hj' : j < i := by rw [List.length_take] at hj; exact (qmn hj)
      simp only [decide_eq_true_eq]
      intro e2
      rw [List.getElem_take] at e
      have := List.pairwise_iff_getElem.mp hnd j i (by rw [List.length_map]; exact (Nat.lt_trans hj' hlt)) (by rw [List.length_map]; exact hlt) hj'
      rw [List.getElem_map, List.getElem_map] at this
      exact this (by rw [e]; exact e2)
    have hst2 : stored (kvs.take i) kvs[i].1 kvs[i].2 = kvs.take (i + 1) := by
      rw [stored_absent hne, List.take_add_one, hkv]; rfl
    rw [hst2] at hd₂
    have k2 : ∀ b o, b ≠ d → h'.get? b = some o → h₂.get? b = some o := fun b o hb e => (hs₂.2 b hb).trans e
    obtain ⟨h₁, tk₁, rfl⟩ := hs
    refine wpAny_pure ⟨plainId_quiet plain_dict_loop _, ih (i + 1) _ _ (by omega) hlt (hst.1.at fun o e => k2 I o (Ne.symm hdI) e) (hst.2.at fun o e => k2 l o (Ne.symm hdl) e) hd₂ (fun b o hb hb' e => k2 b o hb' (hk' b o (by simpa using hb) (hkeep b o hb hb' e))) ⟨h₂, _, rfl⟩ hR⟩
end
end
section
open PySem PySem.W PyProof.Rows PySem.Calls PySem.Spec
set_option Elab.async false
set_option maxRecDepth 100000
set_option maxHeartbeats 4000000
section
variable {prog : Program} {w : World} {A : Around} {E : Value → Shared → Prop} {s : Shared} {h₀ : Heap} {L l : Addr} {m : Str → Option Value} {news : List (Addr × Obj)} {ys : List Value} {kvs : List (Str × Value)} {nl : Nat}
theorem call_dict_pairs {Q : Value → Shared → Prop} (hA : A.handled = none) (FF : Fr h₀ L s.heap m) (N : News h₀ L s.heap news) (hm : (l, W.listOf ys.toArray nl) ∈ news) (hbig : sysModules < h₀.objs.size)
    (hlen : ys.length = kvs.length) (hsz : kvs.length ≤ 1000) (hnd : (kvs.map (·.1)).Nodup)
    (hp : ∀ (i : Nat) (k : Str) (v : Value), kvs[i]? = some (k, v) → ∃ (T : Addr) (t : Tok) (n : Nat), ys[i]? = some (.ref T) ∧ (T, ({ cls := .type "tuple", data := .seq #[.str k t, v] n } : Obj)) ∈ news)
    (h : ∀ h' tk d o, Fr h₀ L h' m → News h₀ L h' ((d, o) :: news) → (∀ p ∈ news, p.1 < d) → (d == sysModules) = false → o.IsDictOf (strKind prog w) kvs → Q (.ref d) { s with heap := h', toks := tk }) :
    wpAny (model prog w) A (call (.type "dict") [.ref l]) Q E s := by
  have hl0 := N _ hm
  refine callType_codes (Q₁ := fun obj s₁ => obj = .ref s.heap.objs.size ∧ s₁ = { s with heap := s.heap.push { cls := .type "dict", data := .dict #[] } }) F.kt_called_dict (F.kt_typeCall_dict_1 _) F.entry_dict_init (kt_code_dict_new _ ⟨rfl, rfl⟩) ?_
  rintro obj s₁ ⟨rfl, rfl⟩
  have hnew : (s.heap.push { cls := .type "dict", data := .dict #[] }).DictOf (strKind prog w) s.heap.objs.size [] := Heap.DictOf.new s.heap
  refine ⟨hnew.typeIs, F.args_dict_init_2 _ _, ?_⟩
  unfold Builtin.«dict.__init__»
  refine wpAny_bind ?_
  unfold Builtin.Dict.selfAndRest
  refine wpAny_bind (wpAny_notOrdered_dict hnew.typeIs ?_)
  show wpAny _ _ (pure (s.heap.objs.size, [Value.ref l])) _ _ _
  refine wpAny_pure ?_
  show wpAny _ _ (Builtin.Dict.updateFrom "dict.__init__" s.heap.objs.size (.ref l) [] .none) _ _ _
  have hl1 : (s.heap.push { cls := .type "dict", data := .dict #[] }).get? l = some (W.listOf ys.toArray nl) := Heap.get?_push_of_some _ hl0.1
  unfold Builtin.Dict.updateFrom
  have hTl : ∀ tk', (⟨s.heap.push { cls := .type "dict", data := .dict #[] }, s.gens, s.drawn, tk', s.os⟩ : Shared).TypeIs (.ref l) "list" := fun _ => ⟨_, hl1, rfl⟩
  refine wpAny_bind (wpAny_typeOf (hTl _) ?_)
  rw [if_pos (by decide)]
  refine wpAny_bind (getAttrQ_miss hl1 lk_list_keys (by decide) (show A.in1.in1.handled = none from hA) (fun h₂ tk₂ k₂ => ?_) (by rw [sizeLine_eq]; decide))
  rw [if_pos (show (none : Option Value).isNone = true from rfl)]
  refine wpAny_bind (wpAny_rule ?_)
  have hl2 := k₂ _ _ hl1
  have hls : h₂.IsList l ys.toArray := ⟨_, hl2, rfl, _, rfl⟩
  refine wpAny_bind (wpAny_pyIter_list (s := ⟨h₂, s.gens, s.drawn, tk₂, s.os⟩) hls ?_)
  have hld : s.heap.objs.size ≠ l := Nat.ne_of_gt (Heap.lt_size hl0.1)
  have hdlt : s.heap.objs.size < h₂.objs.size := by
    have : (s.heap.push { cls := .type "dict", data := .dict #[] }).get? s.heap.objs.size = some _ := Heap.get?_push_size _ rfl
    exact Heap.lt_size (k₂ _ _ this)
  have hlt2 : ∀ b o, s.heap.get? b = some o → b < s.heap.objs.size := fun b o e => Heap.lt_size e
  refine wpAny_pure ⟨plainId_quiet plain_dict_loop _, code_dict_loop (A := A.in1) (I := h₂.objs.size) (l := l) (d := s.heap.objs.size) (ys := ys) (kvs := kvs) hA (Nat.ne_of_lt (Nat.lt_trans (hlt2 _ _ hl0.1) hdlt)) hld (Nat.ne_of_lt hdlt) .none hlen hsz hnd { s with heap := h₂.push { cls := .type "list_iterator", data := .fields #[.ref l, .int 0 0] } } ?_ kvs.length 0 _ _ (Nat.sub_zero _) (Nat.zero_le _) ?_ ?_ ?_ ?_ ⟨_, _, rfl⟩ ?_⟩
  · intro i k v hk
    obtain ⟨T, t, n, h1, h2⟩ := hp i k v hk
    have hT := (N _ h2).1
    have hlt := hlt2 _ _ hT
    exact ⟨T, t, n, h1, Nat.ne_of_lt (Nat.lt_trans hlt hdlt), Nat.ne_of_lt hlt, Heap.get?_push_of_some _ (k₂ _ _ (Heap.get?_push_of_some _ hT))⟩
  · exact ⟨_, Heap.get?_push_size _ rfl, rfl, rfl⟩
  · exact hls.at fun o e => Heap.get?_push_of_some _ e
  · rw [List.take_zero]
    exact Heap.DictOf.at (Heap.DictOf.at hnew fun o e => k₂ _ o e) fun o e => Heap.get?_push_of_some _ e
  · exact fun b o _ _ e => e
  · intro h' tk hd hk
    obtain ⟨o', ho', hd'⟩ := Heap.dictOf_iff.mp hd
    refine ⟨rfl, ?_⟩
    have up : ∀ b o, s.heap.get? b = some o → h'.get? b = some o := fun b o e => by
      have hlt := hlt2 _ _ e
      exact hk b o (Nat.ne_of_lt (Nat.lt_trans hlt hdlt)) (Nat.ne_of_lt hlt) (Heap.get?_push_of_some _ (k₂ _ _ (Heap.get?_push_of_some _ e)))
    have F' : Fr h₀ L h' m := FF.keeps up
    have hfr : h₀.get? s.heap.objs.size = none := Heap.get?_none_of_le (Nat.le_of_lt (Nat.lt_of_le_of_lt FF.above FF.ns.lt))
    exact h h' tk s.heap.objs.size o' F' (fun p hp => by
      rcases List.mem_cons.mp hp with rfl | hp
      · exact ⟨ho', Ne.symm (Nat.ne_of_lt FF.ns.lt), hfr⟩
      · exact ⟨up _ _ (N p hp).1, (N p hp).2⟩) (fun p hp => Heap.lt_size (N p hp).1) (FF.notModules hbig) hd'
end
end
section
open PySem PySem.W PyProof.Rows PySem.Calls PySem.Spec
set_option Elab.async false
set_option maxRecDepth 100000
set_option maxHeartbeats 4000000
/-- what the table of a def's nested codes holds: nothing, or the one code -/
def TabS (own : List (Addr × Obj)) (P : Addr) (ln cn : Nat) (qual : Str) (ps : Array Value) : Prop :=
  ps = #[] ∨ ∃ c' oc vs t, ps = #[rawInt ln, rawInt cn, .ref c'] ∧ (c', oc) ∈ own ∧ c' ≠ P ∧ oc.data = .fields vs ∧ vs[1]? = some (.str qual t)
section
variable {M : Model} {A : Around} {E : Value → Shared → Prop} {s : Shared} {h₀ : Heap} {L a c P : Addr} {m mg mb : Str → Option Value} {cn : Str} {cs : Scope} {ccd : Value} {cl : List (Str × Addr)} {news : List (Addr × Obj)} {g : Obj → List (Addr × Obj)}
  {p : Program} {loose : List Str} {mean : ExcName → Option Value} {name qual : Str} {params : Arguments} {body : List Stmt} {scope : Scope} {ps : Array Value} {pos : Pos} {firstLine : Nat} {clos : List (Str × Addr)}
theorem tab_make {Q : Value → Shared → Prop} (F : Fr h₀ L s.heap m) (N : News h₀ L s.heap news) (T : Top p loose mean mg mb h₀) (C : CodeHd h₀ c P) (hcd : ccd = .ref c) (U : UpdF P (tabObj ps) news g) (S : TabS news P pos.line pos.col qual ps)
    (hcl : closureFor scope (envX cn cs L a ccd cl) = pure clos)
    (h : ∀ f c' oc vs t ctv doc h' tk, Fr h₀ L h' m →
      News h₀ L h' ((f, fnMade name qual params body scope clos doc ((mg "__name__").getD .none) c' ctv) :: (c', oc) :: g (tabObj #[rawInt pos.line, rawInt pos.col, .ref c'])) →
      oc.data = .fields vs → vs[1]? = some (.str qual t) → c' ≠ P → (∀ q ∈ news, q.1 < f) → c' < f → Q (.ref f) { s with heap := h', toks := tk }) :
    wpAny M A (makeFunction name qual params (.stmts body) scope (envX cn cs L a ccd cl) [] [] [] pos firstLine) Q E s := by
  rcases S with rfl | ⟨c', oc, vs, t, rfl, hm, hne, hd, hv⟩
  · have hP : (P, tabObj #[]) ∈ news := (updF_mem U).1
    exact nest_K F N T C hcd U trivial rfl hcl fun f c' oc vs t ctv doc h' tk F' N' hd hv l1 l2 =>
      h f c' oc vs t ctv doc h' tk F' N' hd hv (Nat.ne_of_gt (l1 _ hP)) (fun q hq => Nat.lt_trans (l1 q hq) l2) l2
  · have hP : (P, tabObj #[rawInt pos.line, rawInt pos.col, .ref c']) ∈ news := (updF_mem U).1
    refine nestHit_K (c' := c') F N T C hcd hP (by simp [TriplesOk, rawInt]) (by simp [codeAmong, rawInt]) hcl fun f ctv doc h' tk F' N' l1 =>
      h f c' oc vs t ctv doc h' tk F' (fun q hq => ?_) hd hv hne l1 (l1 _ hm)
    rcases List.mem_cons.mp hq with rfl | hq
    · exact N' _ (.head _)
    rcases List.mem_cons.mp hq with rfl | hq
    · exact N' _ (.tail _ hm)
    obtain ⟨own, rest, e1, e2, _, _⟩ := U.split
    rw [e2] at hq
    exact N' _ (.tail _ (e1 ▸ hq))
end
end
section
open PySem PySem.W PyProof.Rows PySem.Calls PySem.Spec
set_option Elab.async false
set_option maxRecDepth 100000
set_option maxHeartbeats 4000000
theorem intsAre_map : ∀ l : List (Int × Tok), IntsAre (l.map fun p => Value.int p.1 p.2) (l.map Prod.fst)
  | [] => .nil
  | p :: r => .cons p.1 p.2 (intsAre_map r)
section
variable {prog : Program} {w : World} {A : Around} {E : Value → Shared → Prop} {s : Shared} {h₀ : Heap} {L D : Addr} {m : Str → Option Value} {news news' : List (Addr × Obj)} {n : Nat}
theorem pop0_K {y : Value} {q : List Value} {u : Tok} {Q : Value → Shared → Prop} (F : Fr h₀ L s.heap m) (N : News h₀ L s.heap news) (U : Upd D (W.listOf (y :: q).toArray n) (W.listOf q.toArray (n + 1)) news news')
    (hz : q.length ≤ 1000) (h : ∀ h', Fr h₀ L h' m → News h₀ L h' news' → Q y { s with heap := h' }) : wpAny (model prog w) A (call (.builtin "list.pop") [.ref D, .int 0 u]) Q E s :=
  kl_popAt (p := []) (q := q) (y := y) F N rfl (k := 0) (by simp [seqIndex?]) rfl U (by show (y :: q).length ≤ _; rw [sizeLine_eq, List.length_cons]; exact (qp1 (Nat.le_trans hz (by decide)))) h
theorem eq_nil_K {a b : Addr} {left : List (Int × Tok)} {n1 n2 : Nat} {Q : Value → Shared → Prop} (N : News h₀ L s.heap news) (ha : (a, W.listOf (left.map fun p => Value.int p.1 p.2).toArray n1) ∈ news) (hb : (b, W.listOf #[] n2) ∈ news) (hu : A.units + 64 < cLine)
    (h1 : left = [] → Q (.bool true) s) (h2 : ∀ x r, left = x :: r → Q (.bool false) s) : wpAny (model prog w) A (compareOp .Eq (.ref a) (.ref b)) Q E s :=
  ke_eq_ints (xs := left.map fun p => Value.int p.1 p.2) (ys := []) (ns := left.map Prod.fst) (ms := []) (News.isList N ha) (News.isList N hb) (intsAre_map left) .nil hu (by
    cases left with
    | nil => exact h1 rfl
    | cons x r => exact h2 x r rfl)
end
end
section
open PySem PySem.W PyProof.Rows PySem.Calls PySem.Spec
set_option Elab.async false
set_option maxRecDepth 100000
set_option maxHeartbeats 8000000
example : kdef.heap_1 = kdef.heap_1 ∧ PySem.Challenge.rw_xm0939_01 = PySem.Challenge.rw_xm0939_01 := by
  k_fill
  exact ⟨rfl, rfl⟩

section
variable {A₀ : Around} {base g G B h₅ : Heap} {outer : List Env} {L : Addr} {m : Str → Option Value} {env : Env}
theorem ground_x (K : Below A₀ base outer g) (F : Fr g L G m) (hf : env.frame = some L) (hBG : ∀ b o, G.get? b = some o → b ∉ (env :: outer).filterMap (·.frame) → B.get? b = some o) (hBh : B.StaysIn h₅) (hsm : G.UpToSlots h₅) :
    ∃ g', KtsTurn (outer.filterMap (·.frame)) g g' ∧ Fr g' L h₅ m ∧ Below A₀ base outer g' := by
  refine cps fun zG zk => ?_
  obtain ⟨T, S⟩ := kts_turn_at (h := h₅) (fs := outer.filterMap (·.frame)) (g := g)
    (fun b hb => by
      obtain ⟨_, o, ho, _⟩ := K.frames.mem hb
      exact ⟨o, ho⟩)
    (fun b o e nm => hBh b o (hBG b o (F.keep b o e) (fun hm => by
      rcases frames_mem hf hm with z | z
      · rw [z, kts_self F] at e
        cases e
      · exact nm z)))
    (fun b o e hm => by
      obtain ⟨_, o', ho', hd⟩ := K.frames.mem hm
      rw [e] at ho'
      cases ho'
      exact hsm b o (F.keep b o e) hd)
  refine zk ?_
  clear zk zG
  refine ⟨_, T, ⟨hsm.ns F.ns, S, by rw [T.size]; exact F.above⟩, ⟨K.stack, fun b o e => T.other b o (K.stays b o e) (fun hm => by
    rw [(K.frames.mem hm).1] at e
    cases e), K.frames.of_keeps fun b o e _ => ?_⟩⟩
  refine cps fun zG zk => ?_
  obtain ⟨sl, hs⟩ := T.up e
  refine zk ?_
  clear zk zG
  exact ⟨_, hs, rfl⟩
theorem fresh_x {b : Addr} (F : Fr g L G m) (hf : env.frame = some L) (hBG : ∀ b o, G.get? b = some o → b ∉ (env :: outer).filterMap (·.frame) → B.get? b = some o) (hb : B.get? b = none)
    (hnf : ∀ o, g.get? b = some o → b ∈ outer.filterMap (·.frame) → False) : g.get? b = none := by
  cases q : g.get? b with
  | none => rfl
  | some o =>
    by_cases hm : b ∈ outer.filterMap (·.frame)
    · exact (hnf o q hm).elim
    · have := hBG b o (F.keep b o q) (fun hm' => by
        rcases frames_mem hf hm' with z | z
        · rw [z, kts_self F] at q
          cases q
        · exact hm z)
      rw [hb] at this
      cases this
end

section
variable {w : World} {A₀ : Around} {E : Value → Shared → Prop} {s' : Shared} {base g G : Heap} {outer : List Env} {L a e dx : Addr} {m : Str → Option Value} {cn : Str} {cs : Scope} {ccd : Value} {cl : List (Str × Addr)}
  {n : Str} {b₀ : Stmt} {suite : List Stmt} {pos np : Pos} {rest : List ExceptHandler} {Q : Flow → Shared → Prop} {led : List (Addr × Obj)}
  {p : Program} {loose : List Str} {mean : ExcName → Option Value} {mg mb : Str → Option Value}
theorem catch_snob (K : Below A₀ base outer g) (F : Fr g L G m) (R : Thrown base G (envX cn cs L a ccd cl :: outer) e dx led s'.heap) (hsm : G.UpToSlots s'.heap) (XB : (kdef.heap_1 w.params).In base) (TB : Top p loose mean mg mb base)
    (hnm : nsIn (kdef.heap_1 w.params) mainGlobals (Str.ofString "SnobolError") = some (some (.ref 34)))
    (k : ∀ h' g' tk vs, vs[2]? = some .none → KtsTurn (outer.filterMap (·.frame)) g g' → Fr g' L h' (fun y => if y = n then some (.ref e) else m y) → News g' L h' ((e, ⟨.ref 34, some dx, .fields vs, #[]⟩) :: led) → Below (A₀.mark (some (.ref e))) base outer g' → (kdef.heap_1 w.params).In g' → Top p loose mean mg mb g' →
      wpAny (model PG w) ((A₀.mark (some (.ref e))).deeper (envX cn cs L a ccd cl)) (execs (b₀ :: suite) (envX cn cs L a ccd cl))
        (fun f s₄ => wpAny (model PG w) (A₀.deeper (envX cn cs L a ccd cl)) (do bindName (envX cn cs L a ccd cl) n .none; unbindBehindTheSuite (envX cn cs L a ccd cl) n pos) (fun _ s₅ => Q f s₅) E s₄)
        (AsSuiteRaised (model PG w) ((A₀.deeper (envX cn cs L a ccd cl)).mark (some (.ref e))) (envX cn cs L a ccd cl) n pos (notedBy (model PG w) ((A₀.deeper (envX cn cs L a ccd cl)).mark (some (.ref e))) (envX cn cs L a ccd cl) (cameBackBy (model PG w) (A₀.deeper (envX cn cs L a ccd cl)) (envX cn cs L a ccd cl) E)))
        { s' with heap := h', toks := tk })
    (hk : cs.kind = .function := by rfl) (hlo : (envX cn cs L a ccd cl).kindOf n = some .local := by rfl) (hx : (envX cn cs L a ccd cl).kindOf (Str.ofString "SnobolError") = some .globalImplicit := by rfl) :
    wpAny (model PG w) (A₀.deeper (envX cn cs L a ccd cl)) (noteFrame (.ref e) (envX cn cs L a ccd cl))
      (fun _ s₂ => wpAny (model PG w) (A₀.deeper (envX cn cs L a ccd cl)) (setFlight (.ref e) none) (fun _ s₃ =>
        wpAny (model PG w) (A₀.deeper (envX cn cs L a ccd cl)) (handleBy (.ref e) (envX cn cs L a ccd cl) (.ExceptHandler (some (.Name (Str.ofString "SnobolError") np)) (some n) (b₀ :: suite) pos :: rest)) Q E s₃) E s₂) E s' := by
  refine cps fun zG zk => ?_
  obtain ⟨B, hB, hBG, hl, hfl⟩ := R
  refine zk ?_
  clear zk zG
  have hf : (envX cn cs L a ccd cl).frame = some L := rfl
  have hL : B.get? L = none := by
    refine cps fun zG zk => ?_
    obtain ⟨_, ⟨L', _, hf, hn', _⟩, _⟩ := hfl.2.2.1
    obtain rfl : L = L' := Option.some.inj hf
    refine zk ?_
    clear zk zG
    exact hn'
  refine note_next (Around.frames_deeper K.stack) hf hfl fun h₄ x₄ U₄ => ?_
  refine land (s := { s' with heap := h₄ }) x₄ fun h₅ x₅ U₅ => ?_
  refine cps fun zG zk => ?_
  obtain ⟨g₅, T₅, F₅, K₅⟩ := ground_x K F hf hBG x₅.1 (hsm.trans (U₄.trans U₅))
  refine zk ?_
  clear zk zG
  have X₅ : (kdef.heap_1 w.params).In g₅ := XB.keeps K₅.stays
  have P₅ : TopRead p loose mg mb g₅ := topRead_of (TB.keeps K₅.stays)
  refine wpAny_handleBy_cons (codeAny_handlers_test (wpAny_mono (nameX_K F₅ X₅ P₅ hnm (Q := fun c s₁ => c = .ref 34 ∧ s₁ = { s' with heap := h₅ }) ⟨rfl, rfl⟩ hk hx) (fun c s₁ h₁ => ?_) fun _ _ y => y)) (by intro q; cases q)
  refine cps fun zG zk => ?_
  obtain ⟨rfl, rfl⟩ := h₁
  obtain ⟨nm, q, bs, hdct, sn, sub, ab, col, dd, k0, k1, k2, k3, k5, -, hC⟩ := snob_cls (X₅.keeps F₅.keep)
  have he₅ : ∃ vs, h₅.get? e = some ⟨.ref 34, some dx, .fields vs, #[]⟩ := by
    obtain ⟨_, _, _, vs, T, oT, ts, he, _⟩ := x₅
    exact ⟨vs, he⟩
  obtain ⟨vs₅, he₅⟩ := he₅
  refine zk ?_
  clear zk zG
  refine wpAny_excMatches_sub_self hC he₅ rfl (by decide) (codeAny_handlers_suite_as ?_)
  refine land (s := { s' with heap := h₅ }) x₅ fun h₆ x₆ U₆ => ?_
  refine cps fun zG zk => ?_
  obtain ⟨g₆, T₆, F₆, K₆⟩ := ground_x K F hf hBG x₆.1 (hsm.trans (U₄.trans (U₅.trans U₆)))
  have he₆ : ∃ vs, h₆.get? e = some ⟨.ref 34, some dx, .fields vs, #[]⟩ ∧ vs[2]? = some .none := by
    obtain ⟨_, _, _, vs, T, oT, ts, he, _, _, _, _, _, _, h2n⟩ := x₆
    exact ⟨vs, he, h2n⟩
  obtain ⟨vs, he₆, h2n⟩ := he₆
  refine zk ?_
  clear zk zG
  have ne₆ : g₆.get? e = none := T₆.none_ _ (fresh_x F hf hBG x₆.2.1 fun o ho m => by
    refine cps fun zG zk => ?_
    obtain ⟨_, o', ho', hd⟩ := K.frames.mem m
    refine zk ?_
    clear zk zG
    rw [ho] at ho'
    cases ho'
    refine cps fun zG zk => ?_
    obtain ⟨sl, hs⟩ := (hsm.trans (U₄.trans (U₅.trans U₆))) _ _ (F.keep _ _ ho) hd
    refine zk ?_
    clear zk zG
    rw [he₆] at hs
    exact hd vs (congrArg Obj.data (Option.some.inj hs)).symm)
  have N₆ : News g₆ L h₆ ((e, ⟨.ref 34, some dx, .fields vs, #[]⟩) :: led) := by
    intro q hq
    rcases List.mem_cons.mp hq with rfl | hq
    · refine ⟨he₆, fun z => ?_, ne₆⟩
      refine cps fun zG zk => ?_
      obtain ⟨_, _, _, hfL, _⟩ := F₆.ns
      have z' : e = L := z
      obtain ⟨o9, es9, ep9, ho9, hd9, _⟩ := F₆.ns
      refine zk ?_
      clear zk zG
      rw [← z', he₆] at ho9; cases ho9
      cases hd9
    · exact ⟨x₆.1 _ _ (hl q hq).1, (fun z => by have := (hl q hq).1; rw [z, hL] at this; cases this), T₆.none_ _ (kts_none F.keep (hl q hq).2)⟩
  refine storeX_L (s := { s' with heap := h₆ }) F₆ N₆ (fun h₇ F₇ N₇ => ?_) hk hlo
  exact k h₇ g₆ _ vs h2n T₆ F₇ N₇ ⟨K₆.stack, K₆.stays, K₆.frames⟩ (XB.keeps K₆.stays) (TB.keeps K₆.stays)
end
end
section
open PySem PySem.W PyProof.Rows PySem.Calls PySem.Spec
set_option Elab.async false
set_option maxRecDepth 100000
set_option maxHeartbeats 8000000
example : kdef.heap_1 = kdef.heap_1 ∧ PySem.Challenge.rw_xm0939_01 = PySem.Challenge.rw_xm0939_01 := by
  k_fill
  exact ⟨rfl, rfl⟩
theorem lk_exc_ga : typeLookup (.type "Exception") "__getattribute__" = pure (some (.builtin "BaseException.__getattribute__")) := by rw [typeLookup_type, builtinLookup_eq_fast]; kernel_rfl
theorem lk_exc_number : typeLookup (.type "Exception") "number" = pure none := by rw [typeLookup_type, builtinLookup_eq_fast]; kernel_rfl
theorem snob_ga {w : World} {h : Heap} (X : (kdef.heap_1 w.params).In h) : ∃ mN, h.Ns 33 mN ∧ mN "__getattribute__" = none ∧ mN "number" = none ∧ mN "__getattr__" = none := by
  have hN : h.Ns 33 (h.nsMap 33) := .of_isNs (isNs_of_in X (by kernel_rfl))
  exact ⟨_, hN, ns_none_of X hN (by k_is), ns_none_of X hN (by k_is), ns_none_of X hN (by k_is)⟩
theorem number_entry {w : World} {A : Around} {E : Value → Shared → Prop} {h : Heap} {g : Array GenState} {d : Drawn} {t : Nat} {tk : Tok} {os : OsState} {e dx : Addr} {o : Obj} {v : Value} {mA : Str → Option Value} {Q : Fin → Shared → Prop}
    (X : (kdef.heap_1 w.params).In h) (hx : h.get? e = some o) (hc : o.cls = .ref 34) (hdx : o.dict = some dx) (hnc : ∀ c, o.data ≠ .cls c) (hns : h.Ns1 dx mA) (hv : mA "number" = some v)
    (hq : Q (.done (.ret v)) ⟨h, g, d, t, os⟩) :
    wpAny (model PG w) A (Builtin.«object.__getattribute__» ⟨[.ref e, .str "number" tk], []⟩) Q E ⟨h, g, d, t, os⟩ := by
  refine cps fun zG zk => ?_
  obtain ⟨nm, q, bs, hdct, sn, sub, ab, col, dd, k0, k1, k2, k3, k5, rfl, hC⟩ := snob_cls X
  obtain ⟨mN, hn, hga, hna, hgt⟩ := snob_ga X
  refine zk ?_
  clear zk zG
  have hB := lk_exc_number
  have hm := F.store_Exception.mro
  unfold Builtin.«object.__getattribute__»
  repeat (first | (with_reducible refine wpAny_loadPart_at hx ?_; rw [hc]) | (with_reducible refine wpAny_typeLookup_exc hC hn hm hB ?_; rw [hna]) | wp_step)
  split
  · rename_i c hcd
    exact absurd hcd (hnc c)
  unfold instanceDict
  repeat (first | (with_reducible refine wpAny_loadPart_at hx ?_; rw [hc]) | with_reducible refine wpAny_loadPart_at hC ?_ | wp_step)
  rw [hdx]
  repeat (first | (with_reducible refine wpAny_nsGet hns.ns ?_; rw [hv]) | wp_step)
  exact hq
theorem number_check {w : World} {M : Model} {A : Around} {E : Value → Shared → Prop} {h : Heap} {g : Array GenState} {d : Drawn} {t : Nat} {os : OsState} {e : Addr} {o : Obj} {nameV : Value} {Q : Unit → Shared → Prop}
    (X : (kdef.heap_1 w.params).In h) (hx : h.get? e = some o) (hc : o.cls = .ref 34) (hq : Q () ⟨h, g, d, t, os⟩) : wpAny M A (checkBuiltinCall "BaseException.__getattribute__" ⟨[.ref e, nameV], []⟩) Q E ⟨h, g, d, t, os⟩ := by
  refine cps fun zG zk => ?_
  obtain ⟨nm, q, bs, hdct, sn, sub, ab, col, dd, k0, k1, k2, k3, k5, rfl, hC⟩ := snob_cls X
  refine zk ?_
  clear zk zG
  have hk : builtinKind "BaseException.__getattribute__" = some .slot := by decide +kernel
  have hsplit : splitId "BaseException.__getattribute__" = some ("BaseException", "__getattribute__") := by decide +kernel
  have hcB : (Value.ref 34 :: bmE).contains (.type "BaseException") = true := by decide
  have ha := F.args_bexc_ga (.ref e) nameV
  simp only [checkBuiltinCall, hk, hsplit]
  refine wpAny_bind ?_
  · unfold isInstance
    repeat (first | (with_reducible refine wpAny_loadPart_at hx ?_; rw [hc]) | (with_reducible refine wpAny_isSubtype_exc hC ?_; rw [hcB]) | wp_step)
    exact hq
theorem number_attr {w : World} {A : Around} {E : Value → Shared → Prop} {h : Heap} {g : Array GenState} {d : Drawn} {t : Nat} {os : OsState} {e dx : Addr} {o : Obj} {v : Value} {mA : Str → Option Value} {expr : Bool} {Q : Value → Shared → Prop}
    (X : (kdef.heap_1 w.params).In h) (hx : h.get? e = some o) (hc : o.cls = .ref 34) (hdx : o.dict = some dx) (hnc : ∀ c, o.data ≠ .cls c) (hns : h.Ns1 dx mA) (hv : mA "number" = some v) (hh : handedOut v = pure v)
    (hq : Q v ⟨h, g, d, t + 1, os⟩) :
    wpAny (model PG w) A (getAttr (.ref e) (Str.ofString "number") expr) Q E ⟨h, g, d, t, os⟩ := by
  refine cps fun zG zk => ?_
  obtain ⟨nm, q, bs, hdct, sn, sub, ab, col, dd, k0, k1, k2, k3, k5, rfl, hC⟩ := snob_cls X
  obtain ⟨mN, hn, hga, hna, hgt⟩ := snob_ga X
  refine zk ?_
  clear zk zG
  have FB := PySem.F.attrBase_Exception
  have hng := FB.noGetattr
  have hm := F.store_Exception.mro
  have hB := lk_exc_ga
  have f3 := FB.ga.bind (.ref e)
  have hx0 : (expr && onTheHeap (Value.builtin "BaseException.__getattribute__")) = false := by cases expr <;> rfl
  have hx2 : (Value.builtin "BaseException.__getattribute__" == Value.builtin "object.__getattribute__") = false := by decide +kernel
  have hx1 : (onTheHeap (Value.ref 34) && Value.builtin "BaseException.__getattribute__" == Value.builtin "object.__getattribute__") = false := by rw [hx2]; rfl
  unfold getAttr getAttrBy
  repeat (any_goals (first | assumption | (with_reducible refine wpAny_loadPart_at hx ?_; rw [hc]) | (with_reducible refine wpAny_typeLookup_exc hC hn hm hB ?_; rw [hga]) | (with_reducible refine wpAny_typeLookup_exc hC hn hm hng ?_; rw [hgt]) | wp_step))
  refine codeAny_call_builtin FB.ga.plain F.entry_bexc_ga (number_check X hx hc (number_entry X hx hc hdx hnc hns hv ?_))
  repeat (any_goals (first | assumption | wp_step))
theorem number_K {w : World} {A : Around} {E : Value → Shared → Prop} {s : Shared} {h₀ : Heap} {L e dx : Addr} {news : List (Addr × Obj)} {m : Str → Option Value} {od : Obj} {vs : Array Value} {mA : Str → Option Value} {v : Value} {expr : Bool} {Q : Value → Shared → Prop}
    (F : Fr h₀ L s.heap m) (X : (kdef.heap_1 w.params).In h₀) (N : News h₀ L s.heap news) (he : (e, ({ cls := .ref 34, dict := some dx, data := .fields vs, slots := #[] } : Obj)) ∈ news) (hd : (dx, od) ∈ news) (hns : NsO od mA) (hv : mA "number" = some v) (hh : handedOut v = pure v)
    (hq : Q v { s with toks := s.toks + 1 }) : wpAny (model PG w) A (getAttr (.ref e) (Str.ofString "number") expr) Q E s := by
  refine cps fun zG zk => ?_
  obtain ⟨hp, g, d, tk, os⟩ := s
  refine zk ?_
  clear zk zG
  exact number_attr (X.keeps F.keep) (N _ he).1 rfl rfl (fun c h => by cases h) (hns.at (N _ hd).1) hv hh hq
-- a call with cells, whose body catches: the ground is turned
section
variable {prog : Program} {w : World} {A₀ A : Around} {s : Shared} {base h₀ : Heap} {L : Addr} {m : Str → Option Value} {env : Env} {news : List (Addr × Obj)} {K : Frag} {p : Program} {loose : List Str} {mean : ExcName → Option Value} {mg mb : Str → Option Value}
  {R : Result → Shared → Prop} {name qual : Str} {params : Arguments} {body : List Stmt} {scope : Scope} {dV kV doc pm cdv ct oc : Value} {an od : Option Addr} {osl : Array (Option Value)} {f : Addr} {args : Args} {binds : List (Str × Value)}
theorem ground0 (B : Below A₀ base [] h₀) (F : Fr h₀ L s.heap m) (N : News h₀ L s.heap news) (hA : A.frames = some [env]) (hf : env.frame = some L) (hke : env.scope.kind = .function) :
    Fr h₀ L (hideAll s.heap (news.map (·.1))) m ∧ Below A base [env] (hideAll s.heap (news.map (·.1))) ∧ h₀.StaysIn (hideAll s.heap (news.map (·.1))) ∧
      ∀ v s', LeaveS0 ([env].filterMap (·.frame)) h₀ L m (hideAll s.heap (news.map (·.1))) R v s' → R (.ok (.ret v)) s' := by
  refine cps fun zG zk => ?_
  obtain ⟨FG, BG, st, -⟩ := groundX (R := R) B F N hA hf hke
  refine zk ?_
  clear zk zG
  refine ⟨FG, BG, st, fun v s' hl => ?_⟩
  refine cps fun zG zk => ?_
  obtain ⟨oL, es, ep, hLg, hLd, hLk, hLf⟩ := FG.ns
  have nL₀ : h₀.get? L = none := kts_self F
  obtain ⟨g', L', m', news', T', F', N', k⟩ := hl
  obtain ⟨sl, hs⟩ := T'.up hLg
  refine zk ?_
  clear zk zG
  refine k ⟨⟨_, es, ep, F'.keep _ _ hs, hLd, hLk, hLf⟩, fun b o e => F'.keep b o (T'.other b o (st b o e) (fun q => by
    rcases frames_mem hf q with z | z
    · rw [z, nL₀] at e
      cases e
    · simp at z)), F.above⟩ fun p hp => ⟨(N' p hp).1, fun q => ?_, ?_⟩
  · have := (N' p hp).2.2; rw [q, hs] at this; cases this
  · cases q : h₀.get? p.1 with
    | none => rfl
    | some o =>
      refine cps fun zG zk => ?_
      obtain ⟨sl', hs'⟩ := T'.up (st _ _ q)
      refine zk ?_
      clear zk zG
      have := (N' p hp).2.2
      rw [hs'] at this
      cases this
theorem callX_cells0 (B : Below A₀ base [] h₀) (F : Fr h₀ L s.heap m) (N : News h₀ L s.heap news) (hlim : h₀.NoLimit) (hA : A.frames = some [env]) (hf : env.frame = some L) (hke : env.scope.kind = .function)
    {fo : Obj} (ho : s.heap.get? f = some fo) (hd : fo.data = .func (fnX name qual params body scope [] dV kV doc pm an cdv ct)) (hcd : s.heap.CodeRec cdv qual) (hroom : A.depth < recursionLimit)
    (hbind : BindsTo s (fnX name qual params body scope [] dV kV doc pm an cdv ct) args binds)
    (hkind : ∀ n, ∀ x ∈ binds, scope.names.lookup x.1 = some .local ∨ (scope.names.lookup x.1 = some .cell ∧ ((cellsFrom n scope.names []).lookup x.1).isSome = true))
    (hnd : ((cellsFrom 0 scope.names []).map (·.1)).Nodup)
    (h : ∀ g L' h₁ tk cells, Fr h₀ L g m → Fr g L' h₁ (bindL (envOfC qual scope L' f cdv).kindOf binds fun _ => none) → News g L' h₁ (cells ++ news) →
      CellsAre (bindC (envOfC qual scope L' f cdv).kindOf binds fun _ => none) (cellsFrom (L' + 1) scope.names []) cells → Below A base [env] g → h₀.StaysIn g → (∀ p ∈ news, p.1 < L') →
      wpAny (model prog w) (A.deeper (envOfC qual scope L' f cdv)) (execs body (envOfC qual scope L' f cdv))
        (fun fl s' => LeaveS0 ([env].filterMap (·.frame)) h₀ L m g R (match fl with | .ret v => v | _ => .none) s')
        (fun e s' => wpAny (model prog w) (A.deeper (envOfC qual scope L' f cdv)) (leaving (envOfC qual scope L' f cdv) e) (fun _ s'' => R (.error e) s'') (fun e' s'' => R (.error e') s'') s')
        { s with heap := h₁, toks := tk })
    (hco : scope.isCoroutine = false := by rfl) (hgen : scope.isGenerator = false := by rfl) (hk : scope.kind = .function := by rfl) : codeAny (model prog w) A (.call (.ref f) args) R s := by
  refine cps fun zG zk => ?_
  obtain ⟨FG, BG, st, lv⟩ := ground0 (R := R) B F N hA hf hke
  refine zk ?_
  clear zk zG
  refine codeAny_call_function hroom ho hd hco hgen rfl hcd (hbind _ _ _ _ ?_)
  refine wpAny_newFunctionEnv_cells hk (hkind _) fun env' he s' x => ?_
  subst he
  refine ⟨(hlim.keeps F.keep).keeps x.toInCall.keep, codeAny_func ?_⟩
  refine cps fun zG zk => ?_
  obtain ⟨h₁, tk, rfl, _⟩ := x.done
  have hk₁ := x.toInCall.keep
  obtain ⟨cells, NC, Y⟩ := Cl.news (h₀ := s.heap) (Nat.le_refl _) fun n c hm => ⟨x.cell n c (lookup_of_mem_nodup (cellsFrom_names scope.names 0 (s.heap.objs.size + 1) [] [] rfl ▸ hnd) hm), x.above n c hm⟩
  refine zk ?_
  clear zk zG
  refine wpAny_mono (h _ s.heap.objs.size h₁ tk cells FG ⟨x.toInCall.ns, fun b o e => hk₁ b o (of_hideAll _ e), Nat.le_of_eq (hideAll_size _ _)⟩ (fun p hp => ?_) Y BG st (fun p hp => Heap.lt_size (N p hp).1)) (fun fl s' hl => lv _ _ hl) fun _ _ y => y
  rcases List.mem_append.mp hp with hp | hp
  · refine ⟨(NC p hp).1, (NC p hp).2.1, ?_⟩
    cases q : (hideAll s.heap (news.map (·.1))).get? p.1 with
    | none => rfl
    | some o => have := of_hideAll _ q; rw [(NC p hp).2.2] at this; cases this
  · exact ⟨hk₁ _ _ (N p hp).1, Nat.ne_of_lt (Heap.lt_size (N p hp).1), hideAll_none _ (List.mem_map_of_mem hp)⟩
theorem code_defC0 (B : Below A₀ base [] h₀) (F : Fr h₀ L s.heap m) (X₀ : K.In h₀) (N : News h₀ L s.heap news) (T : Top p loose mean mg mb h₀) (hA : A.frames = some [env]) (hf : env.frame = some L) (hke : env.scope.kind = .function)
    (ho : K.lookup f = some ⟨oc, od, .func (fnOf name qual params body scope dV kV doc pm an cdv ct), osl⟩) (hcd : codeIn K cdv qual = true) (hroom : A.depth < recursionLimit)
    (hbind : BindsTo s (fnOf name qual params body scope dV kV doc pm an cdv ct) args binds) (hkind : (binds.all fun y => scope.names.lookup y.1 == some .local || scope.names.lookup y.1 == some .cell) = true)
    (hnd : ((cellsFrom 0 scope.names []).map (·.1)).Nodup)
    (h : ∀ g L' h₁ tk cells, Fr h₀ L g m → Fr g L' h₁ (bindL (envOfC qual scope L' f cdv).kindOf binds fun _ => none) → News g L' h₁ (cells ++ news) →
      CellsAre (bindC (envOfC qual scope L' f cdv).kindOf binds fun _ => none) (cellsFrom (L' + 1) scope.names []) cells → Below A base [env] g → K.In g → Top p loose mean mg mb g → (∀ p ∈ news, p.1 < L') →
      wpAny (model prog w) (A.deeper (envOfC qual scope L' f cdv)) (execs body (envOfC qual scope L' f cdv))
        (fun fl s' => LeaveS0 ([env].filterMap (·.frame)) h₀ L m g R (match fl with | .ret v => v | _ => .none) s')
        (fun e s' => wpAny (model prog w) (A.deeper (envOfC qual scope L' f cdv)) (leaving (envOfC qual scope L' f cdv) e) (fun _ s'' => R (.error e) s'') (fun e' s'' => R (.error e') s'') s')
        { s with heap := h₁, toks := tk })
    (hco : scope.isCoroutine = false) (hgen : scope.isGenerator = false) (hk : scope.kind = .function) : codeAny (model prog w) A (.call (.ref f) args) R s :=
  callX_cells0 B F N T.nolimit hA hf hke ((X₀.keeps F.keep) _ _ ho) rfl (codeRec_of (X₀.keeps F.keep) hcd) hroom hbind (kindsX hkind) hnd (fun g L' h₁ tk cells FG F' N' Y B' st l => h g L' h₁ tk cells FG F' N' Y B' (X₀.keeps st) (T.keeps st) l) hco hgen hk
end
end
section
open PySem PySem.W PyProof.Rows PySem.Calls PySem.Spec
set_option Elab.async false
set_option maxRecDepth 100000
set_option maxHeartbeats 4000000
theorem entry_unchain : entryFor table "proto.unchain" = some Builtin.«proto.unchain» := entryFor_of_tree (by kernel_rfl)
section
variable {prog : Program} {w : World} {A : Around} {E : Value → Shared → Prop} {s : Shared}
theorem raise_held {α : Type} {e x : Addr} {ox oe : Obj} {vs ws : Array Value} {Q : α → Shared → Prop} (hh : A.handled = some (.ref x)) (hne : x ≠ e) (hx : s.heap.get? x = some ox) (hxd : ox.data = .fields vs) (h2 : vs[2]? = some .none)
    (he : s.heap.get? e = some oe) (hed : oe.data = .fields ws) (hws : 2 < ws.size)
    (h : ∀ h', (∀ b o, b ≠ e → s.heap.get? b = some o → h'.get? b = some o) → (∃ o', h'.get? e = some o' ∧ o'.cls = oe.cls) → E (.ref e) { s with heap := h' }) : wpAny (model prog w) A (raiseNew (.ref e) : Sem α) Q E s := by
  unfold raiseNew
  refine wpAny_bind (wpAny_handled ?_)
  rw [hh]
  have hb : (Value.ref x != Value.ref e) = true := by simp [hne]
  have hne' : (Value.none == Value.none) = true := rfl
  simp only [hb, if_true]
  refine wpAny_bind (wpAny_holding (wpAny_runValue (codeAny_builtin entry_unchain ?_)))
  unfold Builtin.«proto.unchain»
  dsimp only
  refine wpAny_bind (wpAny_field hx hxd h2 ?_)
  simp only [hne', if_true]
  show wpAny _ _ (pure _) _ _ _
  refine wpAny_pure ?_
  dsimp only
  unfold updateField
  refine wpAny_bind (wpAny_bind (wpAny_load he ?_))
  rw [hed]
  dsimp only
  rw [if_pos hws]
  refine wpAny_update' he ?_
  refine wpAny_throw (h _ (fun b o hb hbo => (Heap.get?_update_other _ _ (Ne.symm hb)).trans hbo) ⟨_, Heap.get?_update_self _ he (Obj.isFreed_of_fields (Obj.data_mapFields hed _)), Obj.cls_mapFields ..⟩)
theorem pyNext_list_endH {it l x : Addr} {i : Nat} {items : Array Value} {ox : Obj} {vs : Array Value} {Q : Option Value → Shared → Prop} (hh : A.handled = some (.ref x)) (hxi : x ≠ it) (hx : s.heap.get? x = some ox) (hxd : ox.data = .fields vs) (h2 : vs[2]? = some .none)
    (hit : s.heap.IsListIter it l i) (hl : s.heap.IsList l items) (hxx : items[i]? = none)
    (hQ : ∀ h', Heap.ExtBut it s.heap h' → Q none { s with heap := h' }) : wpAny (model prog w) A (pyNext (.ref it)) Q E s := by
  refine cps fun zG zk => ?_
  obtain ⟨o, ho, hc, hd⟩ := id hit
  obtain ⟨ol, hol, _, nl, hdl⟩ := hl
  refine zk ?_
  clear zk zG
  unfold pyNext
  refine wpAny_bind (wpAny_attempt (wpAny_callSpecial?_slot (name := Str.ofString "__next__") hit.typeIs slot_listiter_next
    (wpAny_call_entry slot_listiter_next hit.typeIs entry_listiter_next ?_ (args_listiter_next _))))
  show wpAny _ _ (field (.ref it) 0 >>= _) _ _ s
  refine wpAny_bind (wpAny_field ho hd (x := .ref l) rfl ?_)
  show wpAny _ _ (if (Value.ref l == Value.none) = true then _ else _) _ _ s
  rw [if_neg (show ¬ ((Value.ref l == Value.none) = true) from Bool.false_ne_true)]
  show wpAny _ _ (field (.ref it) 1 >>= _) _ _ s
  refine wpAny_bind (wpAny_field ho hd (x := .int i 0) rfl ?_)
  show wpAny _ _ (seqItems? (.ref l) >>= _) _ _ s
  refine wpAny_bind (wpAny_seqItems hol hdl ?_)
  simp only [Int.toNat_natCast, hxx]
  refine wpAny_bind (wpAny_rule (wpAny_bind (wpAny_setField ho hd (by simp) ?_)))
  show wpAny _ _ (newExc (.type "StopIteration") [] >>= _) _ _ _
  refine wpAny_bind ?_
  simp only [newExc, newTuple]
  refine wpAny_bind (wpAny_newObj_type ?_ (by size_fits))
  refine wpAny_bind (m := firstArgMember _ _) (wpAny_of_eq (a := Value.none) (by first | rfl | (simp only [firstArgMember]; rfl)) ?_)
  refine wpAny_newObj_type ?_ (by size_fits)
  have hx1 := ((Heap.SameBut.update (a := it) (h := s.heap) (f := Obj.mapFields fun x => x.setIfInBounds 0 Value.none)).extBut x ox hxi hx)
  have hx2 := Heap.get?_push_of_some { cls := .type "tuple", data := .seq ([] : List Value).toArray } hx1
  have hlt := Heap.lt_size hx2
  refine raise_held (A := A.in1) (x := x) hh (Nat.ne_of_lt hlt) (Heap.get?_push_of_some _ hx2) hxd h2 (Heap.get?_push_size _ rfl) rfl (by rw [Array.size_append]; exact Nat.lt_of_lt_of_le (show 2 < 6 by decide) (Nat.le_add_right _ _)) fun h' hk' ⟨o', ho', hc'⟩ => ?_
  refine wpAny_bind (wpAny_isInstance (T := "StopIteration") (b := true) ⟨_, ho', hc'⟩ isSubtype_stop ?_)
  refine wpAny_pure (hQ _ fun b ob hb e => ?_)
  have e1 := ((Heap.SameBut.update (a := it) (h := s.heap) (f := Obj.mapFields fun x => x.setIfInBounds 0 Value.none)).extBut b ob hb e)
  have e2 := Heap.get?_push_of_some { cls := .type "tuple", data := .seq ([] : List Value).toArray } e1
  exact hk' b ob (Nat.ne_of_lt (Heap.lt_size e2)) (Heap.get?_push_of_some _ e2)
theorem walksH (I ax x : Addr) (hne : ax ≠ I) (hxI : x ≠ I) (items : Array Value) {vs : Array Value} (hh : A.handled = some (.ref x)) (h2 : vs[2]? = some .none) :
    Walks prog w A I [I, ax, x] [I] items.size (fun i v => items[i]? = some v) (fun i h => (h.IsListIter I ax i ∧ h.IsList ax items) ∧ ∃ ox, h.get? x = some ox ∧ ox.data = .fields vs) where
  sub := fun b hb => by simp at hb; simp [hb]
  frame := fun _ _ _ st hk => ⟨⟨st.1.1.at fun o e => hk I (by simp) o e, st.1.2.at fun o e => hk ax (by simp) o e⟩, by
    refine cps fun zG zk => ?_
    obtain ⟨ox, e, d⟩ := st.2
    refine zk ?_
    clear zk zG
    exact ⟨ox, hk x (by simp) _ e, d⟩⟩
  item := fun i s Q E hi st hQ => by
    refine cps fun zG zk => ?_
    obtain ⟨ox, hx, hd⟩ := st.2
    refine zk ?_
    clear zk zG
    refine wpAny_pyNext_list_item st.1.1 st.1.2 (x := items[i]) (by simp [hi]) fun h' hit' hs' => ?_
    exact hQ _ h' s.toks (by simp [hi]) ⟨⟨hit', st.1.2.extBut hs'.extBut hne⟩, ox, hs'.extBut _ _ hxI hx, hd⟩ fun b o hb e => hs'.extBut b o (fun h => hb (by simp [h])) e
  done := fun s Q E st hQ => by
    refine cps fun zG zk => ?_
    obtain ⟨ox, hx, hd⟩ := st.2
    refine zk ?_
    clear zk zG
    exact pyNext_list_endH hh hxI hx hd h2 st.1.1 st.1.2 (by simp) fun h' he' => hQ h' s.toks fun b o hb e => he' b o (fun h => hb (by simp [h])) e
  self := fun _ _ _ _ st hQ => wpAny_pyIter_listiter st.1.1 hQ
theorem paired_eq {α : Type} : ∀ {l r : List α}, Paired (fun v y => y = v) l r → r = l
  | _, _, .nil => rfl
  | _, _, .cons h t => by rw [h, paired_eq t]
theorem ge0_comp {env : Env} {h₀ : Heap} {L dx x : Addr} {m : Str → Option Value} {led : List (Addr × Obj)} {ids : List (Int × Tok)} {k : Nat} {vs : Array Value} {y : Str} {p1 p2 p3 p4 p5 pos : Pos} {iter : Expr} {scope : Scope} {cl : List (Str × Addr)} {Q : Value → Shared → Prop}
    (F₀ : Fr h₀ L s.heap m) (N₀ : News h₀ L s.heap led) (hh : A.handled = some (.ref x)) (h2 : vs[2]? = some .none)
    (hclos : closureFor scope env = pure cl) (hcell : ∀ y ∈ scope.names, y.2 ≠ .cell) (hkind : scope.kind = .function)
    (hnames : ∀ y ∈ scope.names, y.2 = .local → scope.names.lookup y.1 = some .local) (hx : scope.names.lookup y = some .local) (hdb : (y == ("__debug__" : Str)) = false) (hsz : ids.length ≤ 1000)
    (h : wpAny (model prog w) A (eval iter env) (fun xv s₁ => ∃ ax, xv = .ref ax ∧ Fr h₀ L s₁.heap m ∧ News h₀ L s₁.heap led ∧ (ax, W.listOf (ids.map intV).toArray k) ∈ led ∧ (x, ({ cls := .ref 34, dict := some dx, data := .fields vs, slots := #[] } : Obj)) ∈ led ∧
      ∀ D h' tk k', Fr h₀ L h' m → News h₀ L h' ((D, W.listOf ((ids.filter fun q => decide (0 ≤ q.1)).map intV).toArray k') :: led) → (∀ q ∈ led, q.1 ≠ D) → Q (.ref D) { s₁ with heap := h', toks := tk }) E s)
    (hs : ∀ x, foldedSetIterable iter env x = pure x := by intro _; rfl) :
    wpAny (model prog w) A (eval (.ListComp (.Name y p1) [⟨.Name y p2, iter, [.Compare (.Name y p3) [.GtE] [.Constant (.int 0) 0 p4] p5], 0⟩] scope pos) env) Q E s := by
  refine wpAny_ListComp_free (fun v => match v with | .int k _ => decide (0 ≤ k) | _ => false) (fun v y => y = v) hclos hcell hkind hnames hx (wpAny_mono h (fun xv s₁ h₁ => ?_) fun _ _ e => e) hs
  refine cps fun zG zk => ?_
  obtain ⟨ax, rfl, F, N, hm, hxm, hq⟩ := h₁
  refine zk ?_
  clear zk zG
  have hl : s₁.heap.IsList ax (ids.map intV).toArray := ⟨_, (N _ hm).1, rfl, _, rfl⟩
  have hlt : ax < s₁.heap.objs.size := by obtain ⟨_, e, _⟩ := hl; exact Heap.lt_size e
  have hltx : x < s₁.heap.objs.size := Heap.lt_size (N _ hxm).1
  have hmem : ∀ (i : Nat) (v : Value), (ids.map intV).toArray[i]? = some v → ∃ q : Int × Tok, v = .int q.1 q.2 := fun i v hv => by
    rw [List.getElem?_toArray, List.getElem?_map] at hv
    cases hi : ids[i]? with
    | none => rw [hi] at hv; cases hv
    | some q => rw [hi] at hv; cases hv; exact ⟨q, rfl⟩
  refine wpAny_pyIter_list hl ?_
  have up : ∀ b o, s₁.heap.get? b = some o → (s₁.heap.push { cls := .type "list_iterator", data := .fields #[.ref ax, .int 0 0] }).get? b = some o := fun b o e => Heap.get?_push_of_some _ e
  refine ⟨s₁.heap.objs.size, _, _, _, _, _, rfl, walksH (prog := prog) (w := w) s₁.heap.objs.size ax x (Nat.ne_of_lt hlt) (Nat.ne_of_lt hltx) (ids.map intV).toArray hh h2, ?_, ⟨⟨⟨_, Heap.get?_push_size _ rfl, rfl, rfl⟩, hl.push _⟩, _, up _ _ (N _ hxm).1, rfl⟩, ?_, ⟨?_, ?_⟩, ?_⟩
  · rw [List.size_toArray, List.length_map, PySem.sizeLine_eq]; exact (q16 hsz (by decide))
  · intro b hb
    show b < (s₁.heap.push _).objs.size
    rw [Heap.size_push]
    simp only [List.mem_cons, List.not_mem_nil, or_false] at hb
    rcases hb with rfl | rfl | rfl
    · exact Nat.lt_succ_self _
    · exact Nat.lt_succ_of_lt hlt
    · exact Nat.lt_succ_of_lt hltx
  · intro C i v s₃ m₃ E' hC hv hn hmv hk htk
    refine cps fun zG zk => ?_
    obtain ⟨q, rfl⟩ := hmem i v hv
    refine zk ?_
    clear zk zG
    refine wpAny_tests_one ?_
    refine wpAny_isTrue_Compare1 ?_
    refine wpAny_Name (wpAny_loadName_local (by simp [compEnvC, relabel, hkind]) (lookup_relabel_local hx) hn hmv ?_) hdb
    refine wpAny_Constant_int ?_
    refine ge_int ?_
    refine wpAny_pure ?_
    refine ⟨rfl, _, _, rfl, fun _ _ e => e⟩
  · intro C i v s₃ m₃ E' hC hv hpv hn hmv hk htk
    refine wpAny_Name (wpAny_loadName_local (by simp [compEnvC, relabel, hkind]) (lookup_relabel_local hx) hn hmv ?_) hdb
    exact ⟨rfl, _, _, rfl, fun _ _ e => e⟩
  · intro D h' tk ys us hD hlD hpl hlen hP hF hk
    have hus : us = ids.map intV := by
      apply List.ext_getElem?
      intro j
      cases hj : us[j]? with
      | none =>
        have := List.getElem?_eq_none_iff.mp hj
        rw [List.size_toArray] at hlen
        exact (List.getElem?_eq_none (by exact (qelf hlen this))).symm
      | some v =>
        have := hP j v hj
        rw [List.getElem?_toArray] at this
        exact this.symm
    have hys := paired_eq hF
    have hy2 : ys = ((ids.filter fun q => decide (0 ≤ q.1)).map intV).toArray := by
      apply Array.toList_inj.mp
      rw [hys, hus, List.filter_map]
      rfl
    refine cps fun zG zk => ?_
    obtain ⟨kn, hkn⟩ := hpl
    refine zk ?_
    clear zk zG
    have hDne : ∀ b o, s₁.heap.get? b = some o → b ≠ D := fun b o e q => by
      have := up b o e
      rw [q, hD] at this; cases this
    have hLD : L ≠ D := by
      refine cps fun zG zk => ?_
      obtain ⟨o, _, _, e, _⟩ := F.ns
      refine zk ?_
      clear zk zG
      exact hDne _ _ e
    have keep : ∀ b o, s₁.heap.get? b = some o → h'.get? b = some o := fun b o e => hk b o (fun q => by
      have := Heap.lt_size e
      rw [List.mem_singleton.mp q] at this
      exact Nat.lt_irrefl _ this) (up b o e)
    refine hq D h' tk kn (F.keeps keep) (fun q hq' => ?_) (fun q hq' => hDne _ _ (N q hq').1)
    rcases List.mem_cons.mp hq' with rfl | hq'
    · refine ⟨by rw [← hy2]; exact hkn, Ne.symm hLD, ?_⟩
      cases e : h₀.get? D with
      | none => rfl
      | some o => exact absurd rfl (hDne _ _ (F.keep _ _ e))
    · exact ⟨keep _ _ (N q hq').1, (N q hq').2⟩
end
theorem name_goesX {M : Model} {A : Around} {E : Value → Shared → Prop} {s : Shared} {h₀ : Heap} {L a : Addr} {m : Str → Option Value} {cn : Str} {cs : Scope} {ccd : Value} {cl : List (Str × Addr)} {news : List (Addr × Obj)} {n : Str} {pos : Pos} {Q : Unit → Shared → Prop}
    (F : Fr h₀ L s.heap m) (N : News h₀ L s.heap news) (h : ∀ h' m', Fr h₀ L h' m' → News h₀ L h' news → Q () { s with heap := h', toks := s.toks + 1 })
    (hk : cs.kind = .function := by rfl) (hl : (envX cn cs L a ccd cl).kindOf n = some .local := by rfl) :
    wpAny M A (do bindName (envX cn cs L a ccd cl) n .none; unbindBehindTheSuite (envX cn cs L a ccd cl) n pos) Q E s :=
  wpAny_nameGoes hl F.ns (by show (cs.kind == .class || (cs.kind == .module && L != mainGlobals)) = false; rw [hk]; rfl) fun h' m' hn hs => h h' m' (F.set hn hs) (N.set hs)
end
example : True := by w_top off; (try walk1); trivial
section
open PySem PySem.W PyProof.Rows PySem.Calls PySem.Spec
set_option Elab.async false
set_option maxRecDepth 100000
set_option maxHeartbeats 8000000
example : kdef.heap_1 = kdef.heap_1 ∧ PySem.Challenge.rw_xm0939_01 = PySem.Challenge.rw_xm0939_01 := by
  k_fill
  exact ⟨rfl, rfl⟩


structure RRec where
  (ad : Addr) (l a b : Int) (t1 t2 t3 : Tok)
structure RIn (n : Nat) (own : List (Addr × Obj)) (r : RRec) : Prop where
  m : (r.ad, tup [.int r.l r.t1, .int r.a r.t2, .int r.b r.t3]) ∈ own
  hl : r.l = 0 ∨ r.l = 1
  ha : 0 ≤ r.a ∧ r.a < n
  hb : 0 ≤ r.b ∧ r.b < n
local macro_rules | `(tactic| walk_at "exec For Tuple Call cons nil") => `(tactic| (k_here; (rename Fr _ _ _ _ => lF'); (with_unfolding_all refine' For_turns lF' ?_; k_whole)))
noncomputable def lab (k : Int) : Str := Str.ofString "S" ++ Str.ofString (toString k)
def let' (k : Int) : Str := Txt.item (Str.ofString "AB") k
structure POf (i : Nat) (r : RRec) (q : PRec) : Prop where
  la : q.la = lab i
  x : q.x = let' r.l
  sx : q.sx = lab r.a
  fx : q.fx = lab r.b
def RelRP (rs : List RRec) (qs : List PRec) : Prop := ∀ (k : Nat) (r : RRec) (q : PRec), rs[k]? = some r → qs[k]? = some q → POf k r q
theorem RelRP.snoc {rs : List RRec} {qs : List PRec} (h : RelRP rs qs) {r : RRec} {q : PRec} (hp : rs[qs.length]? = some r) (x : POf qs.length r q) : RelRP rs (qs ++ [q]) := fun k r' q' e1 e2 => by
  rcases Nat.lt_trichotomy k qs.length with hk | hk | hk
  · rw [List.getElem?_append_left hk] at e2; exact h k r' q' e1 e2
  · subst hk
    rw [List.getElem?_append_right (Nat.le_refl _), Nat.sub_self] at e2
    rw [hp] at e1
    cases e1; cases e2; exact x
  · rw [List.getElem?_eq_none (by rw [List.length_append, List.length_singleton]; exact hk)] at e2; cases e2
def OffA (own : List (Addr × Obj)) (adr : List Addr) : Prop := ∀ e ∈ own, ∀ a ∈ adr, @Ne Nat e.1 a
theorem OffA.all {own : List (Addr × Obj)} {adr : List Addr} {a : Addr} (h : OffA own adr) (ha : a ∈ adr) : ∀ e ∈ own, e.1 ≠ a := fun e he => h e he a ha
def HInv (w : World) (b : Nat) (tb : Tok) (al sl : Addr) (rs : List RRec) (own cells : List (Addr × Obj)) (adr : List Addr) (i : Nat) (m : Str → Option Value) (n : List (Addr × Obj)) : Prop :=
  ∃ (qs : List PRec) (k : Nat) (own' : List (Addr × Obj)), qs.length = i ∧ n = (sl, W.listOf (qs.map fun q => .ref q.st).toArray k) :: (cells ++ own') ∧ (∀ q ∈ qs, PIn w.params own' q) ∧ RelRP rs qs ∧ (∀ e ∈ own, e ∈ own') ∧ OffA own' adr ∧ m "statements" = some (.ref sl) ∧ m "begin" = some (.int b tb) ∧ m "answers" = some (.ref al)
theorem made_prec {P : Params} {g h : Heap} {L D D1 D2 D3 D4 D5 D6 st sd : Addr} {la x sx fx : Str} {ln : Int} {kt : Nat → Tok} {o4 : Obj} {f1 f2 f3 s1 s2 s3 b1 b2 tl tn tx : Tok} {rest : List (Addr × Obj)} (B : Nat)
    (N : News g L h ((D, tup [.str (Str.ofString "goto") f1, .ref D1]) :: (D1, tup [.str (Str.ofString "name") f2, .str fx f3]) :: (D2, tup [.str (Str.ofString "goto") s1, .ref D3]) :: (D3, tup [.str (Str.ofString "name") s2, .str sx s3]) :: (D4, o4) :: (D5, tup [.str (Str.ofString "call") b1, .str x b2, .ref D6]) :: (D6, tup []) :: (st, instObj 416 sd) ::
      (sd, dictOf [⟨PyData.keyHash P (Str.ofString "label"), .str (Str.ofString "label") (kt 1), .str la tl⟩, ⟨PyData.keyHash P (Str.ofString "subject"), .str (Str.ofString "subject") (kt 2), .ref D5⟩, ⟨PyData.keyHash P (Str.ofString "pattern"), .str (Str.ofString "pattern") (kt 3), .none⟩,
        ⟨PyData.keyHash P (Str.ofString "is_replaced"), .str (Str.ofString "is_replaced") (kt 4), .bool false⟩, ⟨PyData.keyHash P (Str.ofString "replacement"), .str (Str.ofString "replacement") (kt 5), .none⟩, ⟨PyData.keyHash P (Str.ofString "go_success"), .str (Str.ofString "go_success") (kt 6), .ref D2⟩,
        ⟨PyData.keyHash P (Str.ofString "go_failure"), .str (Str.ofString "go_failure") (kt 7), .ref D⟩, ⟨PyData.keyHash P (Str.ofString "go_always"), .str (Str.ofString "go_always") (kt 8), .none⟩, ⟨PyData.keyHash P (Str.ofString "line"), .str (Str.ofString "line") (kt 9), .int ln tn⟩, ⟨PyData.keyHash P (Str.ofString "text"), .str (Str.ofString "text") (kt 10), .str (Str.ofString "") tx⟩] 10) :: rest))
    (hB : B < D ∧ B < D1 ∧ B < D2 ∧ B < D3 ∧ B < D4 ∧ B < D5 ∧ B < D6 ∧ B < st ∧ B < sd) :
    ∃ (q : PRec) (new : List (Addr × Obj)), q.st = st ∧ q.la = la ∧ q.x = x ∧ q.sx = sx ∧ q.fx = fx ∧ PIn P new q ∧ News g L h (new ++ rest) ∧ ∀ e ∈ new, @LT.lt Nat _ B e.1 := by
  refine ⟨PRec.mk st sd D5 D6 D2 D3 D D1 la x sx fx ln 0 (kt 1) (kt 2) (kt 3) (kt 4) (kt 5) (kt 6) (kt 7) (kt 8) (kt 9) (kt 10) tl tn tx b1 b2 s1 s2 s3 f1 f2 f3, [_, _, _, _, _, _, _, _, _], rfl, rfl, rfl, rfl, rfl, ?_, N, ?_⟩
  · constructor <;> simp
  · simp only [List.forall_mem_cons, List.not_mem_nil, false_implies, implies_true, and_true]
    exact hB
noncomputable def isCell (o : Obj) : Bool := match o.data with | .cell _ => true | _ => false
theorem resplit {g h : Heap} {L : Addr} {all : List (Addr × Obj)} {c1 c2 c3 c4 : Addr × Obj} (N : News g L h all) (h1 : c1 ∈ all) (h2 : c2 ∈ all) (h3 : c3 ∈ all) (h4 : c4 ∈ all) (d1 : isCell c1.2 = true) (d2 : isCell c2.2 = true) (d3 : isCell c3.2 = true) (d4 : c4.2.cls = .none) :
    ∃ R, News g L h (c1 :: c2 :: c3 :: c4 :: R) ∧ (∀ e ∈ all, isCell e.2 = false → e.1 ≠ c4.1 → e ∈ R) ∧ (∀ e ∈ all, isCell e.2 = false → e.2.cls ≠ .none → e ∈ R) ∧ (∀ e ∈ all, e.1 ≠ c1.1 → e.1 ≠ c2.1 → e.1 ≠ c3.1 → e.1 ≠ c4.1 → e ∈ R) ∧ (∀ e ∈ R, e.1 ≠ c1.1) ∧ (∀ e ∈ R, e.1 ≠ c2.1) ∧ (∀ e ∈ R, e.1 ≠ c3.1) ∧ (∀ e ∈ R, e.1 ≠ c4.1) := by
  have same : ∀ e ∈ all, ∀ c ∈ all, e.1 = c.1 → e.2 = c.2 := fun e he c hc e1 => by
    have x1 := (N _ he).1
    rw [e1, (N _ hc).1] at x1
    exact (Option.some.inj x1).symm
  have inR : ∀ e, e ∈ all.filter (fun e => e.1 != c1.1 && e.1 != c2.1 && e.1 != c3.1 && e.1 != c4.1) ↔ e ∈ all ∧ ((e.1 ≠ c1.1 ∧ e.1 ≠ c2.1) ∧ e.1 ≠ c3.1) ∧ e.1 ≠ c4.1 := fun e => by
    rw [List.mem_filter]; simp
  have off : ∀ c, c ∈ all → isCell c.2 = true → ∀ e ∈ all, isCell e.2 = false → e.1 ≠ c.1 := fun c hc dc e he hd e1 => by
    rw [same e he c hc e1, dc] at hd
    cases hd
  refine ⟨all.filter (fun e => e.1 != c1.1 && e.1 != c2.1 && e.1 != c3.1 && e.1 != c4.1), fun e he => ?_, fun e he hd hn => (inR e).mpr ⟨he, ⟨⟨off _ h1 d1 e he hd, off _ h2 d2 e he hd⟩, off _ h3 d3 e he hd⟩, hn⟩,
    fun e he hd hn => (inR e).mpr ⟨he, ⟨⟨off _ h1 d1 e he hd, off _ h2 d2 e he hd⟩, off _ h3 d3 e he hd⟩, fun e1 => hn (by rw [same e he c4 h4 e1]; exact d4)⟩, fun e he n1 n2 n3 n4 => (inR e).mpr ⟨he, ⟨⟨n1, n2⟩, n3⟩, n4⟩,
    fun e he => ((inR e).mp he).2.1.1.1, fun e he => ((inR e).mp he).2.1.1.2, fun e he => ((inR e).mp he).2.1.2, fun e he => ((inR e).mp he).2.2⟩
  rcases List.mem_cons.mp he with rfl | he
  · exact N _ h1
  rcases List.mem_cons.mp he with rfl | he
  · exact N _ h2
  rcases List.mem_cons.mp he with rfl | he
  · exact N _ h3
  rcases List.mem_cons.mp he with rfl | he
  · exact N _ h4
  exact N _ ((inR e).mp he).1
theorem lab_inj : ∀ i, i < 5 → ∀ j, j < 5 → lab (i : Nat) = lab (j : Nat) → i = j := by decide +kernel
theorem lab_ne : ∀ i, i < 5 → (lab (i : Nat) != Str.ofString "") = true := by decide +kernel
theorem lab_nend : ∀ i, i < 5 → (lab (i : Nat) == Str.ofString "END") = false := by decide +kernel
theorem RelRP.nodup {rs : List RRec} {qs : List PRec} (h : RelRP rs qs) (hl : qs.length = rs.length) (h5 : rs.length ≤ 5) : (qs.map (·.la)).Nodup := by
  refine List.pairwise_iff_getElem.mpr fun i j hi hj hij e => ?_
  rw [List.length_map] at hi hj
  have h1 := (h i rs[i] qs[i] (List.getElem?_eq_getElem (by exact (qlef hi hl))) (List.getElem?_eq_getElem hi)).la
  have h2 := (h j rs[j] qs[j] (List.getElem?_eq_getElem (by exact (qlef hj hl))) (List.getElem?_eq_getElem hj)).la
  rw [List.getElem_map, List.getElem_map, h1, h2] at e
  have := lab_inj i (by exact (Nat.lt_of_lt_of_le hi (qele hl h5))) j (by exact (Nat.lt_of_lt_of_le hj (qele hl h5))) e
  (first | exact (qfl hij this) | omega)
theorem RelRP.ne {rs : List RRec} {qs : List PRec} (h : RelRP rs qs) (hl : qs.length = rs.length) (h5 : rs.length ≤ 5) : ∀ q ∈ qs, (q.la != Str.ofString "") = true := fun q hq => by
  refine cps fun zG zk => ?_
  obtain ⟨i, hi, rfl⟩ := List.getElem_of_mem hq
  refine zk ?_
  clear zk zG
  rw [(h i rs[i] qs[i] (List.getElem?_eq_getElem (by exact (qlef hi hl))) (List.getElem?_eq_getElem hi)).la]
  exact lab_ne i (by exact (Nat.lt_of_lt_of_le hi (qele hl h5)))
theorem news_sub {g h : Heap} {L : Addr} {led led' : List (Addr × Obj)} (N : News g L h led) (k : ∀ q ∈ led', q ∈ led) : News g L h led' := fun q hq => N q (k q hq)
theorem name_head {g h : Heap} {L a : Addr} {o : Obj} {rest : List (Addr × Obj)} (N : News g L h ((a, o) :: rest)) : ∃ o', o' = o ∧ News g L h ((a, o') :: rest) := ⟨o, rfl, N⟩
noncomputable def rq : Str := Str.ofString "_law_heard.<locals>.replied"
theorem TabS.mono {own own' : List (Addr × Obj)} {P : Addr} {ln cn : Nat} {qual : Str} {ps : Array Value} (h : TabS own P ln cn qual ps) (k : ∀ e ∈ own, isCell e.2 = false → e.1 ≠ P → e ∈ own') : TabS own' P ln cn qual ps := by
  rcases h with rfl | ⟨c', oc, vs, t, rfl, hm, hne, hd, hv⟩
  · exact .inl rfl
  · exact .inr ⟨c', oc, vs, t, rfl, k _ hm (by unfold isCell; rw [hd]) hne, hne, hd, hv⟩
theorem LabK.get {las : List Str} {n : Nat} {kvs : List (Str × Value)} (h : LabK las n kvs) (hn : las.Nodup) {i : Nat} (hi : i < n) : ∃ la t, las[i]? = some la ∧ kvs[i]? = some (la, .int (i : Int) t) ∧ valueAt kvs la = some (.int (i : Int) t) := by
  refine cps fun zG zk => ?_
  obtain ⟨la, t, e1, e2⟩ := h.at' i hi
  refine zk ?_
  clear zk zG
  refine ⟨la, t, e1, e2, ?_⟩
  unfold valueAt
  have : kvs.find? (fun kv => decide (kv.1 = la)) = some (la, .int (i : Int) t) := by
    rw [List.find?_eq_some_iff_getElem]
    refine ⟨by simp, i, by rw [h.len]; exact hi, ?_, fun j hj => ?_⟩
    · exact (List.getElem?_eq_some_iff.mp e2).2
    · refine cps fun zG zk => ?_
      obtain ⟨la', t', f1, f2⟩ := h.at' j (by omega)
      refine zk ?_
      clear zk zG
      have hjl : j < kvs.length := by rw [h.len]; exact (Nat.lt_trans hj hi)
      rw [List.getElem?_eq_getElem hjl] at f2
      rw [Option.some.inj f2]
      simp only [Bool.not_eq_eq_eq_not, Bool.not_true, decide_eq_false_iff_not]
      intro e
      subst e
      refine cps fun zG zk => ?_
      obtain ⟨g1, k1⟩ := List.getElem?_eq_some_iff.mp e1
      obtain ⟨g2, k2⟩ := List.getElem?_eq_some_iff.mp f1
      refine zk ?_
      clear zk zG
      exact List.pairwise_iff_getElem.mp hn j i g2 g1 hj (k2.trans k1.symm)
  rw [this]; rfl
def LInv (las : List Str) (un : Addr) (base : List (Addr × Obj)) (i : Nat) (ys : List Value) (news : List (Addr × Obj)) : Prop :=
  ∃ (kvs2 : List (Str × Value)) (new : List (Addr × Obj)), news = new ++ base ∧ (∀ e ∈ new, ∀ b ∈ base, @LT.lt Nat _ b.1 e.1) ∧ kvs2.length = i ∧ ys.length = i ∧
    ∀ k, k < i → ∃ (T ta : Addr) (t tk : Tok) (la : Str), las[k]? = some la ∧ ys[k]? = some (.ref T) ∧ kvs2[k]? = some (la, .ref ta) ∧ (T, tup [.str la t, .ref ta]) ∈ new ∧ (ta, tup [.ref un, .int (k : Int) tk]) ∈ new
theorem comp_close2 {h₀ h' : Heap} {L T ta I C D : Addr} {m : Str → Option Value} {s₁ : Shared} {tk : Nat} {oT oa oI oC oD : Obj} {S : List (Addr × Obj) → Prop} {rest : Value → List (Addr × Obj) → Prop} {y : Value} {news : List (Addr × Obj)} (F : Fr h₀ L h' m)
    (N : News h₀ L h' ((T, oT) :: (ta, oa) :: (I, oI) :: (C, oC) :: (D, oD) :: news)) (hT : @LT.lt Nat _ I T ∧ @LT.lt Nat _ C T ∧ @LT.lt Nat _ D T) (ha : @LT.lt Nat _ I ta ∧ @LT.lt Nat _ C ta ∧ @LT.lt Nat _ D ta) (off : LCg.Off3 I C D news)
    (hS : S ((T, oT) :: (ta, oa) :: news)) (r : rest y ((T, oT) :: (ta, oa) :: news)) : LCg.CompEnd h₀ L m s₁ I oI C oC D oD S rest y { s₁ with heap := h', toks := tk } := by
  refine LCg.CompEnd.intro F N ((T, oT) :: (ta, oa) :: news) (fun e he => ?_) ⟨⟨Nat.ne_of_gt hT.1, Nat.ne_of_gt hT.2.1, Nat.ne_of_gt hT.2.2⟩, ⟨Nat.ne_of_gt ha.1, Nat.ne_of_gt ha.2.1, Nat.ne_of_gt ha.2.2⟩, off⟩ hS r
  simp only [List.mem_cons] at he ⊢
  grind
theorem LInv.snoc {las : List Str} {un : Addr} {base new : List (Addr × Obj)} {i : Nat} {ys : List Value} {kvs2 : List (Str × Value)} {T ta : Addr} {t tk : Tok} {la : Str} (hB : ∀ e ∈ new, ∀ b ∈ base, @LT.lt Nat _ b.1 e.1) (hl1 : kvs2.length = i) (hl2 : ys.length = i)
    (hf : ∀ k, k < i → ∃ (T ta : Addr) (t tk : Tok) (la : Str), las[k]? = some la ∧ ys[k]? = some (.ref T) ∧ kvs2[k]? = some (la, .ref ta) ∧ (T, tup [.str la t, .ref ta]) ∈ new ∧ (ta, tup [.ref un, .int (k : Int) tk]) ∈ new)
    (hla : las[i]? = some la) (h1 : ∀ b ∈ base, @LT.lt Nat _ b.1 T) (h2 : ∀ b ∈ base, @LT.lt Nat _ b.1 ta) : LInv las un base (i + 1) (ys ++ [.ref T]) ((T, tup [.str la t, .ref ta]) :: (ta, tup [.ref un, .int (i : Int) tk]) :: (new ++ base)) := by
  refine ⟨kvs2 ++ [(la, .ref ta)], (T, tup [.str la t, .ref ta]) :: (ta, tup [.ref un, .int (i : Int) tk]) :: new, rfl, fun e he b hb => ?_, by simp [hl1], by simp [hl2], fun k hk => ?_⟩
  · rcases List.mem_cons.mp he with rfl | he
    · exact h1 b hb
    rcases List.mem_cons.mp he with rfl | he
    · exact h2 b hb
    exact hB e he b hb
  · rcases Nat.lt_or_ge k i with hki | hki
    · refine cps fun zG zk => ?_
      obtain ⟨T', ta', t', tk', la', f1, f2, f3, f4, f5⟩ := hf k hki
      refine zk ?_
      clear zk zG
      exact ⟨T', ta', t', tk', la', f1, by rw [List.getElem?_append_left (by exact (qlee hki hl2))]; exact f2, by rw [List.getElem?_append_left (by exact (qlee hki hl1))]; exact f3, .tail _ (.tail _ f4), .tail _ (.tail _ f5)⟩
    · have : k = i := by exact (Nat.le_antisymm (qs3 hk) hki)
      subst this
      exact ⟨T, ta, t, tk, la, hla, by rw [List.getElem?_append_right (by exact (Nat.le_of_eq hl2)), hl2, Nat.sub_self]; rfl, by rw [List.getElem?_append_right (by exact (Nat.le_of_eq hl1)), hl1, Nat.sub_self]; rfl, .head _, .tail _ (.head _)⟩
theorem news_ne {g h : Heap} {L a b : Addr} {oa ob : Obj} {led : List (Addr × Obj)} (N : News g L h led) (h1 : (a, oa) ∈ led) (h2 : (b, ob) ∈ led) (hne : oa ≠ ob) : a ≠ b := fun e => by
  have x1 := (N _ h1).1
  have x2 := (N _ h2).1
  dsimp only at x1 x2
  rw [e, x2] at x1
  exact hne (Option.some.inj x1).symm
theorem valueAt_get {kvs : List (Str × Value)} (hn : (kvs.map (·.1)).Nodup) {i : Nat} {k : Str} {v : Value} (h : kvs[i]? = some (k, v)) : valueAt kvs k = some v := by
  unfold valueAt
  refine cps fun zG zk => ?_
  obtain ⟨hi, he⟩ := List.getElem?_eq_some_iff.mp h
  refine zk ?_
  clear zk zG
  have : kvs.find? (fun kv => decide (kv.1 = k)) = some (k, v) := by
    rw [List.find?_eq_some_iff_getElem]
    refine ⟨by simp, i, hi, he, fun j hj => ?_⟩
    simp only [Bool.not_eq_eq_eq_not, Bool.not_true, decide_eq_false_iff_not]
    intro e
    have hjl : j < kvs.length := Nat.lt_trans hj hi
    have := List.pairwise_iff_getElem.mp hn j i (by rw [List.length_map]; exact hjl) (by rw [List.length_map]; exact hi) hj
    rw [List.getElem_map, List.getElem_map, he] at this
    exact this e
  rw [this]; rfl
theorem labO_of {w : World} {od : Obj} {kvs : List (Str × Value)} (hd : od.IsDictOf (strKind PG w) kvs) (hn : (kvs.map (·.1)).Nodup) {i : Nat} {k : Str} {ta : Addr} (h : kvs[i]? = some (k, .ref ta)) : LabO w od k ta :=
  ⟨fun g a e => ⟨valueAt kvs, (Heap.dictOf_iff.mpr ⟨od, e, hd⟩).mapOf, valueAt_get hn h⟩⟩
theorem let_len {l : Int} (h : l = 0 ∨ l = 1) : (Str.ofString "call" ++ let' l).length ≤ 1000 := by
  rcases h with rfl | rfl <;> decide +kernel
/-- what a compiled program's statement is made of -/
structure StOk (w : World) (O : List (Addr × Obj)) (rs : List RRec) (vs : List Value) (un : Addr) (od : Obj) (i : Nat) (r : SRec) : Prop where
  mem : ∀ q ∈ r.all w.params un i, q ∈ O
  item : vs[i]? = some (.ref r.c)
  lo : LabO w od r.la r.ta
  la : r.la = lab i
  ex : ∃ q, rs[i]? = some q ∧ r.x = let' q.l ∧ r.sx = lab q.a ∧ r.fx = lab q.b ∧ r.s = q.a.toNat ∧ r.f = q.b.toNat
theorem stOk_all {w : World} {O own : List (Addr × Obj)} {rs : List RRec} {vs : List Value} {un : Addr} {od : Obj} (hlen : rs.length ≤ 5) (hv : vs.length = rs.length) (hR : ∀ r ∈ rs, RIn rs.length own r) {b : Nat} (hb : b < rs.length)
    (h : ∀ i, i < rs.length → ∃ r, StOk w O rs vs un od i r) : ∃ S : Nat → SRec, PStat w O rs.length S vs un od ∧ ∀ i, i < rs.length → ∃ q, rs[i]? = some q ∧ (S i).x = let' q.l ∧ (S i).s = q.a.toNat ∧ (S i).f = q.b.toNat := by
  have : ∀ i, ∃ r, i < rs.length → StOk w O rs vs un od i r := fun i => by
    by_cases hi : i < rs.length
    · refine cps fun zG zk => ?_
      obtain ⟨r, hr⟩ := h i hi
      refine zk ?_
      clear zk zG
      exact ⟨r, fun _ => hr⟩
    · refine cps fun zG zk => ?_
      obtain ⟨r, hr⟩ := h b hb
      refine zk ?_
      clear zk zG
      exact ⟨r, fun h => absurd h hi⟩
  refine cps fun zG zk => ?_
  obtain ⟨S, hS⟩ := Classical.axiomOfChoice this
  refine zk ?_
  clear zk zG
  refine ⟨S, ⟨fun i hi => (hS i hi).mem, fun i hi => (by simpa using (hS i hi).item), hv, hlen, fun i hi => (hS i hi).lo, fun i hi => ?_, fun i hi => ?_, fun i hi => ?_⟩, fun i hi => ?_⟩
  · refine cps fun zG zk => ?_
    obtain ⟨q, e1, e2, e3, e4, e5, e6⟩ := (hS i hi).ex
    obtain ⟨-, -, ha, hb⟩ := hR q (List.mem_of_getElem? e1)
    refine zk ?_
    clear zk zG
    have hs : q.a.toNat < rs.length := by exact (qtl (And.left ha) (And.right ha))
    have hf : q.b.toNat < rs.length := by exact (qtl (And.left hb) (And.right hb))
    refine ⟨?_, ?_, by rw [e5]; exact hs, by rw [e6]; exact hf⟩
    · rw [e3, e5, (hS _ hs).la, Int.toNat_of_nonneg ha.1]
    · rw [e4, e6, (hS _ hf).la, Int.toNat_of_nonneg hb.1]
  · refine cps fun zG zk => ?_
    obtain ⟨q, e1, e2, e3, e4, e5, e6⟩ := (hS i hi).ex
    refine zk ?_
    clear zk zG
    rw [e2]
    exact let_len (hR q (List.mem_of_getElem? e1)).hl
  · rw [(hS i hi).la]; exact lab_nend i (by exact (Nat.lt_of_lt_of_le hi hlen))
  · refine cps fun zG zk => ?_
    obtain ⟨q, e1, e2, e3, e4, e5, e6⟩ := (hS i hi).ex
    refine zk ?_
    clear zk zG
    exact ⟨q, e1, e2, e5, e6⟩
theorem name_led {g h : Heap} {L : Addr} {led : List (Addr × Obj)} (N : News g L h led) : ∃ B, B = led ∧ News g L h B := ⟨_, rfl, N⟩
section
variable {w : World} {A : Around} {E : Value → Shared → Prop} {s : Shared} {Q : Value → Shared → Prop} {h₀ : Heap} {L d : Addr} {news : List (Addr × Obj)} {o : Obj} {kvs : List (Str × Value)} {x : Str} {t : Tok} {v : Value}
theorem dict_tail {value slice : Expr} (N : News h₀ L s.heap news) (hm : (d, o) ∈ news) (hd : o.IsDictOf (strKind PG w) kvs) (hv : valueAt kvs x = some v) (h : Q v { s with toks := s.toks + 1 })
    (hs : subscripted slice false (.ref d) (.str x t) = operate [.ref d, .str x t] (getItem (.ref d) (.str x t)) := by with_unfolding_all rfl) : wpAny (model PG w) A (subscriptTail value slice (.ref d) (.str x t)) Q E s := by
  have hf := (Heap.dictOf_iff.mpr ⟨o, N.get hm, hd⟩).mapOf
  exact tail_any hf.typeIs slot_dict_getitem.lookup (wpAny_getItem_of (strKind_is _ _ _ _) hf hv h) hs
end
/-- the walk of the states and the letter of each -/
noncomputable def nxR (rs : List RRec) (i : Nat) (b : Int) : Nat := match rs[i]? with
  | some r => if b = 1 then r.a.toNat else r.b.toNat
  | none => 0
noncomputable def pathR (rs : List RRec) : Nat → List Int → List Nat
  | i, [] => [i]
  | i, b :: w => i :: pathR rs (nxR rs i b) w
noncomputable def letR (rs : List RRec) (i : Nat) : Str := match rs[i]? with
  | some r => Str.ofString "call" ++ let' r.l
  | none => Str.ofString ""
theorem nxR_lt {rs : List RRec} {own : List (Addr × Obj)} (R : ∀ r ∈ rs, RIn rs.length own r) {i : Nat} (hi : i < rs.length) (b : Int) : nxR rs i b < rs.length := by
  refine cps fun zG zk => ?_
  obtain ⟨h1, h2, ⟨h3, h4⟩, h5, h6⟩ := R _ (List.getElem_mem hi)
  refine zk ?_
  clear zk zG
  unfold nxR
  rw [List.getElem?_eq_getElem hi]
  dsimp only
  split <;> (first | exact (qtl h3 h4) | exact (qtl0 (qpos hi) h6) | omega)
theorem noteOf_len {S : Nat → SRec} : ∀ (w : List Int) (i : Nat), (noteOf S i w).length ≤ 2 * w.length + 1
  | [], i => by simp [noteOf]
  | b :: w, i => by
    have h1 := noteOf_len (S := S) w (S i).s
    have h2 := noteOf_len (S := S) w (S i).f
    unfold noteOf
    split <;> simp only [List.length_cons] <;> (first | exact (qdc h1) | exact (qdb h2) | omega)
theorem runs_as {rs : List RRec} {own : List (Addr × Obj)} {S : Nat → SRec} (R : ∀ r ∈ rs, RIn rs.length own r) (hS : ∀ i, i < rs.length → ∃ q, rs[i]? = some q ∧ (S i).x = let' q.l ∧ (S i).s = q.a.toNat ∧ (S i).f = q.b.toNat) :
    ∀ (w : List Int) (i : Nat), i < rs.length → askOf S i w = (pathR rs i w).map (letR rs) ∧ (noteOf S i w).filter (fun k => decide (0 ≤ k)) = (pathR rs i w).map Int.ofNat
  | [], i, hi => by
    refine cps fun zG zk => ?_
    obtain ⟨q, e1, e2, e3, e4⟩ := hS i hi
    refine zk ?_
    clear zk zG
    simp [askOf, noteOf, pathR, letR, e1, e2]
  | b :: w, i, hi => by
    refine cps fun zG zk => ?_
    obtain ⟨q, e1, e2, e3, e4⟩ := hS i hi
    have hn := nxR_lt R hi b
    obtain ⟨h1, h2⟩ := runs_as R hS w _ hn
    refine zk ?_
    clear zk zG
    have hx : nxR rs i b = if b = 1 then (S i).s else (S i).f := by unfold nxR; rw [e1, e3, e4]
    rw [hx] at h1 h2
    unfold askOf noteOf pathR
    rw [hx]
    by_cases hb : b = 1
    · simp only [hb, if_true] at h1 h2 ⊢
      simp [h1, h2, letR, e1, e2]
    · simp only [hb, if_false] at h1 h2 ⊢
      simp [h1, h2, letR, e1, e2]
namespace hdC
def zP (w : World) (p : Program) (loose : List Str) (mean : ExcName → Option Value) (mg : Str → Option Value) (mb : Str → Option Value) (own : List (Addr × Obj)) (rs : List RRec) (ans : List (Int × Tok)) (rl : Addr) (al : Addr) (nr : Nat) (na : Nat) (b : Nat) (tb : Tok) (A₀ : Around) (base : Heap) (h₀ : Heap) (m : Str → Option Value) (s : Shared) (Q : Value → Shared → Prop) (E : Value → Shared → Prop) (pt : Array Value) : Prop := ∀ (c : CX) (B : Below A₀ base c.outer h₀) (F : Fr h₀ c.L s.heap m) (X : (kdef.heap_1 w.params).In h₀) (T : Top p loose mean mg mb h₀) (C : CodeHd h₀ 424 422) (TS : TabS own 422 331 4 rq pt) (ht0 : ∀ e ∈ own, e.1 ≠ 422) (ht1 : @Ne Nat rl 422) (ht2 : @Ne Nat al 422) (N : News h₀ c.L s.heap ((422, tabObj pt) :: (rl, W.listOf (rs.map fun r => .ref r.ad).toArray nr) :: (al, W.listOf (ans.map intV).toArray na) :: own)) (R : ∀ r ∈ rs, RIn rs.length own r) (hlen : rs.length ≤ 5) (hal : ans.length ≤ 100) (hb0 : b < rs.length) (hco : c.outer = []) (XB : (kdef.heap_1 w.params).In base) (TB : Top p loose mean mg mb base) (hok : ∀ h' tk' T9 ak nl (asked' : List (Str × Tok)) (notes' : List (Int × Tok)) n1 n2 n3 pt' own', Fr h₀ c.L h' m → News h₀ c.L h' ((422, tabObj pt') :: own') → (∀ e ∈ own', e.1 ≠ 422) → (∀ e ∈ own, e ∈ own') →
      (rl, W.listOf (rs.map fun r => .ref r.ad).toArray nr) ∈ own' → (al, W.listOf (ans.map intV).toArray na) ∈ own' → (T9, ({ cls := .type "tuple", data := .seq #[.ref ak, .ref nl] n3 } : Obj)) ∈ own' → (ak, W.listOf (asked'.map strV).toArray n1) ∈ own' → (nl, W.listOf (notes'.map intV).toArray n2) ∈ own' → TabS own' 422 331 4 rq pt' →
      asked'.map Prod.fst = (pathR rs b (ans.map Prod.fst)).map (letR rs) → notes'.map Prod.fst = (pathR rs b (ans.map Prod.fst)).map Int.ofNat → Q (.ref T9) { s with heap := h', toks := tk' }),
  wpAny (model PG w) (c.T 480 3800) (call (.ref 425) [.ref rl, .int b tb, .ref al]) Q E s
noncomputable def zc := eps (α := (World) × (Program) × (List Str) × (ExcName → Option Value) × (Str → Option Value) × (Str → Option Value) × (List (Addr × Obj)) × (List RRec) × (List (Int × Tok)) × (Addr) × (Addr) × (Nat) × (Nat) × (Nat) × (Tok) × (Around) × (Heap) × (Heap) × (Str → Option Value) × (Shared) × (Value → Shared → Prop) × (Value → Shared → Prop) × (Array Value)) ⟨world0, default, default, (fun _ => default), (fun _ => default), (fun _ => default), default, default, default, default, default, default, default, default, default, {}, {}, {}, (fun _ => default), {}, (fun _ _ => True), (fun _ _ => True), default⟩ (fun c => zP c.1 c.2.1 c.2.2.1 c.2.2.2.1 c.2.2.2.2.1 c.2.2.2.2.2.1 c.2.2.2.2.2.2.1 c.2.2.2.2.2.2.2.1 c.2.2.2.2.2.2.2.2.1 c.2.2.2.2.2.2.2.2.2.1 c.2.2.2.2.2.2.2.2.2.2.1 c.2.2.2.2.2.2.2.2.2.2.2.1 c.2.2.2.2.2.2.2.2.2.2.2.2.1 c.2.2.2.2.2.2.2.2.2.2.2.2.2.1 c.2.2.2.2.2.2.2.2.2.2.2.2.2.2.1 c.2.2.2.2.2.2.2.2.2.2.2.2.2.2.2.1 c.2.2.2.2.2.2.2.2.2.2.2.2.2.2.2.2.1 c.2.2.2.2.2.2.2.2.2.2.2.2.2.2.2.2.2.1 c.2.2.2.2.2.2.2.2.2.2.2.2.2.2.2.2.2.2.1 c.2.2.2.2.2.2.2.2.2.2.2.2.2.2.2.2.2.2.2.1 c.2.2.2.2.2.2.2.2.2.2.2.2.2.2.2.2.2.2.2.2.1 c.2.2.2.2.2.2.2.2.2.2.2.2.2.2.2.2.2.2.2.2.2.1 c.2.2.2.2.2.2.2.2.2.2.2.2.2.2.2.2.2.2.2.2.2.2)
@[irreducible] noncomputable def w := zc.1.1
@[irreducible] noncomputable def p := zc.1.2.1
@[irreducible] noncomputable def loose := zc.1.2.2.1
@[irreducible] noncomputable def mean := zc.1.2.2.2.1
@[irreducible] noncomputable def mg := zc.1.2.2.2.2.1
@[irreducible] noncomputable def mb := zc.1.2.2.2.2.2.1
@[irreducible] noncomputable def own := zc.1.2.2.2.2.2.2.1
@[irreducible] noncomputable def rs := zc.1.2.2.2.2.2.2.2.1
@[irreducible] noncomputable def ans := zc.1.2.2.2.2.2.2.2.2.1
@[irreducible] noncomputable def rl := zc.1.2.2.2.2.2.2.2.2.2.1
@[irreducible] noncomputable def al := zc.1.2.2.2.2.2.2.2.2.2.2.1
@[irreducible] noncomputable def nr := zc.1.2.2.2.2.2.2.2.2.2.2.2.1
@[irreducible] noncomputable def na := zc.1.2.2.2.2.2.2.2.2.2.2.2.2.1
@[irreducible] noncomputable def b := zc.1.2.2.2.2.2.2.2.2.2.2.2.2.2.1
@[irreducible] noncomputable def tb := zc.1.2.2.2.2.2.2.2.2.2.2.2.2.2.2.1
@[irreducible] noncomputable def A₀ := zc.1.2.2.2.2.2.2.2.2.2.2.2.2.2.2.2.1
@[irreducible] noncomputable def base := zc.1.2.2.2.2.2.2.2.2.2.2.2.2.2.2.2.2.1
@[irreducible] noncomputable def h₀ := zc.1.2.2.2.2.2.2.2.2.2.2.2.2.2.2.2.2.2.1
@[irreducible] noncomputable def m := zc.1.2.2.2.2.2.2.2.2.2.2.2.2.2.2.2.2.2.2.1
@[irreducible] noncomputable def s := zc.1.2.2.2.2.2.2.2.2.2.2.2.2.2.2.2.2.2.2.2.1
@[irreducible] noncomputable def Q := zc.1.2.2.2.2.2.2.2.2.2.2.2.2.2.2.2.2.2.2.2.2.1
@[irreducible] noncomputable def E := zc.1.2.2.2.2.2.2.2.2.2.2.2.2.2.2.2.2.2.2.2.2.2.1
@[irreducible] noncomputable def pt := zc.1.2.2.2.2.2.2.2.2.2.2.2.2.2.2.2.2.2.2.2.2.2.2
noncomputable def zpart0 : { R : ((Str) → (List (Str × NameKind)) → (List (Str × Const)) → (Addr) → (Addr) → (Value) → (List (Str × Addr)) → (Heap) → (Addr) → (Obj) → (Obj) → (Obj) → (Addr) → (Heap) → (Nat) → (Addr) → Prop) // Hide (∀ cn cnm cmo cL ca ccd ccl g' L' o1 o2 o3 ls h3 tkn I', R cn cnm cmo cL ca ccd ccl g' L' o1 o2 o3 ls h3 tkn I') → zP w p loose mean mg mb own rs ans rl al nr na b tb A₀ base h₀ m s Q E pt } := by
  refine' ⟨_, fun hP1 => ?main⟩
  case main =>
    intro c B F X T C TS ht0 ht1 ht2 N R hlen hal hb0 hco XB TB hok
    refine cps fun zG zk => ?_
    obtain ⟨cn, cnm, cmo, cL, ca, ccd, ccl, couter⟩ := c
    refine zk ?_
    clear zk zG
    dsimp only at hco B F N hok
    subst hco
    have hFr : (CX.T ⟨cn, cnm, cmo, cL, ca, ccd, ccl, []⟩ 480 3800).frames = some [CX.env ⟨cn, cnm, cmo, cL, ca, ccd, ccl, []⟩] := rfl
    w_on
    ((with_reducible show wpAny _ _ (call (Value.ref 425) _) _ _ _); k_dflt (refine wpAny_call ?_); (refine' code_defC0 ?k1 ?k2 ?k3 ?k4 ?k5 ?kA ?kF ?kK ?k6 ?k7 ?k8 ?k9 ?kB ?kD ?_ ?c2 ?c3 ?c4; (case kA => with_unfolding_all assumption); (case kF => with_unfolding_all exact rfl); (case kK => with_unfolding_all exact rfl); (case k1 => with_unfolding_all assumption); (case k2 => k_asm); (case k3 => k_asm); (case k4 => k_asm); (case k5 => k_asm); (case k6 => k_is); (case k7 => k_is); (case k8 => k_room); (case k9 => first | exact BindsTo.of_eq rfl | exact binds_K (by k_in) rfl (by k_is) rfl rfl rfl); (case kB => exact rfl); (case kD => decide +kernel); (case c2 => exact rfl); (case c3 => exact rfl); (case c4 => exact rfl); k_whole; intro g' L' h' tk' cells' FG' F' N' Y' B' X' T' l1; (try k_lt l1); k_cells Y'; (try simp only [List.cons_append, List.nil_append] at N'); (try dsimp only); (try k_lift B'); (try k_fold)))
    repeat' (first | (k_unfold; (try dsimp only)) | (k_end; wrow_close) | ((first | with_reducible ((with_reducible show wpAny _ _ (call (Value.type _) _) _ _ _); k_dflt (refine stop_ ?_)) | walk1); (try ((with_reducible show wpAny _ _ (execs _ _) _ _ (Shared.mk _ _ _ (_ + 1) _)); refine tok_any ?_; intro tkn))) | (dsimp only; walk1) | (leave1; (try dsimp only)))
    unfold Stop
    rename News _ _ _ _ => N'
    rename Fr _ _ _ _ => F'
    rename_i hT1 o1 o2 o3 d1 d2 d3 ls h2 hT2 lb h3
    have la := l1
    ((try clear l1))
    refine' ktu_enum (vs := rs.map fun r => .ref r.ad) ?ka ?kb ?kc ?kd ?ke ?kf ?kg ?_
    case ka => exact rfl
    case kb => exact F'
    case kc => exact N'
    case kd => k_mem
    case ke => exact rfl
    case kf => exact rfl
    case kg => exact rfl
    intro I' l1
    k_lt l1
    rename_i z1_1
    revert X T C TS ht0 ht1 ht2 R hlen hal hb0 XB TB hok FG' B' X' T' hT1 d1 d2 d3 hT2 lb F' N' la z1_1 l1
    exact hP1.out cn cnm cmo cL ca ccd ccl g' L' o1 o2 o3 ls h3 tkn I'
namespace z1
noncomputable def zc := eps (α := (Str) × (List (Str × NameKind)) × (List (Str × Const)) × (Addr) × (Addr) × (Value) × (List (Str × Addr)) × (Heap) × (Addr) × (Obj) × (Obj) × (Obj) × (Addr) × (Heap) × (Nat) × (Addr)) ⟨default, default, default, default, default, default, default, {}, default, default, default, default, default, {}, default, default⟩ (fun c => zpart0.1 c.1 c.2.1 c.2.2.1 c.2.2.2.1 c.2.2.2.2.1 c.2.2.2.2.2.1 c.2.2.2.2.2.2.1 c.2.2.2.2.2.2.2.1 c.2.2.2.2.2.2.2.2.1 c.2.2.2.2.2.2.2.2.2.1 c.2.2.2.2.2.2.2.2.2.2.1 c.2.2.2.2.2.2.2.2.2.2.2.1 c.2.2.2.2.2.2.2.2.2.2.2.2.1 c.2.2.2.2.2.2.2.2.2.2.2.2.2.1 c.2.2.2.2.2.2.2.2.2.2.2.2.2.2.1 c.2.2.2.2.2.2.2.2.2.2.2.2.2.2.2)
@[irreducible] noncomputable def cn := zc.1.1
@[irreducible] noncomputable def cnm := zc.1.2.1
@[irreducible] noncomputable def cmo := zc.1.2.2.1
@[irreducible] noncomputable def cL := zc.1.2.2.2.1
@[irreducible] noncomputable def ca := zc.1.2.2.2.2.1
@[irreducible] noncomputable def ccd := zc.1.2.2.2.2.2.1
@[irreducible] noncomputable def ccl := zc.1.2.2.2.2.2.2.1
@[irreducible] noncomputable def g' := zc.1.2.2.2.2.2.2.2.1
@[irreducible] noncomputable def L' := zc.1.2.2.2.2.2.2.2.2.1
@[irreducible] noncomputable def o1 := zc.1.2.2.2.2.2.2.2.2.2.1
@[irreducible] noncomputable def o2 := zc.1.2.2.2.2.2.2.2.2.2.2.1
@[irreducible] noncomputable def o3 := zc.1.2.2.2.2.2.2.2.2.2.2.2.1
@[irreducible] noncomputable def ls := zc.1.2.2.2.2.2.2.2.2.2.2.2.2.1
@[irreducible] noncomputable def h3 := zc.1.2.2.2.2.2.2.2.2.2.2.2.2.2.1
@[irreducible] noncomputable def tkn := zc.1.2.2.2.2.2.2.2.2.2.2.2.2.2.2.1
@[irreducible] noncomputable def I' := zc.1.2.2.2.2.2.2.2.2.2.2.2.2.2.2.2
noncomputable def zpart1 : { R : ((Nat) → (Str → Option Value) → (Heap) → (Nat) → (List PRec) → (Nat) → (List (Addr × Obj)) → (RRec) → (Addr) → (Tok) → (Obj) → (Obj) → Prop) × ((Str → Option Value) → (Heap) → (Nat) → (List PRec) → (Nat) → (List (Addr × Obj)) → Prop) // Hide (∀ i m₁ h₁ tk₁ qs k own' r T₁ t₁ oe oi, R.1 i m₁ h₁ tk₁ qs k own' r T₁ t₁ oe oi) → Hide (∀ m₁ h₁ tk₁ qs k own', R.2 m₁ h₁ tk₁ qs k own') → zpart0.1 cn cnm cmo cL ca ccd ccl g' L' o1 o2 o3 ls h3 tkn I' } := by
  refine' ⟨(_, _), fun hP2 hP5 => ?main⟩
  case main =>
    intro X T C TS ht0 ht1 ht2 R hlen hal hb0 XB TB hok FG' B' X' T' hT1 d1 d2 d3 hT2 lb F' N' la z1_1 l1
    refine itemsRest_ind (HInv w b tb al ls rs ((rl, W.listOf (rs.map fun r => .ref r.ad).toArray nr) :: (al, W.listOf (ans.map intV).toArray na) :: own) [(L' + 1 + 1 + 1, o1), (L' + 1 + 1, o2), (L' + 1, o3), (422, tabObj pt)] [ls, L' + 1 + 1 + 1, L' + 1 + 1, L' + 1, I' + 1, I', 422]) ?_ ?_ _ 0 _ _ rfl
      ⟨[], 0, _, rfl, rfl, fun q hq => (nomatch hq), (fun k r q _ e => by simp at e), fun e he => he, ?off, rfl, rfl, rfl⟩ (Nat.zero_le _)
    case off =>
      intro e he a ha
      have h9 : @LT.lt Nat _ e.1 L' ∧ @Ne Nat e.1 422 := by
        rcases List.mem_cons.mp he with rfl | he
        · exact ⟨la.2.1, ht1⟩
        rcases List.mem_cons.mp he with rfl | he
        · exact ⟨la.2.2.1, ht2⟩
        exact ⟨hT1 e he, ht0 e he⟩
      simp only [List.mem_cons, List.not_mem_nil, or_false] at ha
      rcases ha with rfl | rfl | rfl | rfl | rfl | rfl | rfl <;> k_ne
    · intro i a m₁ n₁ hx hv v h₁ tk₁ hav F₁
      refine cps fun zG zk => ?_
      obtain ⟨qs, k, own', hq1, rfl, hq2, hq3, hq4, hof, e1, e2, e3⟩ := hv
      refine zk ?_
      clear zk zG
      have hof1 := OffA.all hof (.head _)
      have hi : i < rs.length := by
        have := (List.getElem?_eq_some_iff.mp hx).1
        rwa [enumItems_length, List.length_map] at this
      have hri : rs[i]? = some rs[i] := List.getElem?_eq_getElem hi
      generalize rs[i] = r at hri
      have := enumItems_get (rs.map fun r => Value.ref r.ad) 0 i (v := .ref r.ad) (by rw [List.getElem?_map, hri]; rfl)
      rw [this] at hx
      refine cps fun zG zk => ?_
      obtain ⟨r1, r2, r3, r4⟩ := R r (List.mem_of_getElem? hri)
      refine zk ?_
      clear zk zG
      replace r1 := hq4 _ (.tail _ (.tail _ r1))
      cases hx
      refine cps fun zG zk => ?_
      obtain ⟨T₁, t₁, rfl, hT⟩ := hav
      refine zk ?_
      clear zk zG
      rw [Nat.zero_add] at hT
      refine AllObj.cons fun oe he => AllObj.cons fun oi ho => AllObj.nil fun N₁ => ?_
      replace F₁ := fr_name3 F₁ e1 e2 e3
      ((try clear N'); (try clear F'))
      simp only [List.cons_append, List.nil_append] at N₁
      revert X C hlen XB B' X' T' hT2 lb z1_1 l1 hq1 hq2 hq3 hq4 hof e1 hof1 hi hri r2 r3 r4 r1 hT he ho N₁ F₁
      exact hP2.out i m₁ h₁ tk₁ qs k own' r T₁ t₁ oe oi
    · intro m₁ n₁ hv h₁ tk₁ F₁ N₁
      refine cps fun zG zk => ?_
      obtain ⟨qs, k, own', hq1, rfl, hq2, hq3, hq4, hof, e1, e2, e3⟩ := hv
      refine zk ?_
      clear zk zG
      replace F₁ := fr_name3 F₁ e1 e2 e3
      ((try clear N'); (try clear F'))
      simp only [List.cons_append, List.nil_append] at N₁
      rw [enumItems_length, List.length_map] at hq1
      revert X T C TS ht0 ht1 ht2 R hlen hal hb0 XB TB hok FG' B' X' T' hT1 d1 d2 d3 la hq1 N₁ hq2 hq3 hq4 F₁
      exact hP5.out m₁ h₁ tk₁ qs k own'

namespace z2
noncomputable def zc := eps (α := (Nat) × (Str → Option Value) × (Heap) × (Nat) × (List PRec) × (Nat) × (List (Addr × Obj)) × (RRec) × (Addr) × (Tok) × (Obj) × (Obj)) ⟨default, (fun _ => default), {}, default, default, default, default, by constructor <;> exact default, default, default, default, default⟩ (fun c => zpart1.1.1 c.1 c.2.1 c.2.2.1 c.2.2.2.1 c.2.2.2.2.1 c.2.2.2.2.2.1 c.2.2.2.2.2.2.1 c.2.2.2.2.2.2.2.1 c.2.2.2.2.2.2.2.2.1 c.2.2.2.2.2.2.2.2.2.1 c.2.2.2.2.2.2.2.2.2.2.1 c.2.2.2.2.2.2.2.2.2.2.2)
@[irreducible] noncomputable def i := zc.1.1
@[irreducible] noncomputable def m₁ := zc.1.2.1
@[irreducible] noncomputable def h₁ := zc.1.2.2.1
@[irreducible] noncomputable def tk₁ := zc.1.2.2.2.1
@[irreducible] noncomputable def qs := zc.1.2.2.2.2.1
@[irreducible] noncomputable def k := zc.1.2.2.2.2.2.1
@[irreducible] noncomputable def own' := zc.1.2.2.2.2.2.2.1
@[irreducible] noncomputable def r := zc.1.2.2.2.2.2.2.2.1
@[irreducible] noncomputable def T₁ := zc.1.2.2.2.2.2.2.2.2.1
@[irreducible] noncomputable def t₁ := zc.1.2.2.2.2.2.2.2.2.2.1
@[irreducible] noncomputable def oe := zc.1.2.2.2.2.2.2.2.2.2.2.1
@[irreducible] noncomputable def oi := zc.1.2.2.2.2.2.2.2.2.2.2.2
noncomputable def zpart2 : { R : ((Heap) → (Nat) → (Heap) → (Addr) → (Addr) → (Nat → Tok) → (Tok) → (Nat) → (Addr) → (Addr) → (Addr) → (Heap) → (Nat) → Prop) // Hide (∀ z3_2 z3_7 h' st sd kt z3_11 z3_12 z3_15 z3_19 z3_23 z3_29 tkn, R z3_2 z3_7 h' st sd kt z3_11 z3_12 z3_15 z3_19 z3_23 z3_29 tkn) → zpart1.1.1 i m₁ h₁ tk₁ qs k own' r T₁ t₁ oe oi } := by
  refine' ⟨_, fun hP3 => ?main⟩
  case main =>
    intro X C hlen XB B' X' T' hT2 lb z1_1 l1 hq1 hq2 hq3 hq4 hof e1 hof1 hi hri r2 r3 r4 r1 hT he ho N₁ F₁
    iterate 75 (first | (k_unfold; (try dsimp only)) | (k_end; wrow_close) | ((first | with_reducible (k_here; (with_reducible show wpAny _ _ (call (Value.ref 416) [_, _]) _ _ _); k_dflt (refine wp_le (d := 490) (u := 3900) ?_ (Nat.le_of_ble_eq_true rfl) (Nat.le_of_ble_eq_true rfl)); k_dflt (refine' stC w (CX.mk _ _ _ _ _ _ _ _) _ _ _ _ _ _ _ _ _ _ _ ?Bx33 ?Fx33 ?Xx33 ?Tx33 ?Nx33 ?_; (case Nx33 => k_asm); (case Bx33 => k_asm); (case Fx33 => k_asm); (case Xx33 => k_asm); (case Tx33 => k_asm)); intro h' tk' st sd kt F' N' l1 l2; k_lt l1) | with_reducible ((with_reducible show wpAny _ _ (eval (Expr.Tuple ..) _) _ _ _); k_here; dsimp only) | walk1); (try ((with_reducible show wpAny _ _ (execs _ _) _ _ (Shared.mk _ _ _ (_ + 1) _)); refine tok_any ?_; intro tkn))) | (dsimp only; walk1) | (leave1; (try dsimp only)))
    rename_i z3_1 z3_2 z3_3 z3_4 z3_5 z3_6 z3_7 z3_8 z3_9 z3_10 z3_11 z3_12 z3_13 z3_14 z3_15 z3_16 z3_17 z3_18 z3_19 z3_20 z3_21 z3_22 z3_23 z3_24 z3_25 z3_26 z3_27 z3_28
      z3_29 z3_30 z3_31
    revert X C hlen XB X' T' hT2 lb z1_1 z3_1 hq1 hq2 hq3 hq4 hof e1 hof1 hi hri r3 r4 r1 he ho z3_3 z3_4 F' N' l2 z3_8 l1 z3_18 z3_22 z3_26 z3_30 z3_31
    exact hP3.out z3_2 z3_7 h' st sd kt z3_11 z3_12 z3_15 z3_19 z3_23 z3_29 tkn
namespace z3
noncomputable def zc := eps (α := (Heap) × (Nat) × (Heap) × (Addr) × (Addr) × (Nat → Tok) × (Tok) × (Nat) × (Addr) × (Addr) × (Addr) × (Heap) × (Nat)) ⟨{}, default, {}, default, default, (fun _ => default), default, default, default, default, default, {}, default⟩ (fun c => zpart2.1 c.1 c.2.1 c.2.2.1 c.2.2.2.1 c.2.2.2.2.1 c.2.2.2.2.2.1 c.2.2.2.2.2.2.1 c.2.2.2.2.2.2.2.1 c.2.2.2.2.2.2.2.2.1 c.2.2.2.2.2.2.2.2.2.1 c.2.2.2.2.2.2.2.2.2.2.1 c.2.2.2.2.2.2.2.2.2.2.2.1 c.2.2.2.2.2.2.2.2.2.2.2.2)
@[irreducible] noncomputable def z3_2 := zc.1.1
@[irreducible] noncomputable def z3_7 := zc.1.2.1
@[irreducible] noncomputable def h' := zc.1.2.2.1
@[irreducible] noncomputable def st := zc.1.2.2.2.1
@[irreducible] noncomputable def sd := zc.1.2.2.2.2.1
@[irreducible] noncomputable def kt := zc.1.2.2.2.2.2.1
@[irreducible] noncomputable def z3_11 := zc.1.2.2.2.2.2.2.1
@[irreducible] noncomputable def z3_12 := zc.1.2.2.2.2.2.2.2.1
@[irreducible] noncomputable def z3_15 := zc.1.2.2.2.2.2.2.2.2.1
@[irreducible] noncomputable def z3_19 := zc.1.2.2.2.2.2.2.2.2.2.1
@[irreducible] noncomputable def z3_23 := zc.1.2.2.2.2.2.2.2.2.2.2.1
@[irreducible] noncomputable def z3_29 := zc.1.2.2.2.2.2.2.2.2.2.2.2.1
@[irreducible] noncomputable def tkn := zc.1.2.2.2.2.2.2.2.2.2.2.2.2
noncomputable def zpart3 : { R : ((Tok) → (Addr) → (Addr) → (Nat) → (Tok) → (Addr) → (Addr) → (Heap) → (Nat) → (PRec) → (List (Addr × Obj)) → Prop) // Hide (∀ z4_1 z4_4 z4_8 z4_13 z4_14 z4_17 z4_21 z4_26 tk q new, R z4_1 z4_4 z4_8 z4_13 z4_14 z4_17 z4_21 z4_26 tk q new) → zpart2.1 z3_2 z3_7 h' st sd kt z3_11 z3_12 z3_15 z3_19 z3_23 z3_29 tkn } := by
  refine' ⟨_, fun hP4 => ?main⟩
  case main =>
    intro X C hlen XB X' T' hT2 lb z1_1 z3_1 hq1 hq2 hq3 hq4 hof e1 hof1 hi hri r3 r4 r1 he ho z3_3 z3_4 F' N' l2 z3_8 l1 z3_18 z3_22 z3_26 z3_30 z3_31
    repeat' (first | (k_unfold; (try dsimp only)) | (k_end; wrow_close) | ((first | with_reducible ((with_reducible show wpAny _ _ (eval (Expr.Tuple ..) _) _ _ _); k_here; dsimp only) | with_reducible ((with_reducible show wpAny _ _ (call (Value.builtin _) _) _ _ _); k_here; (try dsimp only [List.nil_append, List.cons_append]); k_dflt (refine' append_K ?k1x36 ?k2x36 ?k3x36 ?_ ?zx36; (case k1x36 => k_asm); (case k2x36 => k_asm); (case k3x36 => k_upd); (case zx36 => size_fits); k_whole); intro _ _ _; (try k_sweep)) | walk1); (try ((with_reducible show wpAny _ _ (execs _ _) _ _ (Shared.mk _ _ _ (_ + 1) _)); refine tok_any ?_; intro tkn))) | (dsimp only; walk1) | (leave1; (try dsimp only)))
    rename News _ _ _ _ => N9
    rename Fr _ _ _ _ => F9
    simp only [List.push_toArray] at N9
    refine cps fun zG zk => ?_
    obtain ⟨q, new, p1, p2, p3, p4, p5, p6, p7, p8⟩ := made_prec (I' + 1) N9 (by refine ⟨?_, ?_, ?_, ?_, ?_, ?_, ?_, ?_, ?_⟩ <;> (first | exact (And.left (And.right (And.right (And.right (And.right (And.right (And.right (And.right (And.right (by assumption)))))))))) | exact (And.left (And.right (And.right (And.right (And.right (And.right (And.right (And.right (by assumption))))))))) | exact (And.left (And.right (And.right (And.right (And.right (And.right (And.right (by assumption)))))))) | exact (And.left (And.right (And.right (And.right (And.right (And.right (by assumption))))))) | exact (And.left (And.right (And.right (And.right (And.right z3_26))))) | exact (And.left (And.right (And.right (And.right z3_22)))) | exact (And.left (And.right (And.right z3_18))) | exact (Nat.lt_trans (And.left l1) l2) | exact (And.left l1) | omega))
    refine zk ?_
    clear zk zG
    rw [← p1] at p7
    rename_i z4_1 z4_2 z4_3 z4_4 z4_5 z4_6 z4_7 z4_8 z4_9 z4_10 z4_11 z4_12 z4_13 z4_14 z4_15 z4_16 z4_17 z4_18 z4_19 z4_20 z4_21 z4_22 z4_23 z4_24 z4_25 z4_26
    revert X C XB X' hT2 lb z1_1 z3_1 hq1 hq2 hq3 hq4 hof e1 hof1 hri he ho z3_3 z3_4 F' N' l1 z3_18 z3_22 z3_26 z4_7 z4_11 z4_20 z4_24 F9 N9 p2 p3 p4 p5 p6 p7 p8
    exact hP4.out z4_1 z4_4 z4_8 z4_13 z4_14 z4_17 z4_21 z4_26 tk q new
namespace z4
noncomputable def zc := eps (α := (Tok) × (Addr) × (Addr) × (Nat) × (Tok) × (Addr) × (Addr) × (Heap) × (Nat) × (PRec) × (List (Addr × Obj))) ⟨default, default, default, default, default, default, default, {}, default, by constructor <;> exact default, default⟩ (fun c => zpart3.1 c.1 c.2.1 c.2.2.1 c.2.2.2.1 c.2.2.2.2.1 c.2.2.2.2.2.1 c.2.2.2.2.2.2.1 c.2.2.2.2.2.2.2.1 c.2.2.2.2.2.2.2.2.1 c.2.2.2.2.2.2.2.2.2.1 c.2.2.2.2.2.2.2.2.2.2)
@[irreducible] noncomputable def z4_1 := zc.1.1
@[irreducible] noncomputable def z4_4 := zc.1.2.1
@[irreducible] noncomputable def z4_8 := zc.1.2.2.1
@[irreducible] noncomputable def z4_13 := zc.1.2.2.2.1
@[irreducible] noncomputable def z4_14 := zc.1.2.2.2.2.1
@[irreducible] noncomputable def z4_17 := zc.1.2.2.2.2.2.1
@[irreducible] noncomputable def z4_21 := zc.1.2.2.2.2.2.2.1
@[irreducible] noncomputable def z4_26 := zc.1.2.2.2.2.2.2.2.1
@[irreducible] noncomputable def tk := zc.1.2.2.2.2.2.2.2.2.1
@[irreducible] noncomputable def q := zc.1.2.2.2.2.2.2.2.2.2.1
@[irreducible] noncomputable def new := zc.1.2.2.2.2.2.2.2.2.2.2
theorem zat : zpart3.1 z4_1 z4_4 z4_8 z4_13 z4_14 z4_17 z4_21 z4_26 tk q new := by
  intro X C XB X' hT2 lb z1_1 z3_1 hq1 hq2 hq3 hq4 hof e1 hof1 hri he ho z3_3 z3_4 F' N' l1 z3_18 z3_22 z3_26 z4_7 z4_11 z4_20 z4_24 F9 N9 p2 p3 p4 p5 p6 p7 p8
  refine ⟨_, _, _, (ls, W.listOf ((qs ++ [q]).map fun q => .ref q.st).toArray (k + 1)) :: ([(L' + 1 + 1 + 1, o1), (L' + 1 + 1, o2), (L' + 1, o3), (422, tabObj pt)] ++ (new ++ own')), rfl, F9, ?_, ?_, ⟨?_, trivial⟩, qs ++ [q], k + 1, new ++ own', ?_, rfl, ?_, ?_, ?_, ?_, rfl, rfl, rfl⟩
  · intro e he
    refine p7 e ?_
    simp only [List.map_append, List.map_cons, List.map_nil, List.mem_append, List.mem_cons, List.not_mem_nil, or_false] at he ⊢
    grind
  · intro e he f hf
    simp only [List.mem_cons, List.not_mem_nil, or_false] at hf
    rcases List.mem_cons.mp he with rfl | he
    · rcases hf with rfl | rfl <;> k_ne
    rcases List.mem_append.mp he with he | he
    · simp only [List.mem_cons, List.not_mem_nil, or_false] at he
      rcases he with rfl | rfl | rfl | rfl <;> rcases hf with rfl | rfl <;> k_ne
    rcases List.mem_append.mp he with he | he
    · have h9 := p8 e he
      rcases hf with rfl | rfl <;> k_ne
    · rcases hf with rfl | rfl
      · exact hof e he _ (by simp)
      · exact hof e he _ (by simp)
  · exact .tail _ (List.mem_append_right _ (List.mem_append_right _ (hq4 _ (.head _))))
  · rw [List.length_append, hq1]; rfl
  · intro q' hq'
    rcases List.mem_append.mp hq' with hq' | hq'
    · exact (hq2 q' hq').mono fun e he => List.mem_append_right _ he
    · rw [List.mem_singleton.mp hq']; exact p6.mono fun e he => List.mem_append_left _ he
  · refine hq3.snoc (by rw [hq1]; exact hri) ?_
    rw [hq1]
    exact ⟨p2, p3, p4, p5⟩
  · exact fun e he => List.mem_append_right _ (hq4 e he)
  · intro e he a ha
    rcases List.mem_append.mp he with he | he
    · have h9 := p8 e he
      simp only [List.mem_cons, List.not_mem_nil, or_false] at ha
      rcases ha with rfl | rfl | rfl | rfl | rfl | rfl | rfl <;> k_ne
    · exact hof e he a ha
theorem zall : ∀ z4_1 z4_4 z4_8 z4_13 z4_14 z4_17 z4_21 z4_26 tk q new, zpart3.1 z4_1 z4_4 z4_8 z4_13 z4_14 z4_17 z4_21 z4_26 tk q new := fun z4_1 z4_4 z4_8 z4_13 z4_14 z4_17 z4_21 z4_26 tk q new => @epsH _ _ zc (by with_unfolding_all exact zat) (z4_1, z4_4, z4_8, z4_13, z4_14, z4_17, z4_21, z4_26, tk, q, new)
end z4
theorem zat : zpart2.1 z3_2 z3_7 h' st sd kt z3_11 z3_12 z3_15 z3_19 z3_23 z3_29 tkn := zpart3.2 ⟨z4.zall⟩
theorem zall : ∀ z3_2 z3_7 h' st sd kt z3_11 z3_12 z3_15 z3_19 z3_23 z3_29 tkn, zpart2.1 z3_2 z3_7 h' st sd kt z3_11 z3_12 z3_15 z3_19 z3_23 z3_29 tkn := fun z3_2 z3_7 h' st sd kt z3_11 z3_12 z3_15 z3_19 z3_23 z3_29 tkn => @epsH _ _ zc (by with_unfolding_all exact zat) (z3_2, z3_7, h', st, sd, kt, z3_11, z3_12, z3_15, z3_19, z3_23, z3_29, tkn)
end z3
theorem zat : zpart1.1.1 i m₁ h₁ tk₁ qs k own' r T₁ t₁ oe oi := zpart2.2 ⟨z3.zall⟩
theorem zall : ∀ i m₁ h₁ tk₁ qs k own' r T₁ t₁ oe oi, zpart1.1.1 i m₁ h₁ tk₁ qs k own' r T₁ t₁ oe oi := fun i m₁ h₁ tk₁ qs k own' r T₁ t₁ oe oi => @epsH _ _ zc (by with_unfolding_all exact zat) (i, m₁, h₁, tk₁, qs, k, own', r, T₁, t₁, oe, oi)
end z2
namespace z5
noncomputable def zc := eps (α := (Str → Option Value) × (Heap) × (Nat) × (List PRec) × (Nat) × (List (Addr × Obj))) ⟨(fun _ => default), {}, default, default, default, default⟩ (fun c => zpart1.1.2 c.1 c.2.1 c.2.2.1 c.2.2.2.1 c.2.2.2.2.1 c.2.2.2.2.2)
@[irreducible] noncomputable def m₁ := zc.1.1
@[irreducible] noncomputable def h₁ := zc.1.2.1
@[irreducible] noncomputable def tk₁ := zc.1.2.2.1
@[irreducible] noncomputable def qs := zc.1.2.2.2.1
@[irreducible] noncomputable def k := zc.1.2.2.2.2.1
@[irreducible] noncomputable def own' := zc.1.2.2.2.2.2
noncomputable def zpart5 : { R : ((Heap) → (Nat) → (List SRec) → (Addr) → (Addr) → (Addr) → (Addr) → (Tok) → (Tok) → (Tok) → (Obj) → (List (Str × Value)) → (List (Addr × Obj)) → (List (Addr × Obj)) → Prop) // Hide (∀ h9 tk9 ss un ud ul D9 k1 k2 k3 ob kvs nw R9, R h9 tk9 ss un ud ul D9 k1 k2 k3 ob kvs nw R9) → zpart1.1.2 m₁ h₁ tk₁ qs k own' } := by
  refine' ⟨_, fun hP6 => ?main⟩
  case main =>
    intro X T C TS ht0 ht1 ht2 R hlen hal hb0 XB TB hok FG' B' X' T' hT1 d1 d2 d3 la hq1 N₁ hq2 hq3 hq4 F₁
    repeat' (first | (k_unfold; (try dsimp only)) | (k_end; wrow_close) | ((first | with_reducible (k_here; (with_reducible show wpAny _ _ (call (Value.ref 399) [_, _]) _ _ _); k_dflt (refine wp_le (d := 490) (u := 3900) ?_ (Nat.le_of_ble_eq_true rfl) (Nat.le_of_ble_eq_true rfl)); k_dflt (refine' cpC w (CX.mk _ _ _ _ _ _ _ _) _ qs _ _ _ _ _ _ _ _ _ _ ?Bx37 ?Fx37 ?Xx37 ?Tx37 ?Nx37 ?Ix37 ?lenx37 ?ndx37 ?nex37 ?_; (case Nx37 => k_asm); (case Bx37 => k_asm); (case Fx37 => k_asm); (case Xx37 => k_asm); (case Tx37 => k_asm); (case Ix37 => exact fun q hq => (hq2 q hq).mono fun e he => .tail _ (.tail _ (.tail _ (.tail _ he)))); (case lenx37 => rw [hq1]; exact hlen); (case ndx37 => exact hq3.nodup hq1 hlen); (case nex37 => exact hq3.ne hq1 hlen)); intro h9 tk9 ss un ud ul D9 k1 k2 k3 ob kvs nw F9 N9 e11 e12 e13 e14 e15 e16 e17; k_dflt (refine stop_ ?_)) | walk1); (try ((with_reducible show wpAny _ _ (execs _ _) _ _ (Shared.mk _ _ _ (_ + 1) _)); refine tok_any ?_; intro tkn))) | (dsimp only; walk1) | (leave1; (try dsimp only)))
    unfold Stop
    have c1 : isCell o1 = true := by unfold isCell; rw [d1]
    have c2 : isCell o2 = true := by unfold isCell; rw [d2]
    have c3 : isCell o3 = true := by unfold isCell; rw [d3]
    have m1 := e14 _ (.tail _ (.head _))
    have m2 := e14 _ (.tail _ (.tail _ (.head _)))
    have m3 := e14 _ (.tail _ (.tail _ (.tail _ (.head _))))
    have m4 := e14 _ (.tail _ (.tail _ (.tail _ (.tail _ (.head _)))))
    refine cps fun zG zk => ?_
    obtain ⟨R9, N8, sq, sp, sr, of1, of2, of3, of4⟩ := resplit N9 (.tail _ (.tail _ (.tail _ (.tail _ m1)))) (.tail _ (.tail _ (.tail _ (.tail _ m2)))) (.tail _ (.tail _ (.tail _ (.tail _ m3)))) (.tail _ (.tail _ (.tail _ (.tail _ m4)))) c1 c2 c3 rfl
    refine zk ?_
    clear zk zG
    have u1 := sp _ (.head _) rfl (fun e => nomatch e)
    have u2 := sp _ (.tail _ (.head _)) rfl (fun e => nomatch e)
    have u3 : (ul, ob) ∈ R9 := by
      refine cps fun zG zk => ?_
      obtain ⟨es, ep, hc, hd, -⟩ := e15
      refine zk ?_
      clear zk zG
      exact sp _ (.tail _ (.tail _ (.head _))) (by unfold isCell; rw [hd]) (by rw [hc.1]; exact fun e => nomatch e)
    have u4 := sp _ (.tail _ (.tail _ (.tail _ (.head _)))) rfl (fun e => nomatch e)
    have m5 := e14 _ (.tail _ (.tail _ (.tail _ (.tail _ (.tail _ (hq4 _ (.tail _ (.head _))))))))
    have u5 := sp _ (.tail _ (.tail _ (.tail _ (.tail _ m5)))) rfl (fun e => nomatch e)
    have u6 : ∀ e ∈ own, e ∈ R9 := fun e he => sr e (List.mem_append_right [_, _, _, _] (e14 _ (List.mem_append_right [_, _, _, _, _] (hq4 _ (List.mem_append_right [_, _] he))))) (Nat.ne_of_lt (Nat.lt_trans (hT1 e he) (by exact (qlt (ql3 qls) qn3)))) (Nat.ne_of_lt (Nat.lt_trans (hT1 e he) (by exact (ql1 qls)))) (Nat.ne_of_lt (Nat.lt_trans (hT1 e he) (by exact qls))) (ht0 e he)
    have u7 : (rl, W.listOf (rs.map fun r => .ref r.ad).toArray nr) ∈ R9 := sp _ (List.mem_append_right [_, _, _, _] (e14 _ (List.mem_append_right [_, _, _, _, _] (hq4 _ (.head _))))) rfl (fun e => nomatch e)
    have TS9 : TabS R9 422 331 4 rq pt := TabS.mono TS fun e he hc hn => sq e (List.mem_append_right [_, _, _, _] (e14 _ (List.mem_append_right [_, _, _, _, _] (hq4 _ (List.mem_append_right [_, _] he))))) hc hn
    have hC9 := CodeHd.keeps C FG'.keep
    ((try clear N9))
    revert X T C ht0 ht1 ht2 R hlen hal hb0 XB TB hok B' X' T' d1 d2 d3 la hq1 hq3 F9 e11 e12 e13 e15 e16 e17 N8 sq sp sr of1 of2 of3 of4 u1 u2 u3 u4 u5 u6 u7 TS9 hC9
    exact hP6.out h9 tk9 ss un ud ul D9 k1 k2 k3 ob kvs nw R9
namespace z6
noncomputable def zc := eps (α := (Heap) × (Nat) × (List SRec) × (Addr) × (Addr) × (Addr) × (Addr) × (Tok) × (Tok) × (Tok) × (Obj) × (List (Str × Value)) × (List (Addr × Obj)) × (List (Addr × Obj))) ⟨{}, default, default, default, default, default, default, default, default, default, default, default, default, default⟩ (fun c => zpart5.1 c.1 c.2.1 c.2.2.1 c.2.2.2.1 c.2.2.2.2.1 c.2.2.2.2.2.1 c.2.2.2.2.2.2.1 c.2.2.2.2.2.2.2.1 c.2.2.2.2.2.2.2.2.1 c.2.2.2.2.2.2.2.2.2.1 c.2.2.2.2.2.2.2.2.2.2.1 c.2.2.2.2.2.2.2.2.2.2.2.1 c.2.2.2.2.2.2.2.2.2.2.2.2.1 c.2.2.2.2.2.2.2.2.2.2.2.2.2)
@[irreducible] noncomputable def h9 := zc.1.1
@[irreducible] noncomputable def tk9 := zc.1.2.1
@[irreducible] noncomputable def ss := zc.1.2.2.1
@[irreducible] noncomputable def un := zc.1.2.2.2.1
@[irreducible] noncomputable def ud := zc.1.2.2.2.2.1
@[irreducible] noncomputable def ul := zc.1.2.2.2.2.2.1
@[irreducible] noncomputable def D9 := zc.1.2.2.2.2.2.2.1
@[irreducible] noncomputable def k1 := zc.1.2.2.2.2.2.2.2.1
@[irreducible] noncomputable def k2 := zc.1.2.2.2.2.2.2.2.2.1
@[irreducible] noncomputable def k3 := zc.1.2.2.2.2.2.2.2.2.2.1
@[irreducible] noncomputable def ob := zc.1.2.2.2.2.2.2.2.2.2.2.1
@[irreducible] noncomputable def kvs := zc.1.2.2.2.2.2.2.2.2.2.2.2.1
@[irreducible] noncomputable def nw := zc.1.2.2.2.2.2.2.2.2.2.2.2.2.1
@[irreducible] noncomputable def R9 := zc.1.2.2.2.2.2.2.2.2.2.2.2.2.2
noncomputable def zpart6 : { R : ((Obj) → (Addr) → (Addr) → (Nat) → (Addr) → (Obj) → (Heap) → (Obj) → (Nat) → (Addr) → (Addr) → (Obj) → (Array Value) → (Tok) → (Value) → (Value) → (Heap) → (Nat) → Prop) // Hide (∀ oU ak lf cf td oA hA7 oL tk fr cr ocr vsr tr ctr dcr h' tk', R oU ak lf cf td oA hA7 oL tk fr cr ocr vsr tr ctr dcr h' tk') → zpart5.1 h9 tk9 ss un ud ul D9 k1 k2 k3 ob kvs nw R9 } := by
  refine' ⟨_, fun hP7 => ?main⟩
  case main =>
    intro X T C ht0 ht1 ht2 R hlen hal hb0 XB TB hok B' X' T' d1 d2 d3 la hq1 hq3 F9 e11 e12 e13 e15 e16 e17 N8 sq sp sr of1 of2 of3 of4 u1 u2 u3 u4 u5 u6 u7 TS9 hC9
    repeat' (first | (k_unfold; (try dsimp only)) | (k_end; wrow_close) | ((first | with_reducible ((with_reducible show wpAny _ _ (eval (Expr.Tuple ..) _) _ _ _); k_here; dsimp only) | with_reducible (k_here; (with_reducible show wpAny _ _ (call (Value.type _) [Value.ref _]) _ _ _); k_dflt (refine' list_copyK ?k1x39 ?k2x39 ?k3x39 ?_ ?zx39; (case k1x39 => k_asm); (case k2x39 => k_asm); (case k3x39 => refine News.isList (by k_asm) (by k_mem)); (case zx39 => size_fits); k_whole); intro _ _ _ _ _ l1; (try k_lt l1); (revert l1; intro _); (try k_sweep)) | with_reducible ((with_reducible show wpAny _ _ (exec (Stmt.FunctionDef ..) _) _ _ _); k_here; k_dflt (refine' nestDef_K ?d0x40 ?k0x40 ?a0x40 ?_; (case d0x40 => exact rfl); (case k0x40 => exact rfl); (case a0x40 => exact rfl)); k_dflt (refine' tab_make (c := 424) (P := 422) ?Fx40 ?Nx40 ?Tx40 ?Cx40 ?cdx40 ?Ux40 ?Sx40 ?clx40 ?_; (case Fx40 => k_asm); (case Nx40 => k_asm); (case Tx40 => k_asm); (case Cx40 => exact hC9); (case cdx40 => exact rfl); (case Ux40 => k_updF); (case Sx40 => exact TabS.mono TS9 (fun q hq _ _ => by repeat (first | exact hq | apply List.Mem.tail))); (case clx40 => exact rfl)); intro fr cr ocr vsr tr ctr dcr h' tk' F' N' dr1 dr2 lr0 lr1 lr2; k_dflt (refine stop_ ?_)) | walk1); (try ((with_reducible show wpAny _ _ (execs _ _) _ _ (Shared.mk _ _ _ (_ + 1) _)); refine tok_any ?_; intro tkn))) | (dsimp only; walk1) | (leave1; (try dsimp only)))
    rename_i hA1 oU dU tkU ak hA2 hTk lak lf cf hA3 hTf llf td hA4 hTt ltd hA5 hA6 oA dA hA7 oL F0 N0 dL
    unfold Stop
    ((try clear N0); (try clear F0))
    revert X T C ht0 ht1 ht2 R hlen hal hb0 XB TB hok B' X' T' hq1 hq3 e11 e12 e13 e15 e16 e17 sq sp sr u1 u2 u3 u4 u5 u6 u7 hC9 dU hTk lak hTf llf dA dL F' N' dr1 dr2 lr0
      lr1 lr2
    exact hP7.out oU ak lf cf td oA hA7 oL tk fr cr ocr vsr tr ctr dcr h' tk'
namespace z7
noncomputable def zc := eps (α := (Obj) × (Addr) × (Addr) × (Nat) × (Addr) × (Obj) × (Heap) × (Obj) × (Nat) × (Addr) × (Addr) × (Obj) × (Array Value) × (Tok) × (Value) × (Value) × (Heap) × (Nat)) ⟨default, default, default, default, default, default, {}, default, default, default, default, default, default, default, default, default, {}, default⟩ (fun c => zpart6.1 c.1 c.2.1 c.2.2.1 c.2.2.2.1 c.2.2.2.2.1 c.2.2.2.2.2.1 c.2.2.2.2.2.2.1 c.2.2.2.2.2.2.2.1 c.2.2.2.2.2.2.2.2.1 c.2.2.2.2.2.2.2.2.2.1 c.2.2.2.2.2.2.2.2.2.2.1 c.2.2.2.2.2.2.2.2.2.2.2.1 c.2.2.2.2.2.2.2.2.2.2.2.2.1 c.2.2.2.2.2.2.2.2.2.2.2.2.2.1 c.2.2.2.2.2.2.2.2.2.2.2.2.2.2.1 c.2.2.2.2.2.2.2.2.2.2.2.2.2.2.2.1 c.2.2.2.2.2.2.2.2.2.2.2.2.2.2.2.2.1 c.2.2.2.2.2.2.2.2.2.2.2.2.2.2.2.2.2)
@[irreducible] noncomputable def oU := zc.1.1
@[irreducible] noncomputable def ak := zc.1.2.1
@[irreducible] noncomputable def lf := zc.1.2.2.1
@[irreducible] noncomputable def cf := zc.1.2.2.2.1
@[irreducible] noncomputable def td := zc.1.2.2.2.2.1
@[irreducible] noncomputable def oA := zc.1.2.2.2.2.2.1
@[irreducible] noncomputable def hA7 := zc.1.2.2.2.2.2.2.1
@[irreducible] noncomputable def oL := zc.1.2.2.2.2.2.2.2.1
@[irreducible] noncomputable def tk := zc.1.2.2.2.2.2.2.2.2.1
@[irreducible] noncomputable def fr := zc.1.2.2.2.2.2.2.2.2.2.1
@[irreducible] noncomputable def cr := zc.1.2.2.2.2.2.2.2.2.2.2.1
@[irreducible] noncomputable def ocr := zc.1.2.2.2.2.2.2.2.2.2.2.2.1
@[irreducible] noncomputable def vsr := zc.1.2.2.2.2.2.2.2.2.2.2.2.2.1
@[irreducible] noncomputable def tr := zc.1.2.2.2.2.2.2.2.2.2.2.2.2.2.1
@[irreducible] noncomputable def ctr := zc.1.2.2.2.2.2.2.2.2.2.2.2.2.2.2.1
@[irreducible] noncomputable def dcr := zc.1.2.2.2.2.2.2.2.2.2.2.2.2.2.2.2.1
@[irreducible] noncomputable def h' := zc.1.2.2.2.2.2.2.2.2.2.2.2.2.2.2.2.2.1
@[irreducible] noncomputable def tk' := zc.1.2.2.2.2.2.2.2.2.2.2.2.2.2.2.2.2.2
noncomputable def zpart7 : { R : ((Str) → (List (Str × NameKind)) → (List (Str × Const)) → (Addr) → (Value) → (List (Str × Addr)) → (List Env) → (Around) → (Heap) → (Heap) → (Addr) → (Str → Option Value) → (Shared) → (List (Str × Tok)) → (Nat) → (Nat) → (Str) → (Str) → (Tok) → (Tok) → (Addr) → (Value) → (Value) → (Nat) → (List (Addr × Obj)) → (Value → Shared → Prop) → (Value → Shared → Prop) → Prop) × ((FuncData) → Prop) // Hide (∀ cn2 cnm2 cmo2 a2 ccd2 cl2 outer2 A2 base2 h2 L2 m2 z8_1 asked na2 nl2 word x t1 t2 pa v1 v2 npa own2 Q2 E2, R.1 cn2 cnm2 cmo2 a2 ccd2 cl2 outer2 A2 base2 h2 L2 m2 z8_1 asked na2 nl2 word x t1 t2 pa v1 v2 npa own2 Q2 E2) → Hide (∀ fd, R.2 fd) → zpart6.1 oU ak lf cf td oA hA7 oL tk fr cr ocr vsr tr ctr dcr h' tk' } := by
  refine' ⟨(_, _), fun hP8 hP9 => ?main⟩
  case main =>
    intro X T C ht0 ht1 ht2 R hlen hal hb0 XB TB hok B' X' T' hq1 hq3 e11 e12 e13 e15 e16 e17 sq sp sr u1 u2 u3 u4 u5 u6 u7 hC9 dU hTk lak hTf llf dA dL F' N' dr1 dr2 lr0
      lr1 lr2
    refine cps fun zG zk => ?_
    obtain ⟨fo, hfo, N7⟩ := name_head N'
    have hR : RepOk w p loose mean mg mb fr ak lf [(fr, fo), (cr, ocr), (L' + 1 + 1, oA), (L' + 1 + 1 + 1, oL)] := by
      refine ⟨?_⟩
      intro cn2 cnm2 cmo2 a2 ccd2 cl2 outer2 A2 base2 h2 L2 m2 s2 asked left na2 nl2 word x t1 t2 pa v1 v2 npa own2 Q2 E2 B2 F2 X2 T2 N2 hsub hnk hnl hne hpk hpl hasz hll2 hwx h1' h3'
      have s1 := hsub _ (.head _)
      have s2 := hsub _ (.tail _ (.head _))
      have s3 := hsub _ (.tail _ (.tail _ (.head _)))
      have s4 := hsub _ (.tail _ (.tail _ (.tail _ (.head _))))
      rw [hfo] at s1
      ((try clear N₁); (try clear F₁); (try clear T'); (try clear X'); (try clear B'); (try clear FG'); (try clear T); (try clear X); (try clear B); (try clear N); (try clear F); (try clear F9); (try clear N8); (try clear hfo); (try clear F'); (try clear N7); (try clear N'))
      rename_i z8_1
      revert C XB hC9 llf dA dL dr1 dr2 left B2 F2 X2 T2 N2 hnk hnl hpk hpl hasz hll2 hwx h1' h3' s1 s2 s3 s4
      exact hP8.out cn2 cnm2 cmo2 a2 ccd2 cl2 outer2 A2 base2 h2 L2 m2 z8_1 asked na2 nl2 word x t1 t2 pa v1 v2 npa own2 Q2 E2
    have hfo2 : ∃ fd, fo = ⟨.type "function", none, .func fd, #[]⟩ := ⟨_, hfo⟩
    obtain ⟨fd, hfd⟩ := hfo2
    refine zk ?_
    clear zk zG
    ((try clear hfo))
    subst hfd
    ((try clear N8); (try clear N'))
    revert X T C ht0 ht1 ht2 R hlen hal hb0 XB TB hok B' X' T' hq1 hq3 e11 e12 e13 e15 e16 e17 sq sp sr u1 u2 u3 u4 u5 u6 u7 hC9 dU hTk lak hTf llf dA F' dr1 dr2 lr0 lr1
      lr2 N7 hR
    exact hP9.out fd
namespace z8
noncomputable def zc := eps (α := (Str) × (List (Str × NameKind)) × (List (Str × Const)) × (Addr) × (Value) × (List (Str × Addr)) × (List Env) × (Around) × (Heap) × (Heap) × (Addr) × (Str → Option Value) × (Shared) × (List (Str × Tok)) × (Nat) × (Nat) × (Str) × (Str) × (Tok) × (Tok) × (Addr) × (Value) × (Value) × (Nat) × (List (Addr × Obj)) × (Value → Shared → Prop) × (Value → Shared → Prop)) ⟨default, default, default, default, default, default, default, {}, {}, {}, default, (fun _ => default), {}, default, default, default, default, default, default, default, default, default, default, default, default, (fun _ _ => True), (fun _ _ => True)⟩ (fun c => zpart7.1.1 c.1 c.2.1 c.2.2.1 c.2.2.2.1 c.2.2.2.2.1 c.2.2.2.2.2.1 c.2.2.2.2.2.2.1 c.2.2.2.2.2.2.2.1 c.2.2.2.2.2.2.2.2.1 c.2.2.2.2.2.2.2.2.2.1 c.2.2.2.2.2.2.2.2.2.2.1 c.2.2.2.2.2.2.2.2.2.2.2.1 c.2.2.2.2.2.2.2.2.2.2.2.2.1 c.2.2.2.2.2.2.2.2.2.2.2.2.2.1 c.2.2.2.2.2.2.2.2.2.2.2.2.2.2.1 c.2.2.2.2.2.2.2.2.2.2.2.2.2.2.2.1 c.2.2.2.2.2.2.2.2.2.2.2.2.2.2.2.2.1 c.2.2.2.2.2.2.2.2.2.2.2.2.2.2.2.2.2.1 c.2.2.2.2.2.2.2.2.2.2.2.2.2.2.2.2.2.2.1 c.2.2.2.2.2.2.2.2.2.2.2.2.2.2.2.2.2.2.2.1 c.2.2.2.2.2.2.2.2.2.2.2.2.2.2.2.2.2.2.2.2.1 c.2.2.2.2.2.2.2.2.2.2.2.2.2.2.2.2.2.2.2.2.2.1 c.2.2.2.2.2.2.2.2.2.2.2.2.2.2.2.2.2.2.2.2.2.2.1 c.2.2.2.2.2.2.2.2.2.2.2.2.2.2.2.2.2.2.2.2.2.2.2.1 c.2.2.2.2.2.2.2.2.2.2.2.2.2.2.2.2.2.2.2.2.2.2.2.2.1 c.2.2.2.2.2.2.2.2.2.2.2.2.2.2.2.2.2.2.2.2.2.2.2.2.2.1 c.2.2.2.2.2.2.2.2.2.2.2.2.2.2.2.2.2.2.2.2.2.2.2.2.2.2)
@[irreducible] noncomputable def cn2 := zc.1.1
@[irreducible] noncomputable def cnm2 := zc.1.2.1
@[irreducible] noncomputable def cmo2 := zc.1.2.2.1
@[irreducible] noncomputable def a2 := zc.1.2.2.2.1
@[irreducible] noncomputable def ccd2 := zc.1.2.2.2.2.1
@[irreducible] noncomputable def cl2 := zc.1.2.2.2.2.2.1
@[irreducible] noncomputable def outer2 := zc.1.2.2.2.2.2.2.1
@[irreducible] noncomputable def A2 := zc.1.2.2.2.2.2.2.2.1
@[irreducible] noncomputable def base2 := zc.1.2.2.2.2.2.2.2.2.1
@[irreducible] noncomputable def h2 := zc.1.2.2.2.2.2.2.2.2.2.1
@[irreducible] noncomputable def L2 := zc.1.2.2.2.2.2.2.2.2.2.2.1
@[irreducible] noncomputable def m2 := zc.1.2.2.2.2.2.2.2.2.2.2.2.1
@[irreducible] noncomputable def z8_1 := zc.1.2.2.2.2.2.2.2.2.2.2.2.2.1
@[irreducible] noncomputable def asked := zc.1.2.2.2.2.2.2.2.2.2.2.2.2.2.1
@[irreducible] noncomputable def na2 := zc.1.2.2.2.2.2.2.2.2.2.2.2.2.2.2.1
@[irreducible] noncomputable def nl2 := zc.1.2.2.2.2.2.2.2.2.2.2.2.2.2.2.2.1
@[irreducible] noncomputable def word := zc.1.2.2.2.2.2.2.2.2.2.2.2.2.2.2.2.2.1
@[irreducible] noncomputable def x := zc.1.2.2.2.2.2.2.2.2.2.2.2.2.2.2.2.2.2.1
@[irreducible] noncomputable def t1 := zc.1.2.2.2.2.2.2.2.2.2.2.2.2.2.2.2.2.2.2.1
@[irreducible] noncomputable def t2 := zc.1.2.2.2.2.2.2.2.2.2.2.2.2.2.2.2.2.2.2.2.1
@[irreducible] noncomputable def pa := zc.1.2.2.2.2.2.2.2.2.2.2.2.2.2.2.2.2.2.2.2.2.1
@[irreducible] noncomputable def v1 := zc.1.2.2.2.2.2.2.2.2.2.2.2.2.2.2.2.2.2.2.2.2.2.1
@[irreducible] noncomputable def v2 := zc.1.2.2.2.2.2.2.2.2.2.2.2.2.2.2.2.2.2.2.2.2.2.2.1
@[irreducible] noncomputable def npa := zc.1.2.2.2.2.2.2.2.2.2.2.2.2.2.2.2.2.2.2.2.2.2.2.2.1
@[irreducible] noncomputable def own2 := zc.1.2.2.2.2.2.2.2.2.2.2.2.2.2.2.2.2.2.2.2.2.2.2.2.2.1
@[irreducible] noncomputable def Q2 := zc.1.2.2.2.2.2.2.2.2.2.2.2.2.2.2.2.2.2.2.2.2.2.2.2.2.2.1
@[irreducible] noncomputable def E2 := zc.1.2.2.2.2.2.2.2.2.2.2.2.2.2.2.2.2.2.2.2.2.2.2.2.2.2.2
theorem zat : zpart7.1.1 cn2 cnm2 cmo2 a2 ccd2 cl2 outer2 A2 base2 h2 L2 m2 z8_1 asked na2 nl2 word x t1 t2 pa v1 v2 npa own2 Q2 E2 := by
  intro C XB hC9 llf dA dL dr1 dr2 left B2 F2 X2 T2 N2 hnk hnl hpk hpl hasz hll2 hwx h1' h3' s1 s2 s3 s4
  repeat' (first | (k_unfold; (try dsimp only)) | (k_end; wrow_close) | ((first | with_reducible ((with_reducible show wpAny _ _ (subscriptTail (Expr.Name ..) (Expr.Constant ..) (Value.ref _) (Value.int ..)) _ _ _); k_here; (with_unfolding_all refine' item_litK ?k1x41 ?k2x41 ?k3x41 ?k4x41 ?_ ?k6x41; (case k1x41 => refine News.isList (by k_asm) (by k_mem)); (case k2x41 => decide); (case k3x41 => decide); (case k4x41 => rfl); (case k6x41 => with_unfolding_all rfl); k_whole)) | with_reducible ((with_reducible show wpAny _ _ (binaryOp Operator.Add (Value.str ..) (Value.str ..)) _ _ _); k_here; k_dflt (refine' add_str (hsz := ?hzx42) ?_; (case hzx42 => (rw [← Str.length_append, PySem.sizeLine_eq]; exact Nat.le_trans hwx (by decide)))); intro tw' kw') | with_reducible ((with_reducible show wpAny _ _ (call (Value.builtin _) _) _ _ _); k_here; (try dsimp only [List.nil_append, List.cons_append]); k_dflt (refine' append_K ?k1x43 ?k2x43 ?k3x43 ?_ ?zx43; (case k1x43 => k_asm); (case k2x43 => k_asm); (case k3x43 => k_upd); (case zx43 => size_fits); k_whole); intro _ _ _; (try k_sweep)) | with_reducible ((with_reducible show wpAny _ _ (compareOp CmpOp.Eq (Value.ref _) (Value.ref _)) _ _ _); k_here; k_dflt (refine' eq_nil_K (left := left) ?Nx44 ?max44 ?mbx44 ?ux44 (fun hl9 => ?_) (fun b9 r9 hl9 => ?_); (case Nx44 => k_asm); (case max44 => k_mem); (case mbx44 => k_mem); (case ux44 => k_units)); (all_goals subst hl9)) | with_reducible ((with_reducible show wpAny _ _ (exec (Stmt.Raise ..) _) _ _ _); k_here; k_dflt (refine raise_exec rfl ?_)) | with_reducible (k_here; (with_reducible show wpAny _ _ (call (Value.ref 34) [Value.int 99 _]) _ _ _); k_dflt (refine wp_le (d := 580) (u := 4800) ?_ (Nat.le_of_ble_eq_true rfl) (Nat.le_of_ble_eq_true rfl)); k_dflt (refine' snob_call w _ _ _ _ _ _ _ _ _ _ _ _ _ _ _ _ _ ?Bx46 ?Fx46 ?Xx46 ?Nx46 ?Tx46 ?_; (case Nx46 => k_asm); (case Bx46 => k_asm); (case Fx46 => k_asm); (case Xx46 => k_asm); (case Tx46 => k_asm)); intro h9 tk9 e9 dx9 od9 tt9 F9 N9 hne9 hlt9 hap9 hod9; k_dflt (refine stop_ ?_)) | with_reducible ((with_reducible show wpAny _ _ (call (Value.builtin _) _) _ _ _); k_here; (try dsimp only [List.nil_append, List.cons_append]); (rename News _ _ _ _ => Np); (simp only [List.map_cons] at Np); (revert Np; intro _); k_dflt (refine' pop0_K ?Fx47 ?Nx47 ?Ux47 ?zx47 ?_; (case Fx47 => k_asm); (case Nx47 => k_asm); (case Ux47 => k_upd); (case zx47 => (simp only [List.length_map, List.length_cons] at *; exact (qadd hll2)))); intro _ _ _) | walk1); (try ((with_reducible show wpAny _ _ (execs _ _) _ _ (Shared.mk _ _ _ (_ + 1) _)); refine tok_any ?_; intro tkn))) | (dsimp only; walk1) | (leave1; (try dsimp only)))
  · unfold Stop
    have he9 := (N9 _ (.tail _ (.head _)))
    refine ⟨e9, dx9, tt9, rfl, ?xx, he9.1, ?_⟩
    case xx => k_in
    have ha9 : ∀ q ∈ (dx9, od9) :: _, q.1 ≠ e9 := fun q hq => by
      rcases List.mem_cons.mp hq with rfl | hq
      · exact hne9
      · exact hap9 q hq
    (try k_unfold)
    (try dsimp only)
    rename Below _ _ _ _ => B9
    refine throw_first B9 F9 rfl rfl he9.1 he9.2.2 (led := (dx9, od9) :: _) (fun q hq => ?_) ha9 ?_
    · rcases List.mem_cons.mp hq with rfl | hq
      · exact N9 _ (.head _)
      · exact N9 _ (.tail _ (.tail _ hq))
    · intro h5 T5 U5
      rename Fr h2 L2 _ m2 => FG2
      simp only [List.map_nil, List.push_toArray] at T5
      refine h3' rfl _ _ _ tw' (na2 + 1) _ _ _ _ _ FG2 (Thrown.sub T5 ?_) U5 hod9
      simp only [List.map_append, List.map_cons, List.map_nil]
      intro q hq
      repeat (rcases List.mem_cons.mp hq with rfl | hq; (first | k_mem))
      repeat (first | exact hq | apply List.Mem.tail)
  · rename _ = (1 : Int) => hb1
    rename News _ _ _ _ => Np
    rename Fr _ _ _ _ => Fp
    simp only [List.push_toArray] at Np
    have hN := news_sub (led' := (pa, W.listOf #[.str x t2, v1, v2] npa) :: (ak, W.listOf ((asked ++ [(word ++ x, tw')]).map strV).toArray (na2 + 1)) :: (lf, W.listOf (r9.map intV).toArray (nl2 + 1)) :: own2) Np (by
      simp only [List.map_append, List.map_cons, List.map_nil]
      intro q hq
      repeat (rcases List.mem_cons.mp hq with rfl | hq; (first | k_mem))
      repeat (first | exact hq | apply List.Mem.tail))
    have h9 := fun ty tz => h1' _ _ rfl _ ty tw' tz _ _ Fp hN
    simp only [if_pos hb1] at h9
    exact h9 _ _
  · rename ¬ (_ = (1 : Int)) => hb1
    rename News _ _ _ _ => Np
    rename Fr _ _ _ _ => Fp
    simp only [List.push_toArray] at Np
    have hN := news_sub (led' := (pa, W.listOf #[.str x t2, v1, v2] npa) :: (ak, W.listOf ((asked ++ [(word ++ x, tw')]).map strV).toArray (na2 + 1)) :: (lf, W.listOf (r9.map intV).toArray (nl2 + 1)) :: own2) Np (by
      simp only [List.map_append, List.map_cons, List.map_nil]
      intro q hq
      repeat (rcases List.mem_cons.mp hq with rfl | hq; (first | k_mem))
      repeat (first | exact hq | apply List.Mem.tail))
    have h9 := fun ty => h1' _ _ rfl _ ty tw' 0 _ _ Fp hN
    simp only [if_neg hb1] at h9
    exact h9 _
theorem zall : ∀ cn2 cnm2 cmo2 a2 ccd2 cl2 outer2 A2 base2 h2 L2 m2 z8_1 asked na2 nl2 word x t1 t2 pa v1 v2 npa own2 Q2 E2, zpart7.1.1 cn2 cnm2 cmo2 a2 ccd2 cl2 outer2 A2 base2 h2 L2 m2 z8_1 asked na2 nl2 word x t1 t2 pa v1 v2 npa own2 Q2 E2 := fun cn2 cnm2 cmo2 a2 ccd2 cl2 outer2 A2 base2 h2 L2 m2 z8_1 asked na2 nl2 word x t1 t2 pa v1 v2 npa own2 Q2 E2 => @epsH _ _ zc (by with_unfolding_all exact zat) (cn2, cnm2, cmo2, a2, ccd2, cl2, outer2, A2, base2, h2, L2, m2, z8_1, asked, na2, nl2, word, x, t1, t2, pa, v1, v2, npa, own2, Q2, E2)
end z8
namespace z9
noncomputable def zc := eps (α := (FuncData)) ⟨default⟩ zpart7.1.2
@[irreducible] noncomputable def fd := zc.1
noncomputable def zpart9 : { R : ((Heap) → (Nat) → (List (Addr × Obj)) → (Heap) → Prop) // Hide (∀ z10_1 tkn B9 hh₂, R z10_1 tkn B9 hh₂) → zpart7.1.2 fd } := by
  refine' ⟨_, fun hP10 => ?main⟩
  case main =>
    intro X T C ht0 ht1 ht2 R hlen hal hb0 XB TB hok B' X' T' hq1 hq3 e11 e12 e13 e15 e16 e17 sq sp sr u1 u2 u3 u4 u5 u6 u7 hC9 dU hTk lak hTf llf dA F' dr1 dr2 lr0 lr1
      lr2 N7 hR
    repeat' (first | (k_unfold; (try dsimp only)) | (k_end; wrow_close) | ((first | with_reducible ((with_reducible show wpAny _ _ (eval (Expr.ListComp ..) _) _ _ _); k_here; k_dflt (refine ListComp_keys (by k_asm) (by rfl) (by decide) (by rfl) (by decide) (by rfl) ?_)) | with_reducible ((with_reducible show SrcK ..); k_dflt (refine stop_ ?_)) | walk1); (try ((with_reducible show wpAny _ _ (execs _ _) _ _ (Shared.mk _ _ _ (_ + 1) _)); refine tok_any ?_; intro tkn))) | (dsimp only; walk1) | (leave1; (try dsimp only)))
    unfold Stop
    rename News _ _ _ _ => Nq
    rename Fr _ _ _ _ => Fq
    refine cps fun zG zk => ?_
    obtain ⟨B9, hB9, Nq'⟩ := name_led Nq
    refine zk ?_
    clear zk zG
    have w1 : (L' + 1, oU) ∈ B9 := by rw [hB9]; k_mem
    have w2 : (un, instObj 334 ud) ∈ B9 := by rw [hB9]; k_mem
    have w3 : (ud, unitD w.params k1 k2 k3 tk₁ D9 ul) ∈ B9 := by rw [hB9]; k_mem
    have w4 : (ul, ob) ∈ B9 := by rw [hB9]; k_mem
    have hnd9 := hq3.nodup hq1 hlen
    refine ⟨ul, ob, kvs, B9, rfl, rfl, Fq, Nq', w4, e17, e15, by rw [e16.len, PySem.sizeLine_eq]; exact (q16 (qele hq1 hlen) (by decide)), fun s₂ hs₂ => ?_⟩
    refine cps fun zG zk => ?_
    obtain ⟨hh₂, rfl⟩ := hs₂
    refine zk ?_
    clear zk zG
    rename_i z10_1
    revert X T C ht0 ht1 ht2 R hlen hal hb0 XB TB hok B' X' T' hq1 hq3 e11 e12 e13 e15 e16 sq sp sr u1 u2 u3 u4 u5 u6 u7 hC9 dU hTk lak hTf llf dA dr1 dr2 lr0 lr1 lr2 hR
      hB9 Nq' w1 w2 w3 w4 hnd9
    exact hP10.out z10_1 tkn B9 hh₂
namespace z10
noncomputable def zc := eps (α := (Heap) × (Nat) × (List (Addr × Obj)) × (Heap)) ⟨{}, default, default, {}⟩ (fun c => zpart9.1 c.1 c.2.1 c.2.2.1 c.2.2.2)
@[irreducible] noncomputable def z10_1 := zc.1.1
@[irreducible] noncomputable def tkn := zc.1.2.1
@[irreducible] noncomputable def B9 := zc.1.2.2.1
@[irreducible] noncomputable def hh₂ := zc.1.2.2.2
noncomputable def zpart10 : { R : ((Nat) → (List Value) → (Addr) → (Obj) → (Addr) → (Obj) → (Addr) → (Str → Option Value) → (Heap) → (Nat) → (Value → Shared → Prop) → (List (Str × Value)) → (List (Addr × Obj)) → (Str) → (Tok) → (Tok) → Prop) × ((List Value) → (List (Str × Value)) → (List (Addr × Obj)) → (Addr) → (Heap) → (Nat) → (List (Addr × Obj)) → Prop) // Hide (∀ i ys I9 oI C9 oC DD m₂ h₂ tk₂ E' kvs2 new ky ty ti9, R.1 i ys I9 oI C9 oC DD m₂ h₂ tk₂ E' kvs2 new ky ty ti9) → Hide (∀ ys kvs2 new Dk h₂ tk₂ O, R.2 ys kvs2 new Dk h₂ tk₂ O) → zpart9.1 z10_1 tkn B9 hh₂ } := by
  refine' ⟨(_, _), fun hP11 hP12 => ?main⟩
  case main =>
    intro X T C ht0 ht1 ht2 R hlen hal hb0 XB TB hok B' X' T' hq1 hq3 e11 e12 e13 e15 e16 sq sp sr u1 u2 u3 u4 u5 u6 u7 hC9 dU hTk lak hTf llf dA dr1 dr2 lr0 lr1 lr2 hR
      hB9 Nq' w1 w2 w3 w4 hnd9
    refine compRest_ind (LInv (qs.map (·.la)) un B9) ?_ ?_ _ 0 [] B9 (Nat.zero_add _) ⟨[], [], rfl, fun e he => (nomatch he), rfl, rfl, fun k hk => absurd hk (Nat.not_lt_zero k)⟩
    · intro i ys news hi hv v I9 oI C9 oC DD m₂ h₂ tk₂ E' hP hC hx F₂ N₂ off ne
      refine cps fun zG zk => ?_
      obtain ⟨kvs2, new, rfl, hB, hl1, hl2, hf⟩ := hv
      obtain ⟨ky, yv, ty, hk, rfl⟩ := hP
      refine zk ?_
      clear zk zG
      rw [e16.len] at hi
      refine cps fun zG zk => ?_
      obtain ⟨la9, ti9, g1, g2, hval⟩ := e16.get hnd9 hi
      refine zk ?_
      clear zk zG
      rw [g2] at hk
      cases hk
      have x1 : (L' + 1, oU) ∈ new ++ B9 := List.mem_append_right _ w1
      have x2 : (un, instObj 334 ud) ∈ new ++ B9 := List.mem_append_right _ w2
      have x3 : (ud, unitD w.params k1 k2 k3 tk₁ D9 ul) ∈ new ++ B9 := List.mem_append_right _ w3
      have x4 : (ul, ob) ∈ new ++ B9 := List.mem_append_right _ w4
      revert X C XB X' e15 hC9 dU hC F₂ N₂ off hB hl1 hl2 hf hx g1 hval x1 x2 x3 x4
      exact hP11.out i ys I9 oI C9 oC DD m₂ h₂ tk₂ E' kvs2 new ky ty ti9
    · intro ys news hv
      refine cps fun zG zk => ?_
      obtain ⟨kvs2, new, rfl, hB, hl1, hl2, hf⟩ := hv
      refine zk ?_
      clear zk zG
      rw [e16.len] at hl1 hl2 hf
      unfold LCg.FinE
      intro Dk h₂ tk₂ F₂ N₂ o1
      have hlen2 : ys.length = kvs2.length := hl2.trans hl1.symm
      have hkn : kvs2.map (·.1) = qs.map (·.la) := by
        refine List.ext_getElem? fun k => ?_
        rcases Nat.lt_or_ge k qs.length with hk | hk
        · refine cps fun zG zk => ?_
          obtain ⟨T, ta, t, tk, la, f1, f2, f3, f4, f5⟩ := hf k hk
          refine zk ?_
          clear zk zG
          rw [List.getElem?_map, f3, f1]; rfl
        · rw [List.getElem?_eq_none (by rw [List.length_map]; exact (qele hl1 hk)), List.getElem?_eq_none (by rw [List.length_map]; exact hk)]
      have hnd2 : (kvs2.map (·.1)).Nodup := by rw [hkn]; exact hnd9
      have q1 : (fr, (⟨.type "function", none, .func fd, #[]⟩ : Obj)) ∈ B9 := by rw [hB9]; repeat (first | exact List.Mem.head _ | apply List.Mem.tail)
      have q2 : (cr, ocr) ∈ B9 := by rw [hB9]; repeat (first | exact List.Mem.head _ | apply List.Mem.tail)
      have q3 : (lf, W.listOf (ans.map intV).toArray cf) ∈ B9 := by rw [hB9]; repeat (first | exact List.Mem.head _ | apply List.Mem.tail)
      have q4 : (ak, W.listOf #[] 0) ∈ B9 := by rw [hB9]; repeat (first | exact List.Mem.head _ | apply List.Mem.tail)
      have q5 : (L' + 1 + 1 + 1, oL) ∈ B9 := by rw [hB9]; repeat (first | exact List.Mem.head _ | apply List.Mem.tail)
      have q6 : (L' + 1 + 1, oA) ∈ B9 := by rw [hB9]; repeat (first | exact List.Mem.head _ | apply List.Mem.tail)
      have q7 : (422, tabObj #[rawInt (331 : Nat), rawInt (4 : Nat), .ref cr]) ∈ B9 := by rw [hB9]; repeat (first | exact List.Mem.head _ | apply List.Mem.tail)
      have q8 : ∀ e ∈ R9, e ∈ B9 := fun e he => by rw [hB9]; repeat (first | exact he | apply List.Mem.tail)
      have frlt : ∀ e ∈ R9, @LT.lt Nat _ e.1 fr := fun e he => lr1 e (by repeat (first | exact he | apply List.Mem.tail))
      have frl : @LT.lt Nat _ lf fr ∧ @LT.lt Nat _ ak fr := ⟨lr1 (lf, _) (by repeat (first | exact List.Mem.head _ | apply List.Mem.tail)), lr1 (ak, _) (by repeat (first | exact List.Mem.head _ | apply List.Mem.tail))⟩
      have crk : cr ≠ ak := news_ne Nq' q2 q4 (fun e => by rw [e] at dr1; cases dr1)
      have crf : cr ≠ lf := news_ne Nq' q2 q3 (fun e => by rw [e] at dr1; cases dr1)
      refine cps fun zG zk => ?_
      obtain ⟨O, hO⟩ : ∃ O : List (Addr × Obj), O = new ++ ((fr, (⟨.type "function", none, .func fd, #[]⟩ : Obj)) :: (cr, ocr) :: (L' + 1 + 1 + 1, oL) :: (L' + 1 + 1, oA) :: (L' + 1, oU) :: (422, tabObj #[rawInt (331 : Nat), rawInt (4 : Nat), .ref cr]) :: R9) := ⟨_, rfl⟩
      refine zk ?_
      clear zk zG
      have N3 : News g' L' h₂ ((Dk, LCg.lst ys) :: (lf, W.listOf (ans.map intV).toArray cf) :: (ak, W.listOf #[] 0) :: O) := news_sub N₂ (fun q hq => by
        rcases List.mem_cons.mp hq with rfl | hq
        · exact .head _
        rcases List.mem_cons.mp hq with rfl | hq
        · exact .tail _ (List.mem_append_right _ q3)
        rcases List.mem_cons.mp hq with rfl | hq
        · exact .tail _ (List.mem_append_right _ q4)
        rw [hO] at hq
        rcases List.mem_append.mp hq with hq | hq
        · exact .tail _ (List.mem_append_left _ hq)
        · refine .tail _ (List.mem_append_right _ ?_)
          simp only [List.mem_cons] at hq
          rcases hq with rfl | rfl | rfl | rfl | rfl | rfl | hq
          · exact q1
          · exact q2
          · exact q5
          · exact q6
          · exact w1
          · exact q7
          · exact q8 _ hq)
      have ofl : ∀ e ∈ O, e.1 ≠ lf := fun e he => by
        rw [hO] at he
        rcases List.mem_append.mp he with he | he
        · exact Nat.ne_of_gt (hB e he _ q3)
        · simp only [List.mem_cons] at he
          rcases he with rfl | rfl | rfl | rfl | rfl | rfl | he
          · exact Nat.ne_of_gt frl.1
          · exact crf
          · k_ne
          · k_ne
          · k_ne
          · k_ne
          · exact Nat.ne_of_lt (hTf e he)
      have ofk : ∀ e ∈ O, e.1 ≠ ak := fun e he => by
        rw [hO] at he
        rcases List.mem_append.mp he with he | he
        · exact Nat.ne_of_gt (hB e he _ q4)
        · simp only [List.mem_cons] at he
          rcases he with rfl | rfl | rfl | rfl | rfl | rfl | he
          · exact Nat.ne_of_gt frl.2
          · exact crk
          · k_ne
          · k_ne
          · k_ne
          · k_ne
          · exact Nat.ne_of_lt (hTk e he)
      have hRO : ∀ e ∈ R9, e ∈ O := fun e he => by rw [hO]; exact List.mem_append_right _ (.tail _ (.tail _ (.tail _ (.tail _ (.tail _ (.tail _ he))))))
      have hNO : ∀ e ∈ new, e ∈ O := fun e he => by rw [hO]; exact List.mem_append_left _ he
      have y1 : (fr, (⟨.type "function", none, .func fd, #[]⟩ : Obj)) ∈ O := by rw [hO]; exact List.mem_append_right _ (.head _)
      have y2 : (cr, ocr) ∈ O := by rw [hO]; exact List.mem_append_right _ (.tail _ (.head _))
      have y3 : (L' + 1 + 1 + 1, oL) ∈ O := by rw [hO]; exact List.mem_append_right _ (.tail _ (.tail _ (.head _)))
      have y4 : (L' + 1 + 1, oA) ∈ O := by rw [hO]; exact List.mem_append_right _ (.tail _ (.tail _ (.tail _ (.head _))))
      have y5 : (L' + 1, oU) ∈ O := by rw [hO]; exact List.mem_append_right _ (.tail _ (.tail _ (.tail _ (.tail _ (.head _)))))
      have y6 : (422, tabObj #[rawInt (331 : Nat), rawInt (4 : Nat), .ref cr]) ∈ O := by rw [hO]; exact List.mem_append_right _ (.tail _ (.tail _ (.tail _ (.tail _ (.tail _ (.head _))))))
      have z1 := hRO _ u1
      have z2 := hRO _ u2
      have z3 := hRO _ u3
      have z4 := hRO _ u4
      have z5 := hRO _ u5
      have z6 : ∀ e ∈ own, e ∈ O := fun e he => hRO _ (u6 e he)
      have z7 := hRO _ u7
      ((try clear hTk); (try clear hTf); (try clear hB); (try clear hB9); (try clear u5); (try clear u4); (try clear u3); (try clear u2); (try clear u1); (try clear frl); (try clear frlt); (try clear w4); (try clear w3); (try clear w2); (try clear w1); (try clear q8); (try clear q7); (try clear q6); (try clear q5); (try clear q4); (try clear q3); (try clear q2); (try clear q1); (try clear Nq); (try clear Nq'); (try clear N₂); (try clear hO))
      revert X T C ht0 ht1 ht2 R hlen hal hb0 XB TB hok B' X' T' hq1 hq3 e11 e12 e13 sq sp sr hC9 dU llf dA dr1 dr2 lr0 lr1 lr2 hR hl1 hl2 hf F₂ hlen2 hnd2 N3 ofl ofk hRO
        hNO y1 y2 y3 y4 y5 y6 z1 z2 z4 z5 z6 z7
      exact hP12.out ys kvs2 new Dk h₂ tk₂ O
namespace z11
noncomputable def zc := eps (α := (Nat) × (List Value) × (Addr) × (Obj) × (Addr) × (Obj) × (Addr) × (Str → Option Value) × (Heap) × (Nat) × (Value → Shared → Prop) × (List (Str × Value)) × (List (Addr × Obj)) × (Str) × (Tok) × (Tok)) ⟨default, default, default, default, default, default, default, (fun _ => default), {}, default, (fun _ _ => True), default, default, default, default, default⟩ (fun c => zpart10.1.1 c.1 c.2.1 c.2.2.1 c.2.2.2.1 c.2.2.2.2.1 c.2.2.2.2.2.1 c.2.2.2.2.2.2.1 c.2.2.2.2.2.2.2.1 c.2.2.2.2.2.2.2.2.1 c.2.2.2.2.2.2.2.2.2.1 c.2.2.2.2.2.2.2.2.2.2.1 c.2.2.2.2.2.2.2.2.2.2.2.1 c.2.2.2.2.2.2.2.2.2.2.2.2.1 c.2.2.2.2.2.2.2.2.2.2.2.2.2.1 c.2.2.2.2.2.2.2.2.2.2.2.2.2.2.1 c.2.2.2.2.2.2.2.2.2.2.2.2.2.2.2)
@[irreducible] noncomputable def i := zc.1.1
@[irreducible] noncomputable def ys := zc.1.2.1
@[irreducible] noncomputable def I9 := zc.1.2.2.1
@[irreducible] noncomputable def oI := zc.1.2.2.2.1
@[irreducible] noncomputable def C9 := zc.1.2.2.2.2.1
@[irreducible] noncomputable def oC := zc.1.2.2.2.2.2.1
@[irreducible] noncomputable def DD := zc.1.2.2.2.2.2.2.1
@[irreducible] noncomputable def m₂ := zc.1.2.2.2.2.2.2.2.1
@[irreducible] noncomputable def h₂ := zc.1.2.2.2.2.2.2.2.2.1
@[irreducible] noncomputable def tk₂ := zc.1.2.2.2.2.2.2.2.2.2.1
@[irreducible] noncomputable def E' := zc.1.2.2.2.2.2.2.2.2.2.2.1
@[irreducible] noncomputable def kvs2 := zc.1.2.2.2.2.2.2.2.2.2.2.2.1
@[irreducible] noncomputable def new := zc.1.2.2.2.2.2.2.2.2.2.2.2.2.1
@[irreducible] noncomputable def ky := zc.1.2.2.2.2.2.2.2.2.2.2.2.2.2.1
@[irreducible] noncomputable def ty := zc.1.2.2.2.2.2.2.2.2.2.2.2.2.2.2.1
@[irreducible] noncomputable def ti9 := zc.1.2.2.2.2.2.2.2.2.2.2.2.2.2.2.2
theorem zat : zpart10.1.1 i ys I9 oI C9 oC DD m₂ h₂ tk₂ E' kvs2 new ky ty ti9 := by
  intro X C XB X' e15 hC9 dU hC F₂ N₂ off hB hl1 hl2 hf hx g1 hval x1 x2 x3 x4
  repeat' (first | (k_unfold; (try dsimp only)) | (k_end; wrow_close) | ((first | with_reducible ((with_reducible show wpAny _ _ (eval (Expr.Tuple ..) _) _ _ _); k_here; dsimp only) | with_reducible ((with_reducible show wpAny _ _ (subscriptTail (Expr.Attribute ..) (Expr.Name ..) (Value.ref _) (Value.str ..)) _ _ _); k_here; k_dflt (refine' dict_tail ?Nx51 ?mx51 e15 hval ?_; (case Nx51 => k_asm); (case mx51 => k_mem))) | with_reducible ((with_reducible show LCg.CompEnd ..); k_dflt (refine stop_ ?_)) | walk1); (try ((with_reducible show wpAny _ _ (execs _ _) _ _ (Shared.mk _ _ _ (_ + 1) _)); refine tok_any ?_; intro tkn))) | (dsimp only; walk1) | (leave1; (try dsimp only)))
  unfold Stop
  rename News _ _ _ _ => Ne9
  rename Fr _ _ _ _ => Fe9
  (with_reducible rename Lts (new ++ B9) _ => hz1)
  have hz1' := fun (b : Addr × Obj) (hb : b ∈ B9) => Lts.at hz1 (List.mem_append_right new hb)
  ((try clear hz1))
  (with_reducible rename Lts (new ++ B9) _ => hz2)
  have hz2' := fun (b : Addr × Obj) (hb : b ∈ B9) => Lts.at hz2 (List.mem_append_right new hb)
  exact comp_close2 Fe9 Ne9 (by refine ⟨?_, ?_, ?_⟩ <;> (first | exact (And.left (And.right (by assumption))) | exact (And.left (And.right (And.right (by assumption)))) | exact (And.left (And.right (And.right (And.right (by assumption))))) | omega)) (by refine ⟨?_, ?_, ?_⟩ <;> (first | exact (And.left (by assumption)) | exact (And.left (And.right (by assumption))) | exact (And.left (And.right (And.right (by assumption)))) | omega)) off (.tail _ (.tail _ x4)) (LInv.snoc hB hl1 hl2 hf g1 hz1' hz2')
theorem zall : ∀ i ys I9 oI C9 oC DD m₂ h₂ tk₂ E' kvs2 new ky ty ti9, zpart10.1.1 i ys I9 oI C9 oC DD m₂ h₂ tk₂ E' kvs2 new ky ty ti9 := fun i ys I9 oI C9 oC DD m₂ h₂ tk₂ E' kvs2 new ky ty ti9 => @epsH _ _ zc (by with_unfolding_all exact zat) (i, ys, I9, oI, C9, oC, DD, m₂, h₂, tk₂, E', kvs2, new, ky, ty, ti9)
end z11
namespace z12
noncomputable def zc := eps (α := (List Value) × (List (Str × Value)) × (List (Addr × Obj)) × (Addr) × (Heap) × (Nat) × (List (Addr × Obj))) ⟨default, default, default, default, {}, default, default⟩ (fun c => zpart10.1.2 c.1 c.2.1 c.2.2.1 c.2.2.2.1 c.2.2.2.2.1 c.2.2.2.2.2.1 c.2.2.2.2.2.2)
@[irreducible] noncomputable def ys := zc.1.1
@[irreducible] noncomputable def kvs2 := zc.1.2.1
@[irreducible] noncomputable def new := zc.1.2.2.1
@[irreducible] noncomputable def Dk := zc.1.2.2.2.1
@[irreducible] noncomputable def h₂ := zc.1.2.2.2.2.1
@[irreducible] noncomputable def tk₂ := zc.1.2.2.2.2.2.1
@[irreducible] noncomputable def O := zc.1.2.2.2.2.2.2
noncomputable def zpart12 : { R : ((Addr) → (Obj) → (Addr) → (Addr) → (Heap) → (Addr) → (Heap) → (Nat) → (Heap) → (Nat) → (Heap) → (Nat) → (Addr) → (Heap) → (Heap) → (Heap) → (Nat) → Prop) // Hide (∀ dd od2 z13_2 z13_3 z13_8 z13_9 z13_10 tk z13_14 z13_15 z13_16 z13_17 z13_18 z13_19 z13_22 z13_28 tkn, R dd od2 z13_2 z13_3 z13_8 z13_9 z13_10 tk z13_14 z13_15 z13_16 z13_17 z13_18 z13_19 z13_22 z13_28 tkn) → zpart10.1.2 ys kvs2 new Dk h₂ tk₂ O } := by
  refine' ⟨_, fun hP13 => ?main⟩
  case main =>
    intro X T C ht0 ht1 ht2 R hlen hal hb0 XB TB hok B' X' T' hq1 hq3 e11 e12 e13 sq sp sr hC9 dU llf dA dr1 dr2 lr0 lr1 lr2 hR hl1 hl2 hf F₂ hlen2 hnd2 N3 ofl ofk hRO
      hNO y1 y2 y3 y4 y5 y6 z1 z2 z4 z5 z6 z7
    have hpp2 : ∀ (i : Nat) (k : Str) (v : Value), kvs2[i]? = some (k, v) → ∃ (T : Addr) (t : Tok) (n : Nat), ys[i]? = some (.ref T) ∧ (T, ({ cls := .type "tuple", data := .seq #[.str k t, v] n } : Obj)) ∈ (Dk, LCg.lst ys) :: (lf, W.listOf (ans.map intV).toArray cf) :: (ak, W.listOf #[] 0) :: O := fun i k v hi => by
      have hlt := (List.getElem?_eq_some_iff.mp hi).1
      refine cps fun zG zk => ?_
      obtain ⟨T, ta, t, tk, la, f1, f2, f3, f4, f5⟩ := hf i (by exact (qlef hlt hl1))
      refine zk ?_
      clear zk zG
      rw [f3] at hi; cases hi
      exact ⟨T, t, 0, f2, .tail _ (.tail _ (.tail _ (hNO _ f4)))⟩
    repeat' (first | (k_unfold; (try dsimp only)) | (k_end; wrow_close) | ((first | with_reducible ((with_reducible show wpAny _ _ (call (Value.type _) _) _ _ _); k_here; k_dflt (refine' call_dict_pairs (kvs := kvs2) rfl ?Fx53 ?Nx53 ?mx53 ?bigx53 ?lenx53 ?szx53 ?ndx53 ?hpx53 ?_; (case Fx53 => k_asm); (case Nx53 => k_asm); (case mx53 => k_mem); (case bigx53 => exact modules_low (Top.nolimit (by k_asm))); (case lenx53 => exact hlen2); (case szx53 => exact (q1k (qele hl1 (qele hq1 hlen)) (by decide))); (case ndx53 => exact hnd2); (case hpx53 => exact hpp2)); intro h9 tk9 dd od2 F9 N9 ld9 sd9 hd9; k_lt ld9) | with_reducible (k_here; (with_reducible show wpAny _ _ (call (Value.ref 296) _) _ _ _); k_dflt (refine stop_ ?_)) | walk1); (try ((with_reducible show wpAny _ _ (execs _ _) _ _ (Shared.mk _ _ _ (_ + 1) _)); refine tok_any ?_; intro tkn))) | (dsimp only; walk1) | (leave1; (try dsimp only)))
    unfold Stop
    rename_i z13_1 z13_2 z13_3 z13_4 z13_5 z13_6 z13_7 z13_8 z13_9 z13_10 z13_11 z13_12 z13_13 z13_14 z13_15 z13_16 z13_17 z13_18 z13_19 z13_20 z13_21 z13_22 z13_23 z13_24
      z13_25 z13_26 z13_27 z13_28 z13_29 z13_30
    revert X T C ht0 ht1 ht2 R hlen hal hb0 XB TB hok B' X' hq1 hq3 e11 e12 e13 sq sp sr hC9 dU llf dA dr1 dr2 lr0 lr1 lr2 hR hl1 hl2 hf hnd2 ofl ofk hRO hNO y1 y2 y3 y4 y5
      y6 z1 z2 z4 z5 z6 z7 sd9 hd9 z13_1 ld9 z13_5 z13_6 z13_7 z13_11 z13_12 z13_20 z13_21 z13_23 z13_24 z13_26 z13_27 z13_29 z13_30
    exact hP13.out dd od2 z13_2 z13_3 z13_8 z13_9 z13_10 tk z13_14 z13_15 z13_16 z13_17 z13_18 z13_19 z13_22 z13_28 tkn
namespace z13
noncomputable def zc := eps (α := (Addr) × (Obj) × (Addr) × (Addr) × (Heap) × (Addr) × (Heap) × (Nat) × (Heap) × (Nat) × (Heap) × (Nat) × (Addr) × (Heap) × (Heap) × (Heap) × (Nat)) ⟨default, default, default, default, {}, default, {}, default, {}, default, {}, default, default, {}, {}, {}, default⟩ (fun c => zpart12.1 c.1 c.2.1 c.2.2.1 c.2.2.2.1 c.2.2.2.2.1 c.2.2.2.2.2.1 c.2.2.2.2.2.2.1 c.2.2.2.2.2.2.2.1 c.2.2.2.2.2.2.2.2.1 c.2.2.2.2.2.2.2.2.2.1 c.2.2.2.2.2.2.2.2.2.2.1 c.2.2.2.2.2.2.2.2.2.2.2.1 c.2.2.2.2.2.2.2.2.2.2.2.2.1 c.2.2.2.2.2.2.2.2.2.2.2.2.2.1 c.2.2.2.2.2.2.2.2.2.2.2.2.2.2.1 c.2.2.2.2.2.2.2.2.2.2.2.2.2.2.2.1 c.2.2.2.2.2.2.2.2.2.2.2.2.2.2.2.2)
@[irreducible] noncomputable def dd := zc.1.1
@[irreducible] noncomputable def od2 := zc.1.2.1
@[irreducible] noncomputable def z13_2 := zc.1.2.2.1
@[irreducible] noncomputable def z13_3 := zc.1.2.2.2.1
@[irreducible] noncomputable def z13_8 := zc.1.2.2.2.2.1
@[irreducible] noncomputable def z13_9 := zc.1.2.2.2.2.2.1
@[irreducible] noncomputable def z13_10 := zc.1.2.2.2.2.2.2.1
@[irreducible] noncomputable def tk := zc.1.2.2.2.2.2.2.2.1
@[irreducible] noncomputable def z13_14 := zc.1.2.2.2.2.2.2.2.2.1
@[irreducible] noncomputable def z13_15 := zc.1.2.2.2.2.2.2.2.2.2.1
@[irreducible] noncomputable def z13_16 := zc.1.2.2.2.2.2.2.2.2.2.2.1
@[irreducible] noncomputable def z13_17 := zc.1.2.2.2.2.2.2.2.2.2.2.2.1
@[irreducible] noncomputable def z13_18 := zc.1.2.2.2.2.2.2.2.2.2.2.2.2.1
@[irreducible] noncomputable def z13_19 := zc.1.2.2.2.2.2.2.2.2.2.2.2.2.2.1
@[irreducible] noncomputable def z13_22 := zc.1.2.2.2.2.2.2.2.2.2.2.2.2.2.2.1
@[irreducible] noncomputable def z13_28 := zc.1.2.2.2.2.2.2.2.2.2.2.2.2.2.2.2.1
@[irreducible] noncomputable def tkn := zc.1.2.2.2.2.2.2.2.2.2.2.2.2.2.2.2.2
noncomputable def zpart13 : { R : ((Nat → SRec) → Prop) // Hide (∀ S, R S) → zpart12.1 dd od2 z13_2 z13_3 z13_8 z13_9 z13_10 tk z13_14 z13_15 z13_16 z13_17 z13_18 z13_19 z13_22 z13_28 tkn } := by
  refine' ⟨_, fun hP14 => ?main⟩
  case main =>
    intro X T C ht0 ht1 ht2 R hlen hal hb0 XB TB hok B' X' hq1 hq3 e11 e12 e13 sq sp sr hC9 dU llf dA dr1 dr2 lr0 lr1 lr2 hR hl1 hl2 hf hnd2 ofl ofk hRO hNO y1 y2 y3 y4
      y5 y6 z1 z2 z4 z5 z6 z7 sd9 hd9 z13_1 ld9 z13_5 z13_6 z13_7 z13_11 z13_12 z13_20 z13_21 z13_23 z13_24 z13_26 z13_27 z13_29 z13_30
    have hvs : (ss.map fun q => Value.ref q.c).length = rs.length := by rw [List.length_map, e11, hq1]
    have hall : ∀ i, i < rs.length → ∃ r, StOk w O rs (ss.map fun q => Value.ref q.c) un od2 i r := fun i hi => by
      refine cps fun zG zk => ?_
      obtain ⟨T9, ta9, t9, tk9, la9, f1, f2, f3, f4, f5⟩ := hf i (by exact (qlee hi hq1))
      refine zk ?_
      clear zk zG
      have hqi : qs[i]? = some qs[i] := List.getElem?_eq_getElem (by exact (qlee hi hq1))
      have hsi : ss[i]? = some ss[i] := List.getElem?_eq_getElem (by exact (qlee hi (Eq.trans e11 hq1)))
      have hri : rs[i]? = some rs[i] := List.getElem?_eq_getElem hi
      generalize qs[i] = q at hqi
      generalize ss[i] = r at hsi
      generalize rs[i] = ru at hri
      refine cps fun zG zk => ?_
      obtain ⟨p1, p2, p3, p4⟩ := hq3 i ru q hri hqi
      obtain ⟨v1, v2, v3, v4⟩ := e12 i q r hqi hsi
      refine zk ?_
      clear zk zG
      rw [List.getElem?_map, hqi] at f1
      cases f1
      refine ⟨{ r with ta := ta9, ti := tk9, s := ru.a.toNat, f := ru.b.toNat }, fun e he => ?_, by rw [List.getElem?_map, hsi]; rfl, ?_, v1.trans p1, ru, hri, v2.trans p2, v3.trans p3, v4.trans p4, rfl, rfl⟩
      · have hc := e13 r (List.mem_of_getElem? hsi)
        unfold SRec.core at hc
        unfold SRec.all at he
        simp only [List.forall_mem_cons, List.not_mem_nil, false_implies, implies_true, and_true] at hc
        simp only [List.mem_cons, List.not_mem_nil, or_false] at he
        refine cps fun zG zk => ?_
        obtain ⟨i1, i2, i3, i4, i5, i6, i7, i8, i9⟩ := hc
        refine zk ?_
        clear zk zG
        rcases he with rfl | rfl | rfl | rfl | rfl | rfl | rfl | rfl | rfl | rfl
        · exact hRO _ (sp _ (List.mem_append_right [_, _, _, _] i1) rfl (fun e => nomatch e))
        · exact hRO _ (sp _ (List.mem_append_right [_, _, _, _] i2) rfl (fun e => nomatch e))
        · exact hRO _ (sp _ (List.mem_append_right [_, _, _, _] i3) rfl (fun e => nomatch e))
        · exact hRO _ (sp _ (List.mem_append_right [_, _, _, _] i4) rfl (fun e => nomatch e))
        · exact hRO _ (sp _ (List.mem_append_right [_, _, _, _] i5) rfl (fun e => nomatch e))
        · exact hRO _ (sp _ (List.mem_append_right [_, _, _, _] i6) rfl (fun e => nomatch e))
        · exact hRO _ (sp _ (List.mem_append_right [_, _, _, _] i7) rfl (fun e => nomatch e))
        · exact hRO _ (sp _ (List.mem_append_right [_, _, _, _] i8) rfl (fun e => nomatch e))
        · exact hRO _ (sp _ (List.mem_append_right [_, _, _, _] i9) rfl (fun e => nomatch e))
        · exact hNO _ f5
      · exact labO_of hd9 hnd2 (by rw [f3]; exact congrArg (fun z => some (z, Value.ref ta9)) v1.symm)
    refine cps fun zG zk => ?_
    obtain ⟨S, hPS, hSx⟩ := stOk_all hlen hvs R hb0 hall
    refine zk ?_
    clear zk zG
    revert X T C ht0 ht1 ht2 R hal hb0 XB TB hok B' X' sq sp sr hC9 dU llf dA dr1 dr2 lr0 lr1 lr2 hR hf ofl ofk y1 y2 y3 y4 y5 y6 z1 z2 z4 z5 z6 z7 sd9 z13_1 ld9 z13_5
      z13_6 z13_7 z13_11 z13_12 z13_20 z13_21 z13_23 z13_24 z13_26 z13_27 z13_29 z13_30 hall hPS hSx
    exact hP14.out S
namespace z14
noncomputable def zc := eps (α := (Nat → SRec)) ⟨(fun _ => by constructor <;> exact default)⟩ zpart13.1
@[irreducible] noncomputable def S := zc.1
noncomputable def zpart14 : { R : ((Heap) → (Nat) → (List (Str × Tok)) → (List (Int × Tok)) → (Nat) → (Nat) → (Addr) → (Addr) → (Obj) → (Tok) → (Value) → (Heap) → (Heap) → (Nat) → (Array Value) → (List (Addr × Obj)) → Prop) // Hide (∀ h9 tk9 asked' notes' na9 nn9 e dx od tk₂ tv h10 g10 tk10 vs10 led10, R h9 tk9 asked' notes' na9 nn9 e dx od tk₂ tv h10 g10 tk10 vs10 led10) → zpart13.1 S } := by
  refine' ⟨_, fun hP15 => ?main⟩
  case main =>
    intro X T C ht0 ht1 ht2 R hal hb0 XB TB hok B' X' sq sp sr hC9 dU llf dA dr1 dr2 lr0 lr1 lr2 hR hf ofl ofk y1 y2 y3 y4 y5 y6 z1 z2 z4 z5 z6 z7 sd9 z13_1 ld9 z13_5
      z13_6 z13_7 z13_11 z13_12 z13_20 z13_21 z13_23 z13_24 z13_26 z13_27 z13_29 z13_30 hall hPS hSx
    rename News _ _ _ _ => Nz
    rename Fr _ _ _ _ => Fz
    (with_reducible rename Lts O _ => hOnt)
    refine wp_le (d := 550) (u := 4500) ?_ (Nat.le_of_ble_eq_true rfl) (Nat.le_of_ble_eq_true rfl)
    refine' runF w fr ak lf _ _ _ dd un ud D9 ul [(fr, (⟨.type "function", none, .func fd, #[]⟩ : Obj)), (cr, ocr), (L' + 1 + 1, oA), (L' + 1 + 1 + 1, oL)] O _ _ _ _ _ _ _ _ _ _ _ _ _ [] ans [] _ _ _ _ rs.length b _ _ _ _ _ _ _ _ _ od2 _ _ _ _ S _ _ ?B ?F ?X ?T ?N hPS hb0 hR ?sub ?ta ?tl sd9 ?ne ?hap ?hap2 ?sz ?hend
    case B => k_asm
    case F => exact Fz
    case X => k_asm
    case T => k_asm
    case N =>
      refine news_sub Nz ?_
      intro q hq
      repeat (rcases List.mem_cons.mp hq with rfl | hq; (first | k_mem))
      repeat (first | exact hq | apply List.Mem.tail)
    case sub =>
      intro q hq
      simp only [List.mem_cons, List.not_mem_nil, or_false] at hq
      rcases hq with rfl | rfl | rfl | rfl
      · exact y1
      · exact y2
      · exact y4
      · exact y3
    case ta =>
      intro q hq
      simp only [List.mem_cons, List.not_mem_nil, or_false] at hq
      rcases hq with rfl | rfl | rfl | rfl
      · exact ofk _ y1
      · exact ofk _ y2
      · exact ofk _ y4
      · exact ofk _ y3
    case tl =>
      intro q hq
      simp only [List.mem_cons, List.not_mem_nil, or_false] at hq
      rcases hq with rfl | rfl | rfl | rfl
      · exact ofl _ y1
      · exact ofl _ y2
      · exact ofl _ y4
      · exact ofl _ y3
    case hap =>
      intro q hq
      exact ⟨Nat.ne_of_lt (hOnt q hq), ofk q hq, ofl q hq⟩
    case sz =>
      simp only [List.length_nil]
      (first | exact (qfl hij this) | omega)
    case ne =>
      (with_reducible rename _ ∧ _ ∧ _ ∧ _ ∧ @LT.lt Nat _ lf _ ∧ @LT.lt Nat _ ak _ ∧ _ => lnt)
      exact ⟨Nat.ne_of_gt lnt.2.2.2.2.2.1, Nat.ne_of_gt lnt.2.2.2.2.1, Nat.ne_of_lt llf.1⟩
    case hap2 =>
      (with_reducible rename _ ∧ _ ∧ _ ∧ _ ∧ @LT.lt Nat _ lf _ ∧ @LT.lt Nat _ ak _ ∧ _ => lnt)
      (with_reducible rename @LT.lt Nat _ dd _ ∧ _ ∧ _ ∧ _ ∧ _ => ld3)
      (with_reducible rename @LT.lt Addr _ _ _ => lx1)
      have hf9 : ∀ e ∈ O, @Ne Nat e.1 _ ∧ @Ne Nat e.1 ak ∧ @Ne Nat e.1 lf := fun e he => ⟨Nat.ne_of_lt (hOnt e he), ofk e he, ofl e he⟩
      intro q hq
      simp only [List.mem_cons, List.not_mem_nil, or_false] at hq
      rcases hq with rfl | rfl | rfl | rfl | rfl | rfl | rfl
      · exact ⟨Nat.ne_of_lt lnt.1, Nat.ne_of_gt (Nat.lt_trans ld3.2.2.2.1 lx1), Nat.ne_of_gt (Nat.lt_trans ld3.2.2.1 lx1)⟩
      · exact ⟨Nat.ne_of_lt lnt.2.1, Nat.ne_of_gt ld3.2.2.2.1, Nat.ne_of_gt ld3.2.2.1⟩
      · exact ⟨Nat.ne_of_lt lnt.2.2.1, Nat.ne_of_gt ld9.2.2.1, Nat.ne_of_gt ld9.2.1⟩
      · exact hf9 _ y1
      · exact hf9 _ z1
      · exact hf9 _ z2
      · exact hf9 _ z4
    case hend =>
      intro g9 h9 tk9 asked' notes' na9 nn9 nl9 e dx od tk₂ tv hA hNt F9 R9t U9 hns
      have hn10 : notes'.length ≤ 1000 := by
        have h1 := congrArg List.length hNt
        have h2 := noteOf_len (S := S) (ans.map Prod.fst) b
        simp only [List.length_map, List.length_append, List.length_nil] at h1 h2
        (first | exact (qfl hij this) | omega)
      refine' catch_snob (by assumption) F9 R9t U9 XB TB (by k_is) ?k9
      case k9 =>
        ((try clear U9); (try clear R9t); (try clear F9))
        intro h10 g10 tk10 vs10 h2n T10 F10 N10 B10 X10 P10
        refine cps fun zG zk => ?_
        obtain ⟨led10, N11, m1, m2, m3, m4, m5, m6, m7, mO⟩ : ∃ led, News g10 L' h10 led ∧ (e, ({ cls := .ref 34, dict := some dx, data := .fields vs10, slots := #[] } : Obj)) ∈ led ∧ (dx, od) ∈ led ∧ (_, W.listOf (notes'.map intV).toArray nn9) ∈ led ∧ (ak, W.listOf (asked'.map strV).toArray na9) ∈ led ∧ (lf, W.listOf #[] nl9) ∈ led ∧ (_, hooksO _) ∈ led ∧ (_, hooksD _ _ _ _ _ _ _) ∈ led ∧ ∀ q ∈ O, q ∈ led :=
          ⟨_, N10, .head _, .tail _ (.head _), .tail _ (.tail _ (.head _)), .tail _ (.tail _ (.tail _ (.head _))), .tail _ (.tail _ (.tail _ (.tail _ (.head _)))), .tail _ (.tail _ (.tail _ (.tail _ (.tail _ (.head _))))), .tail _ (.tail _ (.tail _ (.tail _ (.tail _ (.tail _ (.head _)))))), fun q hq => .tail _ (.tail _ (.tail _ (.tail _ (.tail _ (.tail _ (.tail _ hq))))))⟩
        refine zk ?_
        clear zk zG
        ((try clear Nz); (try clear N10))
        have m8 := mO _ y4
        have m9 := mO _ y3
        have m10 := mO _ y5
        revert X T C ht0 ht1 ht2 R hb0 XB hok X' hC9 dA dr1 dr2 lr0 y2 y6 z5 z6 z7 z13_12 z13_27 hSx hA hNt hns hn10 h2n T10 F10 X10 N11 m1 m2 m3 m4 m6 m7 mO m8
        exact hP15.out h9 tk9 asked' notes' na9 nn9 e dx od tk₂ tv h10 g10 tk10 vs10 led10
namespace z15
noncomputable def zc := eps (α := (Heap) × (Nat) × (List (Str × Tok)) × (List (Int × Tok)) × (Nat) × (Nat) × (Addr) × (Addr) × (Obj) × (Tok) × (Value) × (Heap) × (Heap) × (Nat) × (Array Value) × (List (Addr × Obj))) ⟨{}, default, default, default, default, default, default, default, default, default, default, {}, {}, default, default, default⟩ (fun c => zpart14.1 c.1 c.2.1 c.2.2.1 c.2.2.2.1 c.2.2.2.2.1 c.2.2.2.2.2.1 c.2.2.2.2.2.2.1 c.2.2.2.2.2.2.2.1 c.2.2.2.2.2.2.2.2.1 c.2.2.2.2.2.2.2.2.2.1 c.2.2.2.2.2.2.2.2.2.2.1 c.2.2.2.2.2.2.2.2.2.2.2.1 c.2.2.2.2.2.2.2.2.2.2.2.2.1 c.2.2.2.2.2.2.2.2.2.2.2.2.2.1 c.2.2.2.2.2.2.2.2.2.2.2.2.2.2.1 c.2.2.2.2.2.2.2.2.2.2.2.2.2.2.2)
@[irreducible] noncomputable def h9 := zc.1.1
@[irreducible] noncomputable def tk9 := zc.1.2.1
@[irreducible] noncomputable def asked' := zc.1.2.2.1
@[irreducible] noncomputable def notes' := zc.1.2.2.2.1
@[irreducible] noncomputable def na9 := zc.1.2.2.2.2.1
@[irreducible] noncomputable def nn9 := zc.1.2.2.2.2.2.1
@[irreducible] noncomputable def e := zc.1.2.2.2.2.2.2.1
@[irreducible] noncomputable def dx := zc.1.2.2.2.2.2.2.2.1
@[irreducible] noncomputable def od := zc.1.2.2.2.2.2.2.2.2.1
@[irreducible] noncomputable def tk₂ := zc.1.2.2.2.2.2.2.2.2.2.1
@[irreducible] noncomputable def tv := zc.1.2.2.2.2.2.2.2.2.2.2.1
@[irreducible] noncomputable def h10 := zc.1.2.2.2.2.2.2.2.2.2.2.2.1
@[irreducible] noncomputable def g10 := zc.1.2.2.2.2.2.2.2.2.2.2.2.2.1
@[irreducible] noncomputable def tk10 := zc.1.2.2.2.2.2.2.2.2.2.2.2.2.2.1
@[irreducible] noncomputable def vs10 := zc.1.2.2.2.2.2.2.2.2.2.2.2.2.2.2.1
@[irreducible] noncomputable def led10 := zc.1.2.2.2.2.2.2.2.2.2.2.2.2.2.2.2
theorem zat : zpart14.1 h9 tk9 asked' notes' na9 nn9 e dx od tk₂ tv h10 g10 tk10 vs10 led10 := by
  intro X T C ht0 ht1 ht2 R hb0 XB hok X' hC9 dA dr1 dr2 lr0 y2 y6 z5 z6 z7 z13_12 z13_27 hSx hA hNt hns hn10 h2n T10 F10 X10 N11 m1 m2 m3 m4 m6 m7 mO m8
  repeat' (first | (k_unfold; (try dsimp only)) | (k_end; wrow_close) | ((first | with_reducible (k_here; (with_reducible show wpAny _ _ (getAttr (Value.ref e) _ _) _ _ _); k_dflt (refine' number_K (v := .int 99 tk₂) F10 X10 N11 ?hex55 ?hdx55 hns ?hvx55 rfl ?_; (case hex55 => k_mem); (case hdx55 => k_mem); (case hvx55 => first | rfl | (unfold excMap; decide) | simp [excMap]))) | with_reducible ((with_reducible show wpAny _ _ (eval (Expr.Tuple ..) _) _ _ _); k_here; dsimp only) | with_reducible ((with_reducible show wpAny _ _ (eval (Expr.ListComp ..) _) _ _ _); k_here; k_dflt (refine' ge0_comp (x := e) (dx := dx) (vs := vs10) (ids := notes') (k := nn9) ?Fx57 ?Nx57 rfl h2n (by rfl) (by decide) (by rfl) (by decide) (by rfl) (by decide) hn10 ?_); (case Fx57 => k_asm); (case Nx57 => k_asm)) | with_reducible (k_here; k_dflt (refine' name_goesX ?Fx58 ?Nx58 ?_; (case Fx58 => k_asm); (case Nx58 => k_asm)); intro _ _ _ _) | walk1); (try ((with_reducible show wpAny _ _ (execs _ _) _ _ (Shared.mk _ _ _ (_ + 1) _)); refine tok_any ?_; intro tkn))) | (dsimp only; walk1) | (leave1; (try dsimp only)))
  all_goals try (first | k_asm | k_mem)
  rename News _ _ _ _ => Nz9
  rename Fr _ _ _ _ => Fz9
  refine cps fun zG zk => ?_
  obtain ⟨ra, rn⟩ := runs_as R hSx (ans.map Prod.fst) b hb0
  refine zk ?_
  clear zk zG
  have fin : ∀ (T9 D9' : Addr) (k9 n9 : Nat) (h9 : Heap) (tk9 : Nat), Fr h₀ cL h9 m → News h₀ cL h9 ((T9, ({ cls := .type "tuple", data := .seq #[.ref ak, .ref D9'] n9 } : Obj)) :: (D9', W.listOf ((notes'.filter fun q => decide (0 ≤ q.1)).map intV).toArray k9) :: led10) → Q (.ref T9) { s with heap := h9, toks := tk9 } := by
    intro T9 D9' k9 n9 h9 tk9 Fq Nq
    refine hok h9 tk9 T9 ak D9' asked' (notes'.filter fun q => decide (0 ≤ q.1)) na9 k9 n9 #[rawInt (331 : Nat), rawInt (4 : Nat), .ref cr] (List.filter (fun e => e.1 != 422) ((T9, ({ cls := .type "tuple", data := .seq #[.ref ak, .ref D9'] n9 } : Obj)) :: (D9', W.listOf ((notes'.filter fun q => decide (0 ≤ q.1)).map intV).toArray k9) :: led10)) Fq (news_sub Nq ?N) ?n4 ?own ?rl ?al ?T9 ?ak ?nl ?ts ?e1 ?e2
    case N =>
      intro q hq
      rcases List.mem_cons.mp hq with rfl | hq
      · exact .tail _ (.tail _ (mO _ y6))
      · exact (List.mem_filter.mp hq).1
    case n4 =>
      intro q hq
      have := (List.mem_filter.mp hq).2
      simpa using this
    case own =>
      intro q hq
      exact List.mem_filter.mpr ⟨.tail _ (.tail _ (mO _ (z6 q hq))), by have := ht0 q hq; simpa using this⟩
    case rl => exact List.mem_filter.mpr ⟨.tail _ (.tail _ (mO _ z7)), by simpa using ht1⟩
    case al => exact List.mem_filter.mpr ⟨.tail _ (.tail _ (mO _ z5)), by simpa using ht2⟩
    case e1 => rw [hA, ra]; rfl
    case e2 =>
      have h9 : notes'.map Prod.fst = noteOf S b (ans.map Prod.fst) := hNt
      rw [← rn, ← h9, List.filter_map]
      rfl
    case T9 => exact List.mem_filter.mpr ⟨.head _, by have := news_ne Nq (.head _) (.tail _ (.tail _ (mO _ y6))) (fun e => nomatch congrArg Obj.data e); simpa using this⟩
    case nl => exact List.mem_filter.mpr ⟨.tail _ (.head _), by have := news_ne Nq (.tail _ (.head _)) (.tail _ (.tail _ (mO _ y6))) (fun e => nomatch congrArg Obj.data e); simpa using this⟩
    case ak => exact List.mem_filter.mpr ⟨.tail _ (.tail _ m4), by have := news_ne Nq (.tail _ (.tail _ m4)) (.tail _ (.tail _ (mO _ y6))) (fun e => nomatch congrArg Obj.data e); simpa using this⟩
    case ts => exact .inr ⟨cr, ocr, _, _, rfl, List.mem_filter.mpr ⟨.tail _ (.tail _ (mO _ y2)), by simpa using lr0⟩, lr0, dr1, by assumption⟩
  exact fin _ _ _ _ _ _ Fz9 Nz9
theorem zall : ∀ h9 tk9 asked' notes' na9 nn9 e dx od tk₂ tv h10 g10 tk10 vs10 led10, zpart14.1 h9 tk9 asked' notes' na9 nn9 e dx od tk₂ tv h10 g10 tk10 vs10 led10 := fun h9 tk9 asked' notes' na9 nn9 e dx od tk₂ tv h10 g10 tk10 vs10 led10 => @epsH _ _ zc (by with_unfolding_all exact zat) (h9, tk9, asked', notes', na9, nn9, e, dx, od, tk₂, tv, h10, g10, tk10, vs10, led10)
end z15
theorem zat : zpart13.1 S := zpart14.2 ⟨z15.zall⟩
theorem zall : ∀ S, zpart13.1 S := fun S => @epsH _ _ zc (by with_unfolding_all exact zat) S
end z14
theorem zat : zpart12.1 dd od2 z13_2 z13_3 z13_8 z13_9 z13_10 tk z13_14 z13_15 z13_16 z13_17 z13_18 z13_19 z13_22 z13_28 tkn := zpart13.2 ⟨z14.zall⟩
theorem zall : ∀ dd od2 z13_2 z13_3 z13_8 z13_9 z13_10 tk z13_14 z13_15 z13_16 z13_17 z13_18 z13_19 z13_22 z13_28 tkn, zpart12.1 dd od2 z13_2 z13_3 z13_8 z13_9 z13_10 tk z13_14 z13_15 z13_16 z13_17 z13_18 z13_19 z13_22 z13_28 tkn := fun dd od2 z13_2 z13_3 z13_8 z13_9 z13_10 tk z13_14 z13_15 z13_16 z13_17 z13_18 z13_19 z13_22 z13_28 tkn => @epsH _ _ zc (by with_unfolding_all exact zat) (dd, od2, z13_2, z13_3, z13_8, z13_9, z13_10, tk, z13_14, z13_15, z13_16, z13_17, z13_18, z13_19, z13_22, z13_28, tkn)
end z13
theorem zat : zpart10.1.2 ys kvs2 new Dk h₂ tk₂ O := zpart12.2 ⟨z13.zall⟩
theorem zall : ∀ ys kvs2 new Dk h₂ tk₂ O, zpart10.1.2 ys kvs2 new Dk h₂ tk₂ O := fun ys kvs2 new Dk h₂ tk₂ O => @epsH _ _ zc (by with_unfolding_all exact zat) (ys, kvs2, new, Dk, h₂, tk₂, O)
end z12
theorem zat : zpart9.1 z10_1 tkn B9 hh₂ := zpart10.2 ⟨z11.zall⟩ ⟨z12.zall⟩
theorem zall : ∀ z10_1 tkn B9 hh₂, zpart9.1 z10_1 tkn B9 hh₂ := fun z10_1 tkn B9 hh₂ => @epsH _ _ zc (by with_unfolding_all exact zat) (z10_1, tkn, B9, hh₂)
end z10
theorem zat : zpart7.1.2 fd := zpart9.2 ⟨z10.zall⟩
theorem zall : ∀ fd, zpart7.1.2 fd := fun fd => @epsH _ _ zc (by with_unfolding_all exact zat) fd
end z9
theorem zat : zpart6.1 oU ak lf cf td oA hA7 oL tk fr cr ocr vsr tr ctr dcr h' tk' := zpart7.2 ⟨z8.zall⟩ ⟨z9.zall⟩
theorem zall : ∀ oU ak lf cf td oA hA7 oL tk fr cr ocr vsr tr ctr dcr h' tk', zpart6.1 oU ak lf cf td oA hA7 oL tk fr cr ocr vsr tr ctr dcr h' tk' := fun oU ak lf cf td oA hA7 oL tk fr cr ocr vsr tr ctr dcr h' tk' => @epsH _ _ zc (by with_unfolding_all exact zat) (oU, ak, lf, cf, td, oA, hA7, oL, tk, fr, cr, ocr, vsr, tr, ctr, dcr, h', tk')
end z7
theorem zat : zpart5.1 h9 tk9 ss un ud ul D9 k1 k2 k3 ob kvs nw R9 := zpart6.2 ⟨z7.zall⟩
theorem zall : ∀ h9 tk9 ss un ud ul D9 k1 k2 k3 ob kvs nw R9, zpart5.1 h9 tk9 ss un ud ul D9 k1 k2 k3 ob kvs nw R9 := fun h9 tk9 ss un ud ul D9 k1 k2 k3 ob kvs nw R9 => @epsH _ _ zc (by with_unfolding_all exact zat) (h9, tk9, ss, un, ud, ul, D9, k1, k2, k3, ob, kvs, nw, R9)
end z6
theorem zat : zpart1.1.2 m₁ h₁ tk₁ qs k own' := zpart5.2 ⟨z6.zall⟩
theorem zall : ∀ m₁ h₁ tk₁ qs k own', zpart1.1.2 m₁ h₁ tk₁ qs k own' := fun m₁ h₁ tk₁ qs k own' => @epsH _ _ zc (by with_unfolding_all exact zat) (m₁, h₁, tk₁, qs, k, own')
end z5
theorem zat : zpart0.1 cn cnm cmo cL ca ccd ccl g' L' o1 o2 o3 ls h3 tkn I' := zpart1.2 ⟨z2.zall⟩ ⟨z5.zall⟩
theorem zall : ∀ cn cnm cmo cL ca ccd ccl g' L' o1 o2 o3 ls h3 tkn I', zpart0.1 cn cnm cmo cL ca ccd ccl g' L' o1 o2 o3 ls h3 tkn I' := fun cn cnm cmo cL ca ccd ccl g' L' o1 o2 o3 ls h3 tkn I' => @epsH _ _ zc (by with_unfolding_all exact zat) (cn, cnm, cmo, cL, ca, ccd, ccl, g', L', o1, o2, o3, ls, h3, tkn, I')
end z1
theorem zat : zP w p loose mean mg mb own rs ans rl al nr na b tb A₀ base h₀ m s Q E pt := zpart0.2 ⟨z1.zall⟩
theorem zall : ∀ w p loose mean mg mb own rs ans rl al nr na b tb A₀ base h₀ m s Q E pt, zP w p loose mean mg mb own rs ans rl al nr na b tb A₀ base h₀ m s Q E pt := fun w p loose mean mg mb own rs ans rl al nr na b tb A₀ base h₀ m s Q E pt => @epsH _ _ zc (by with_unfolding_all exact zat) (w, p, loose, mean, mg, mb, own, rs, ans, rl, al, nr, na, b, tb, A₀, base, h₀, m, s, Q, E, pt)
end hdC
theorem hdC (w : World) {p : Program} {loose : List Str} {mean : ExcName → Option Value} {mg mb : Str → Option Value} (c : CX) (own : List (Addr × Obj)) (rs : List RRec) (ans : List (Int × Tok)) (rl al : Addr) (nr na b : Nat) (tb : Tok)
    (A₀ : Around) (base h₀ : Heap) (m : Str → Option Value) (s : Shared) (Q E : Value → Shared → Prop)
    (B : Below A₀ base c.outer h₀) (F : Fr h₀ c.L s.heap m) (X : (kdef.heap_1 w.params).In h₀) (T : Top p loose mean mg mb h₀)
    (pt : Array Value) (C : CodeHd h₀ 424 422) (TS : TabS own 422 331 4 rq pt) (ht0 : ∀ e ∈ own, e.1 ≠ 422) (ht1 : @Ne Nat rl 422) (ht2 : @Ne Nat al 422)
    (N : News h₀ c.L s.heap ((422, tabObj pt) :: (rl, W.listOf (rs.map fun r => .ref r.ad).toArray nr) :: (al, W.listOf (ans.map intV).toArray na) :: own)) (R : ∀ r ∈ rs, RIn rs.length own r) (hlen : rs.length ≤ 5) (hal : ans.length ≤ 100) (hb0 : b < rs.length)
    (hco : c.outer = []) (XB : (kdef.heap_1 w.params).In base) (TB : Top p loose mean mg mb base)
    (hok : ∀ h' tk' T9 ak nl (asked' : List (Str × Tok)) (notes' : List (Int × Tok)) n1 n2 n3 pt' own', Fr h₀ c.L h' m → News h₀ c.L h' ((422, tabObj pt') :: own') → (∀ e ∈ own', e.1 ≠ 422) → (∀ e ∈ own, e ∈ own') →
      (rl, W.listOf (rs.map fun r => .ref r.ad).toArray nr) ∈ own' → (al, W.listOf (ans.map intV).toArray na) ∈ own' → (T9, ({ cls := .type "tuple", data := .seq #[.ref ak, .ref nl] n3 } : Obj)) ∈ own' → (ak, W.listOf (asked'.map strV).toArray n1) ∈ own' → (nl, W.listOf (notes'.map intV).toArray n2) ∈ own' → TabS own' 422 331 4 rq pt' →
      asked'.map Prod.fst = (pathR rs b (ans.map Prod.fst)).map (letR rs) → notes'.map Prod.fst = (pathR rs b (ans.map Prod.fst)).map Int.ofNat → Q (.ref T9) { s with heap := h', toks := tk' }) : wpAny (model PG w) (c.T 480 3800) (call (.ref 425) [.ref rl, .int b tb, .ref al]) Q E s := hdC.zall w p loose mean mg mb own rs ans rl al nr na b tb A₀ base h₀ m s Q E pt c B F X T C TS ht0 ht1 ht2 N R hlen hal hb0 hco XB TB hok
end
section
open PySem PySem.W PyProof.Rows PySem.Calls PySem.Spec
set_option Elab.async false
set_option maxRecDepth 100000
set_option maxHeartbeats 8000000
theorem ints_are : ∀ (zs : List (Int × Tok)), IntsAre (zs.map intV) (zs.map Prod.fst)
  | [] => .nil
  | (i, t) :: r => .cons i t (ints_are r)
theorem dat_at {news : List (Addr × Obj)} : ∀ {vs : List Value} {ds : List Dat}, DatAll news vs ds → ∀ (j : Nat) (v : Value), vs[j]? = some v → ∃ d, ds[j]? = some d ∧ DatIn news v d
  | _, _, .nil, j, v, h => by simp at h
  | _, _, .cons hd r, 0, v, h => by cases h; exact ⟨_, rfl, hd⟩
  | _, _, .cons hd r, j + 1, v, h => dat_at r j v h
theorem dat_len {news : List (Addr × Obj)} : ∀ {vs : List Value} {ds : List Dat}, DatAll news vs ds → vs.length = ds.length
  | _, _, .nil => rfl
  | _, _, .cons _ r => congrArg Nat.succ (dat_len r)
theorem dat_snoc {news : List (Addr × Obj)} : ∀ {vs : List Value} {ds : List Dat} {v : Value} {d : Dat}, DatAll news vs ds → DatIn news v d → DatAll news (vs ++ [v]) (ds ++ [d])
  | _, _, _, _, .nil, h => .cons h .nil
  | _, _, _, _, .cons a r, h => .cons a (dat_snoc r h)
theorem kqdPs_get : ∀ (ds : List Dat) (j : Nat), (kqdPs ds)[j]? = ds[j]?.map kqdP
  | [], j => by simp [kqdPs]
  | d :: ds, 0 => by simp [kqdPs]
  | d :: ds, j + 1 => by rw [kqdPs, List.getElem?_cons_succ, List.getElem?_cons_succ, kqdPs_get ds j]
section
variable {prog : Program} {w : World} {A : Around} {E : Value → Shared → Prop} {s : Shared} {h₀ : Heap} {L a : Addr} {news n₁ n₂ : List (Addr × Obj)} {Q : Value → Shared → Prop}
theorem index_gen {vs : List Value} {x : Value} {e : Value → Bool} {k : Nat} (hl : s.heap.IsList a vs.toArray) (hk : k < vs.length) (hsm : vs.length ≤ 1000) (hit : e vs[k] = true) (hno : ∀ (j : Nat) (hj : j < vs.length), j < k → e vs[j] = false)
    (heq : ∀ y, y ∈ vs → SeqAt.EqAt A.in1 s y x (e y)) (h : Q (.int k s.toks) { s with toks := s.toks + 1 }) : wpAny (model prog w) A (call (.builtin "list.index") [.ref a, x]) Q E s := by
  obtain ⟨⟨cls, dd, data, sl⟩, ho, hc, n, hd⟩ := id hl
  simp only at hc hd
  subst hc hd
  refine call_meets PySem.F.slot_list_index ⟨_, ho, rfl⟩ PySem.F.entry_list_index (PySem.F.args_list_index_2 _ _)
    (SeqAt.list_indexAt a vs.toArray n dd sl x e k (by simpa using hk) (by omega) (by simpa using hit) (fun j hj hlt => by simpa using hno j (by simpa using hj) hlt)) ⟨ho, fun y hy => heq y (by simpa using hy), h⟩
theorem index_ints {zs : List (Int × Tok)} {nn : Nat} {i : Int} {t : Tok} (N : News h₀ L s.heap news) (ma : (a, W.listOf (zs.map intV).toArray nn) ∈ news) (hm : i ∈ zs.map Prod.fst) (hsm : zs.length ≤ 1000) (h : Q (.int ((zs.map Prod.fst).idxOf i : Nat) s.toks) { s with toks := s.toks + 1 }) :
    wpAny (model prog w) A (call (.builtin "list.index") [.ref a, .int i t]) Q E s := by
  have hj : (zs.map Prod.fst).idxOf i < (zs.map Prod.fst).length := List.idxOf_lt_length_iff.mpr hm
  have hi := ints_are zs
  have hlen := hi.length
  refine index_gen (e := isInt i) (k := (zs.map Prod.fst).idxOf i) ⟨_, (N _ ma).1, rfl, _, rfl⟩ (by exact (qlee hj hlen)) (by simpa using hsm) ?_ (fun j hj' hlt => ?_) (fun y hy => (eq_isInt i t hi y hy).at _ _) h
  · rw [isInt_at i hi _ (by exact (qlee hj hlen)) hj]
    simpa using List.getElem_idxOf hj
  · rw [isInt_at i hi j hj' (by exact (qlef hj' hlen))]
    exact ne_of_lt_idxOf hlt _
theorem index_dat {oa : Obj} {xs : List Value} {ka k : Nat} {ds : List Dat} {x : Value} {d : Dat} (N : News h₀ L s.heap news) (ma : (a, oa) ∈ news) (ca : oa.cls = .type "list") (da : oa.data = .seq xs.toArray ka) (Da : DatAll n₁ xs ds) (sa : ∀ p ∈ n₁, p ∈ news)
    (Dx : DatIn n₂ x d) (sx : ∀ p ∈ n₂, p ∈ news) (ha : ∀ d ∈ ds, kqdOk 8 d = true) (hd : kqdOk 8 d = true) (hu : A.units + 64 < cLine) (hsm : xs.length ≤ 1000) (hk : ds[k]? = some d) (hno : ∀ j e, j < k → ds[j]? = some e → e ≠ d)
    (h : Q (.int k s.toks) { s with toks := s.toks + 1 }) : wpAny (model prog w) A (call (.builtin "list.index") [.ref a, x]) Q E s := by
  have hlen := dat_len Da
  have hkl : k < xs.length := by rw [hlen]; exact (List.getElem?_eq_some_iff.mp hk).1
  obtain ⟨as, ra⟩ := kqd_all N 8 (Da.mono sa) ha
  obtain ⟨bs, rx⟩ := kqd_in N 8 (Dx.mono sx) hd
  have l := kqd_layL ha
  have ld := kqd_lay 8 d hd
  have l2 := ld.2
  have rd := SeqAt.readsAll_map _ _ _ l.1 ra
  have at' : ∀ (j : Nat) (hj : j < xs.length) (e : Dat), ds[j]? = some e → SeqAt.readOf s.heap xs[j] = kqdP e := fun j hj e he => by
    have h1 : (xs.map (SeqAt.readOf s.heap))[j]? = (kqdPs ds)[j]? := by rw [rd]
    rw [List.getElem?_map, List.getElem?_eq_getElem hj, kqdPs_get, he] at h1
    exact Option.some.inj h1
  refine index_gen (e := fun y => PyData.eqv (SeqAt.readOf s.heap y) (kqdP d)) (k := k) ⟨_, (N _ ma).1, ca, _, da⟩ hkl hsm ?_ (fun j hj hlt => ?_) (fun y hy => ?_) h
  · show PyData.eqv _ _ = true
    rw [at' k hkl d hk]
    exact (kqd_eqv 8 d d 8 hd hd).mpr rfl
  · show PyData.eqv _ _ = false
    have hj2 : j < ds.length := by exact (qlef hj hlen)
    rw [at' j hj ds[j] (List.getElem?_eq_getElem hj2)]
    refine Bool.eq_false_iff.mpr fun z => hno j ds[j] hlt (List.getElem?_eq_getElem hj2) ?_
    exact (kqd_eqv 8 _ d 8 (ha _ (List.getElem_mem hj2)) hd).mp z
  · refine SeqAt.items_eqAt (xs := kqdPs ds) (vs := xs.toArray) (by simpa using ra) rx l.1 ld.1 ?_ y (by simpa using hy)
    have := Nat.min_le_right (PyData.depthAll (kqdPs ds)) (kqdP d).depth
    omega
end
end
section
open PySem PySem.W PyProof.Rows PySem.Calls PySem.Spec
set_option Elab.async false
set_option maxRecDepth 100000
set_option maxHeartbeats 1000000
theorem cell_is {o : Obj} {v : Option Value} (h : o.data = .cell v) : isCell o = true := by unfold isCell; rw [h]
/-- the cells ahead, the rest without them -/
theorem resplitG {g h : Heap} {L : Addr} {all : List (Addr × Obj)} (cs : List (Addr × Obj)) (N : News g L h all) (hc : ∀ c ∈ cs, c ∈ all) (hd : ∀ c ∈ cs, isCell c.2 = true) :
    ∃ R, News g L h (cs ++ R) ∧ (∀ e ∈ all, isCell e.2 = false → e ∈ R) ∧ (∀ e ∈ all, (∀ c ∈ cs, e.1 ≠ c.1) → e ∈ R) ∧ ∀ c ∈ cs, ∀ e ∈ R, e.1 ≠ c.1 := by
  have same : ∀ e ∈ all, ∀ c ∈ all, e.1 = c.1 → e.2 = c.2 := fun e he c hc e1 => by
    have x1 := (N _ he).1
    rw [e1, (N _ hc).1] at x1
    exact (Option.some.inj x1).symm
  refine ⟨all.filter (fun e => cs.all (fun c => e.1 != c.1)), fun e he => ?_, fun e he hn => ?_, fun e he hn => List.mem_filter.mpr ⟨he, List.all_eq_true.mpr fun c hcs => by simpa using hn c hcs⟩, fun c hcs e he e1 => ?_⟩
  · rcases List.mem_append.mp he with he | he
    · exact N _ (hc e he)
    · exact N _ (List.mem_filter.mp he).1
  · refine List.mem_filter.mpr ⟨he, List.all_eq_true.mpr fun c hcs => ?_⟩
    simp only [bne_iff_ne, ne_eq]
    intro e1
    have := same e he c (hc c hcs) e1
    rw [this, hd c hcs] at hn
    cases hn
  · have := List.all_eq_true.mp (List.mem_filter.mp he).2 c hcs
    simp only [bne_iff_ne, ne_eq] at this
    exact this e1
theorem comp_close1 {h₀ h' : Heap} {L T I C D : Addr} {m : Str → Option Value} {s₁ : Shared} {tk : Nat} {oT oI oC oD : Obj} {S : List (Addr × Obj) → Prop} {rest : Value → List (Addr × Obj) → Prop} {y : Value} {news : List (Addr × Obj)} (F : Fr h₀ L h' m)
    (N : News h₀ L h' ((T, oT) :: (I, oI) :: (C, oC) :: (D, oD) :: news)) (hT : @LT.lt Nat _ I T ∧ @LT.lt Nat _ C T ∧ @LT.lt Nat _ D T) (off : LCg.Off3 I C D news)
    (hS : S ((T, oT) :: news)) (r : rest y ((T, oT) :: news)) : LCg.CompEnd h₀ L m s₁ I oI C oC D oD S rest y { s₁ with heap := h', toks := tk } := by
  refine LCg.CompEnd.intro F N ((T, oT) :: news) (fun e he => ?_) ⟨⟨Nat.ne_of_gt hT.1, Nat.ne_of_gt hT.2.1, Nat.ne_of_gt hT.2.2⟩, off⟩ hS r
  simp only [List.mem_cons] at he ⊢
  grind
theorem small8 : ∀ n : Nat, n < 8 → Builtin.Range.small 0 (n : Int) 1 = true := by decide +kernel
theorem size8 (n : Nat) : Builtin.Range.rangeSize 0 (n : Int) 1 = ((n : Nat) : Int) := by rw [rangeSize_nat]; omega
mutual
theorem datIn_sub {news news' : List (Addr × Obj)} (hs : ∀ p ∈ news, isCell p.2 = false → p ∈ news') : ∀ {v : Value} {d : Dat}, DatIn news v d → DatIn news' v d
  | _, _, .none => .none
  | _, _, .bool b => .bool b
  | _, _, .int i t => .int i t
  | _, _, .str x t => .str x t
  | _, _, .bytes b t => .bytes b t
  | _, _, .tuple h r => .tuple (hs _ h rfl) (datAll_sub hs r)
  | _, _, .list h r => .list (hs _ h rfl) (datAll_sub hs r)
theorem datAll_sub {news news' : List (Addr × Obj)} (hs : ∀ p ∈ news, isCell p.2 = false → p ∈ news') : ∀ {vs : List Value} {ds : List Dat}, DatAll news vs ds → DatAll news' vs ds
  | _, _, .nil => .nil
  | _, _, .cons h r => .cons (datIn_sub hs h) (datAll_sub hs r)
end
def IntsInv (n : Nat) (led : List (Addr × Obj)) (f : Nat → Int) (i : Nat) (ys : List Value) (news : List (Addr × Obj)) : Prop :=
  ∃ zs : List (Int × Tok), ys = zs.map intV ∧ zs.map Prod.fst = (List.range i).map f ∧ i ≤ n ∧ ∀ e ∈ led, e ∈ news
theorem IntsInv.start {n : Nat} {led : List (Addr × Obj)} {f : Nat → Int} : IntsInv n led f 0 [] led := ⟨[], rfl, rfl, Nat.zero_le _, fun _ h => h⟩
theorem IntsInv.snoc {n : Nat} {led news news' : List (Addr × Obj)} {f : Nat → Int} {i : Nat} {ys : List Value} {z : Int} {t : Tok} (h : IntsInv n led f i ys news) (hi : i < n) (hz : z = f i) (k : ∀ e ∈ led, e ∈ news') : IntsInv n led f (i + 1) (ys ++ [.int z t]) news' := by
  obtain ⟨zs, h1, h2, h3, h4⟩ := h
  exact ⟨zs ++ [(z, t)], by rw [List.map_append, h1]; rfl, by rw [List.map_append, h2, List.range_succ, List.map_append, hz]; rfl, hi, k⟩
def DatInv (n : Nat) (led : List (Addr × Obj)) (f : Nat → Dat) (i : Nat) (ys : List Value) (news : List (Addr × Obj)) : Prop :=
  DatAll news ys ((List.range i).map f) ∧ i ≤ n ∧ ∀ e ∈ led, e ∈ news
theorem DatInv.start {n : Nat} {led : List (Addr × Obj)} {f : Nat → Dat} : DatInv n led f 0 [] led := ⟨.nil, Nat.zero_le _, fun _ h => h⟩
theorem DatInv.snoc {n : Nat} {led news news' : List (Addr × Obj)} {f : Nat → Dat} {i : Nat} {ys : List Value} {v : Value} (h : DatInv n led f i ys news) (hi : i < n) (k : ∀ e ∈ news, e ∈ news') (hz : DatIn news' v (f i)) : DatInv n led f (i + 1) (ys ++ [v]) news' := by
  obtain ⟨h1, h2, h3⟩ := h
  refine ⟨?_, hi, fun e he => k e (h3 e he)⟩
  rw [List.range_succ, List.map_append]
  exact dat_snoc (h1.mono k) hz
/-- an item of a list of ints -/
theorem ints_get {zs : List (Int × Tok)} {n : Nat} {f : Nat → Int} (h : zs.map Prod.fst = (List.range n).map f) {k : Int} (h0 : 0 ≤ k) (h1 : k < n) : ∃ t, (zs.map intV)[k.toNat]? = some (.int (f k.toNat) t) := by
  have hl : zs.length = n := by have := congrArg List.length h; simpa using this
  have hk : k.toNat < zs.length := by exact (qtlk hl h0 h1)
  have : (zs.map Prod.fst)[k.toNat]? = some (f k.toNat) := by
    rw [h, List.getElem?_map, List.getElem?_range (by exact (qlef hk hl))]; rfl
  rw [List.getElem?_map, List.getElem?_eq_getElem hk] at this
  have := Option.some.inj this
  refine ⟨zs[k.toNat].2, ?_⟩
  rw [List.getElem?_map, List.getElem?_eq_getElem hk, ← this]; rfl
theorem off1_ne {D : Addr} : ∀ {l : List (Addr × Obj)}, LCg.Off1 D l → ∀ e ∈ l, @Ne Nat e.1 D
  | [], _, e, he => nomatch he
  | _ :: l, ho, e, he => by
    rcases List.mem_cons.mp he with rfl | he
    · exact ho.1
    · exact off1_ne ho.2 e he
end
example : True := by w_top off; (try walk1); trivial
section
open PySem PySem.W PyProof.Rows PySem.Calls PySem.Spec
set_option Elab.async false
set_option maxRecDepth 100000
set_option maxHeartbeats 1000000
example : kdef.heap_1 = kdef.heap_1 ∧ PySem.Challenge.rw_xm0939_01 = PySem.Challenge.rw_xm0939_01 := by
  k_fill
  exact ⟨rfl, rfl⟩

/-- the machine that the rules are -/
noncomputable def machR (rs : List RRec) : Mach where
  n := rs.length
  lt := fun i => (rs[i]?.map (·.l)).getD 0
  n1 := fun i => (rs[i]?.map (·.a.toNat)).getD 0
  n0 := fun i => (rs[i]?.map (·.b.toNat)).getD 0
theorem machR_ok {rs : List RRec} {own : List (Addr × Obj)} (R : ∀ r ∈ rs, RIn rs.length own r) : (machR rs).Ok := by
  refine ⟨fun i hi => ?_, fun i hi => ?_⟩
  · have hi' : i < rs.length := hi
    refine cps fun zG zk => ?_
    obtain ⟨-, -, ⟨h1, h2⟩, -⟩ := R _ (List.getElem_mem hi')
    refine zk ?_
    clear zk zG
    show ((rs[i]?.map (·.a.toNat)).getD 0) < rs.length
    rw [List.getElem?_eq_getElem hi']
    show (rs[i].a.toNat) < rs.length
    (first | exact (qtl h1 h2) | omega)
  · have hi' : i < rs.length := hi
    refine cps fun zG zk => ?_
    obtain ⟨-, -, -, h1, h2⟩ := R _ (List.getElem_mem hi')
    refine zk ?_
    clear zk zG
    show ((rs[i]?.map (·.b.toNat)).getD 0) < rs.length
    rw [List.getElem?_eq_getElem hi']
    show (rs[i].b.toNat) < rs.length
    (first | exact (qtl h1 h2) | omega)
theorem first_eq {n k : Nat} {p : Nat → Bool} (hk : k < n) (hp : p k = true) (hl : ∀ j, j < k → p j = false) : Mach.first n p = k := by
  refine cps fun zG zk => ?_
  obtain ⟨h1, h2, h3⟩ := Mach.first_spec (p := p) hk hp
  refine zk ?_
  clear zk zG
  rcases Nat.lt_or_ge (Mach.first n p) k with h | h
  · rw [hl _ h] at h2; cases h2
  · exact (Nat.le_antisymm h1 h)
theorem lots0_idx {rs : List RRec} {i : Nat} {r : RRec} (h : rs[i]? = some r) : (rs.map (·.l)).idxOf r.l = (machR rs).lots0 i := by
  have hi : i < rs.length := (List.getElem?_eq_some_iff.mp h).1
  have hm : r.l ∈ rs.map (·.l) := List.mem_map.mpr ⟨r, List.mem_of_getElem? h, rfl⟩
  have hk := List.idxOf_lt_length_iff.mpr hm
  have hlt : ∀ j (hj : j < rs.length), (machR rs).lt j = rs[j].l := fun j hj => by
    show (rs[j]?.map (·.l)).getD 0 = _
    rw [List.getElem?_eq_getElem hj]; rfl
  have hlti : (machR rs).lt i = r.l := by
    show (rs[i]?.map (·.l)).getD 0 = _
    rw [h]; rfl
  have hk' : (rs.map (·.l)).idxOf r.l < rs.length := by simpa using hk
  refine (first_eq (show _ < (machR rs).n from hk') ?_ fun j hj => ?_).symm
  · rw [hlt _ hk', hlti, beq_iff_eq]
    have := List.getElem_idxOf hk
    rw [List.getElem_map] at this
    exact this
  · have hj' : j < rs.length := by exact (Nat.lt_trans hj hk')
    rw [hlt _ hj', hlti, beq_eq_false_iff_ne]
    have := ne_of_lt_idxOf hj (by simpa using hj')
    rw [List.getElem_map, beq_eq_false_iff_ne] at this
    exact this
theorem keys_idx {M : Mach} {n i : Nat} (f : Nat → Nat) (hn : M.n = n) (hi : i < n) : ((List.range n).map fun i => Dat.tuple [.int (f i), .int (f (M.n1 i)), .int (f (M.n0 i))])[M.refine f i]? = some (Dat.tuple [.int (f i), .int (f (M.n1 i)), .int (f (M.n0 i))]) ∧
    ∀ j e, j < M.refine f i → ((List.range n).map fun i => Dat.tuple [.int (f i), .int (f (M.n1 i)), .int (f (M.n0 i))])[j]? = some e → e ≠ Dat.tuple [.int (f i), .int (f (M.n1 i)), .int (f (M.n0 i))] := by
  subst hn
  refine cps fun zG zk => ?_
  obtain ⟨h1, h2, h3⟩ := Mach.first_spec (n := M.n) (p := fun j => M.key f j == M.key f i) hi (by simp)
  refine zk ?_
  clear zk zG
  have hr : M.refine f i = Mach.first M.n (fun j => M.key f j == M.key f i) := rfl
  rw [← hr] at h1 h2 h3
  have ext : ∀ j, M.key f j = M.key f i ↔ Dat.tuple [.int (f j : Nat), .int (f (M.n1 j) : Nat), .int (f (M.n0 j) : Nat)] = Dat.tuple [.int (f i : Nat), .int (f (M.n1 i) : Nat), .int (f (M.n0 i) : Nat)] := fun j => by
    unfold Mach.key
    simp only [Prod.mk.injEq, Dat.tuple.injEq, List.cons.injEq, Dat.int.injEq, and_true]
    (first | exact (qtl h1 h2) | omega)
  refine ⟨?_, fun j e hj he => ?_⟩
  · rw [List.getElem?_map, List.getElem?_range (by exact (Nat.lt_of_le_of_lt h1 hi))]
    exact congrArg some ((ext _).mp (by simpa using h2))
  · rw [List.getElem?_map, List.getElem?_range (by exact (Nat.lt_trans hj (Nat.lt_of_le_of_lt h1 hi)))] at he
    have he' := Option.some.inj he
    intro e2
    rw [← he'] at e2
    have := h3 j hj
    rw [(ext j).mpr e2] at this
    simp at this
namespace ltC
def zP (w : World) (p : Program) (loose : List Str) (mean : ExcName → Option Value) (mg : Str → Option Value) (mb : Str → Option Value) (c : CX) (own : List (Addr × Obj)) (rs : List RRec) (rl : Addr) (nr : Nat) (A₀ : Around) (base : Heap) (h₀ : Heap) (m : Str → Option Value) (s : Shared) (Q : Value → Shared → Prop) (E : Value → Shared → Prop) : Prop := ∀ (B : Below A₀ base c.outer h₀) (F : Fr h₀ c.L s.heap m) (X : (kdef.heap_1 w.params).In h₀) (T : Top p loose mean mg mb h₀) (N : News h₀ c.L s.heap ((rl, W.listOf (rs.map fun r => .ref r.ad).toArray nr) :: own)) (R : ∀ r ∈ rs, RIn rs.length own r) (hlen : rs.length ≤ 5) (hok : ∀ h' tk' (D : Addr) (zs : List (Int × Tok)) (k nn : Nat) (own' : List (Addr × Obj)), Fr h₀ c.L h' m → News h₀ c.L h' ((D, W.listOf (zs.map intV).toArray nn) :: own') → (∀ e ∈ (rl, W.listOf (rs.map fun r => .ref r.ad).toArray nr) :: own, e ∈ own') →
      zs.map Prod.fst = (List.range rs.length).map (fun j => ((machR rs).iter k j : Int)) → (machR rs).Fix ((machR rs).iter k) → (∀ j, j < k → ¬ (machR rs).Fix ((machR rs).iter j)) → Q (.ref D) { s with heap := h', toks := tk' }),
  wpAny (model PG w) (c.T 480 3800) (call (.ref 430) [.ref rl]) Q E s
noncomputable def zc := eps (α := (World) × (Program) × (List Str) × (ExcName → Option Value) × (Str → Option Value) × (Str → Option Value) × (CX) × (List (Addr × Obj)) × (List RRec) × (Addr) × (Nat) × (Around) × (Heap) × (Heap) × (Str → Option Value) × (Shared) × (Value → Shared → Prop) × (Value → Shared → Prop)) ⟨world0, default, default, (fun _ => default), (fun _ => default), (fun _ => default), by constructor <;> exact default, default, default, default, default, {}, {}, {}, (fun _ => default), {}, (fun _ _ => True), (fun _ _ => True)⟩ (fun c => zP c.1 c.2.1 c.2.2.1 c.2.2.2.1 c.2.2.2.2.1 c.2.2.2.2.2.1 c.2.2.2.2.2.2.1 c.2.2.2.2.2.2.2.1 c.2.2.2.2.2.2.2.2.1 c.2.2.2.2.2.2.2.2.2.1 c.2.2.2.2.2.2.2.2.2.2.1 c.2.2.2.2.2.2.2.2.2.2.2.1 c.2.2.2.2.2.2.2.2.2.2.2.2.1 c.2.2.2.2.2.2.2.2.2.2.2.2.2.1 c.2.2.2.2.2.2.2.2.2.2.2.2.2.2.1 c.2.2.2.2.2.2.2.2.2.2.2.2.2.2.2.1 c.2.2.2.2.2.2.2.2.2.2.2.2.2.2.2.2.1 c.2.2.2.2.2.2.2.2.2.2.2.2.2.2.2.2.2)
@[irreducible] noncomputable def w := zc.1.1
@[irreducible] noncomputable def p := zc.1.2.1
@[irreducible] noncomputable def loose := zc.1.2.2.1
@[irreducible] noncomputable def mean := zc.1.2.2.2.1
@[irreducible] noncomputable def mg := zc.1.2.2.2.2.1
@[irreducible] noncomputable def mb := zc.1.2.2.2.2.2.1
@[irreducible] noncomputable def c := zc.1.2.2.2.2.2.2.1
@[irreducible] noncomputable def own := zc.1.2.2.2.2.2.2.2.1
@[irreducible] noncomputable def rs := zc.1.2.2.2.2.2.2.2.2.1
@[irreducible] noncomputable def rl := zc.1.2.2.2.2.2.2.2.2.2.1
@[irreducible] noncomputable def nr := zc.1.2.2.2.2.2.2.2.2.2.2.1
@[irreducible] noncomputable def A₀ := zc.1.2.2.2.2.2.2.2.2.2.2.2.1
@[irreducible] noncomputable def base := zc.1.2.2.2.2.2.2.2.2.2.2.2.2.1
@[irreducible] noncomputable def h₀ := zc.1.2.2.2.2.2.2.2.2.2.2.2.2.2.1
@[irreducible] noncomputable def m := zc.1.2.2.2.2.2.2.2.2.2.2.2.2.2.2.1
@[irreducible] noncomputable def s := zc.1.2.2.2.2.2.2.2.2.2.2.2.2.2.2.2.1
@[irreducible] noncomputable def Q := zc.1.2.2.2.2.2.2.2.2.2.2.2.2.2.2.2.2.1
@[irreducible] noncomputable def E := zc.1.2.2.2.2.2.2.2.2.2.2.2.2.2.2.2.2.2
noncomputable def zpart0 : { R : ((Heap) → (Addr) → (Heap) → (Nat) → (Obj) → (Obj) → (Obj) → (Option Value) → (Option Value) → (List (Addr × Obj)) → (Heap) → Prop) // Hide (∀ g' L' h' tk' o1 o2 o3 w1 w2 led g, R g' L' h' tk' o1 o2 o3 w1 w2 led g) → zP w p loose mean mg mb c own rs rl nr A₀ base h₀ m s Q E } := by
  refine' ⟨_, fun hP1 => ?main⟩
  case main =>
    intro B F X T N R hlen hok
    w_on
    repeat' (first | (k_unfold; (try dsimp only)) | (k_end; wrow_close) | ((first | with_reducible ((with_reducible show wpAny _ _ (eval (Expr.ListComp ..) _) _ _ _); k_here; k_dflt (refine LCg.ListComp_U (F₀ := by k_asm) (by first | rfl | with_unfolding_all rfl) (by decide) (by rfl) (by decide) (by rfl) ?_)) | with_reducible ((with_reducible show LCg.CompSrc ..); k_dflt (refine stop_ ?_)) | walk1); (try ((with_reducible show wpAny _ _ (execs _ _) _ _ (Shared.mk _ _ _ (_ + 1) _)); refine tok_any ?_; intro tkn))) | (dsimp only; walk1) | (leave1; (try dsimp only)))
    unfold Stop
    rename_i g' L' h' tk' FG' F' B' X' T' hTl l1 o1 o2 o3 d1 d2 d3 N'
    refine cps fun zG zk => ?_
    obtain ⟨w1, e1⟩ : ∃ v, o1.data = .cell v := ⟨_, d1⟩
    obtain ⟨w2, e2⟩ : ∃ v, o2.data = .cell v := ⟨_, d2⟩
    refine zk ?_
    clear zk zG
    have e3 : o3.data = .cell (some (.ref rl)) := d3
    ((try clear d3); (try clear d2); (try clear d1))
    refine cps fun zG zk => ?_
    obtain ⟨led, hled, N1⟩ := name_led N'
    refine zk ?_
    clear zk zG
    have m1 : (rl, W.listOf (rs.map fun r => .ref r.ad).toArray nr) ∈ led := by rw [hled]; repeat (first | exact List.Mem.head _ | apply List.Mem.tail)
    have hown : ∀ e ∈ own, e ∈ led := fun e he => by rw [hled]; repeat (first | exact he | apply List.Mem.tail)
    refine LCg.CompSrc.ledger rfl F' N1 m1 (by size_fits) ?_
    intro g
    revert X T R hlen hok X' T' hTl l1 e1 e2 e3 hled m1 hown
    exact hP1.out g' L' h' tk' o1 o2 o3 w1 w2 led g
namespace z1
noncomputable def zc := eps (α := (Heap) × (Addr) × (Heap) × (Nat) × (Obj) × (Obj) × (Obj) × (Option Value) × (Option Value) × (List (Addr × Obj)) × (Heap)) ⟨{}, default, {}, default, default, default, default, default, default, default, {}⟩ (fun c => zpart0.1 c.1 c.2.1 c.2.2.1 c.2.2.2.1 c.2.2.2.2.1 c.2.2.2.2.2.1 c.2.2.2.2.2.2.1 c.2.2.2.2.2.2.2.1 c.2.2.2.2.2.2.2.2.1 c.2.2.2.2.2.2.2.2.2.1 c.2.2.2.2.2.2.2.2.2.2)
@[irreducible] noncomputable def g' := zc.1.1
@[irreducible] noncomputable def L' := zc.1.2.1
@[irreducible] noncomputable def h' := zc.1.2.2.1
@[irreducible] noncomputable def tk' := zc.1.2.2.2.1
@[irreducible] noncomputable def o1 := zc.1.2.2.2.2.1
@[irreducible] noncomputable def o2 := zc.1.2.2.2.2.2.1
@[irreducible] noncomputable def o3 := zc.1.2.2.2.2.2.2.1
@[irreducible] noncomputable def w1 := zc.1.2.2.2.2.2.2.2.1
@[irreducible] noncomputable def w2 := zc.1.2.2.2.2.2.2.2.2.1
@[irreducible] noncomputable def led := zc.1.2.2.2.2.2.2.2.2.2.1
@[irreducible] noncomputable def g := zc.1.2.2.2.2.2.2.2.2.2.2
noncomputable def zpart1 : { R : ((Nat) → (List Value) → (List (Addr × Obj)) → (Addr) → (Obj) → (Addr) → (Obj) → (Addr) → (Str → Option Value) → (Heap) → (Nat) → (Value → Shared → Prop) → (RRec) → Prop) × ((List (Int × Tok)) → (Addr) → (Heap) → (Nat) → Prop) // Hide (∀ i ys news I oI C oC D m₂ h tk E' r, R.1 i ys news I oI C oC D m₂ h tk E' r) → Hide (∀ zs D h tk, R.2 zs D h tk) → zpart0.1 g' L' h' tk' o1 o2 o3 w1 w2 led g } := by
  refine' ⟨(_, _), fun hP2 hP5 => ?main⟩
  case main =>
    intro X T R hlen hok X' T' hTl l1 e1 e2 e3 hled m1 hown
    refine compRest_ind (IntsInv rs.length led fun j => (machR rs).lots0 j) ?_ ?_ _ 0 [] _ (Nat.zero_add _) IntsInv.start
    · intro i ys news hi hv v I oI C oC D m₂ h tk E' hP hC hx F₁ N₁ off ne
      rw [List.size_toArray, List.length_map] at hi
      have hpr : rs[i]? = some rs[i] := List.getElem?_eq_getElem hi
      generalize rs[i] = r at hpr
      have hvv : v = .ref r.ad := by
        rw [List.getElem?_toArray, List.getElem?_map, hpr] at hP
        exact (Option.some.inj hP).symm
      subst hvv
      have hnw : ∀ e ∈ led, e ∈ news := by obtain ⟨_, _, _, _, h⟩ := hv; exact h
      have c3 : (L' + 1, o3) ∈ news := hnw _ (by rw [hled]; repeat (first | exact List.Mem.head _ | apply List.Mem.tail))
      revert X R hlen X' e3 m1 hown hi hv hC F₁ N₁ off hpr hx hnw c3
      exact hP2.out i ys news I oI C oC D m₂ h tk E' r
    · intro ys news hv
      rw [List.size_toArray, List.length_map] at hv
      refine cps fun zG zk => ?_
      obtain ⟨zs, hz1, hz2, -, hnw⟩ := hv
      refine zk ?_
      clear zk zG
      subst hz1
      unfold LCg.FinE
      intro D h tk F₁ N₁ o1'
      have N₂ := news_sub (led' := (L' + 1 + 1 + 1, o1) :: (L' + 1 + 1, o2) :: (L' + 1, o3) :: (D, LCg.lst (zs.map intV)) :: (rl, W.listOf (rs.map fun r => .ref r.ad).toArray nr) :: own) N₁ (fun e he => by
        rw [hled] at hnw
        simp only [List.mem_cons] at he ⊢
        rcases he with rfl | rfl | rfl | rfl | he
        · exact .inr (hnw _ (.head _))
        · exact .inr (hnw _ (.tail _ (.head _)))
        · exact .inr (hnw _ (.tail _ (.tail _ (.head _))))
        · exact .inl rfl
        · rcases he with rfl | he
          · exact .inr (hnw _ (.tail _ (.tail _ (.tail _ (.head _)))))
          · exact .inr (hnw _ (.tail _ (.tail _ (.tail _ (.tail _ he))))))
      have offD : ∀ e ∈ led, @Ne Nat e.1 D := fun e he => by
        have : ∀ (l : List (Addr × Obj)), LCg.Off1 D l → ∀ e ∈ l, @Ne Nat e.1 D := by
          intro l
          induction l with
          | nil => intro _ e he; cases he
          | cons a l ih =>
            intro ho e he
            rcases List.mem_cons.mp he with rfl | he
            · exact ho.1
            · exact ih ho.2 e he
        exact this _ o1' e (hnw e he)
      have od1 := offD (L' + 1 + 1 + 1, o1) (by rw [hled]; exact .head _)
      have od2 := offD (L' + 1 + 1, o2) (by rw [hled]; exact .tail _ (.head _))
      have ow1 : ∀ e ∈ own, e.1 ≠ L' + 1 + 1 + 1 := fun e he => Nat.ne_of_lt (Nat.lt_trans (Lts.at hTl he) (by exact (qlt (ql3 qls) qn3)))
      have ow2 : ∀ e ∈ own, e.1 ≠ L' + 1 + 1 := fun e he => Nat.ne_of_lt (Nat.lt_trans (Lts.at hTl he) (by exact (ql1 qls)))
      ((try clear N1); (try clear N₁))
      revert X T R hlen hok X' T' hTl l1 e1 e2 e3 hz2 F₁ N₂ od1 od2 ow1 ow2
      exact hP5.out zs D h tk

namespace z2
noncomputable def zc := eps (α := (Nat) × (List Value) × (List (Addr × Obj)) × (Addr) × (Obj) × (Addr) × (Obj) × (Addr) × (Str → Option Value) × (Heap) × (Nat) × (Value → Shared → Prop) × (RRec)) ⟨default, default, default, default, default, default, default, default, (fun _ => default), {}, default, (fun _ _ => True), by constructor <;> exact default⟩ (fun c => zpart1.1.1 c.1 c.2.1 c.2.2.1 c.2.2.2.1 c.2.2.2.2.1 c.2.2.2.2.2.1 c.2.2.2.2.2.2.1 c.2.2.2.2.2.2.2.1 c.2.2.2.2.2.2.2.2.1 c.2.2.2.2.2.2.2.2.2.1 c.2.2.2.2.2.2.2.2.2.2.1 c.2.2.2.2.2.2.2.2.2.2.2.1 c.2.2.2.2.2.2.2.2.2.2.2.2)
@[irreducible] noncomputable def i := zc.1.1
@[irreducible] noncomputable def ys := zc.1.2.1
@[irreducible] noncomputable def news := zc.1.2.2.1
@[irreducible] noncomputable def I := zc.1.2.2.2.1
@[irreducible] noncomputable def oI := zc.1.2.2.2.2.1
@[irreducible] noncomputable def C := zc.1.2.2.2.2.2.1
@[irreducible] noncomputable def oC := zc.1.2.2.2.2.2.2.1
@[irreducible] noncomputable def D := zc.1.2.2.2.2.2.2.2.1
@[irreducible] noncomputable def m₂ := zc.1.2.2.2.2.2.2.2.2.1
@[irreducible] noncomputable def h := zc.1.2.2.2.2.2.2.2.2.2.1
@[irreducible] noncomputable def tk := zc.1.2.2.2.2.2.2.2.2.2.2.1
@[irreducible] noncomputable def E' := zc.1.2.2.2.2.2.2.2.2.2.2.2.1
@[irreducible] noncomputable def r := zc.1.2.2.2.2.2.2.2.2.2.2.2.2
noncomputable def zpart2 : { R : ((Heap) → (Nat) → (List Value) → (List (Addr × Obj)) → (Addr) → (Obj) → (Addr) → (Obj) → (Addr) → (Str → Option Value) → (Heap) → (Nat) → (Value → Shared → Prop) → (RRec) → Prop) × ((Heap) → (List (Addr × Obj)) → (List (Int × Tok)) → (Addr) → (Heap) → (Nat) → Prop) // Hide (∀ g2 i2 ys2 news2 I2 oI2 C2 oC2 D2 m3 h3 tk3 E3 r2, R.1 g2 i2 ys2 news2 I2 oI2 C2 oC2 D2 m3 h3 tk3 E3 r2) → Hide (∀ g2 news2 zs D2 h3 tk3, R.2 g2 news2 zs D2 h3 tk3) → zpart1.1.1 i ys news I oI C oC D m₂ h tk E' r } := by
  refine' ⟨(_, _), fun hP3 hP4 => ?main⟩
  case main =>
    intro X R hlen X' e3 m1 hown hi hv hC F₁ N₁ off hpr hx hnw c3
    repeat' (first | (k_unfold; (try dsimp only)) | (k_end; wrow_close) | ((first | with_reducible ((with_reducible show wpAny _ _ (eval (Expr.ListComp ..) _) _ _ _); k_here; k_dflt (refine LCg.ListComp_U (F₀ := by k_asm) (by first | rfl | with_unfolding_all rfl) (by decide) (by rfl) (by decide) (by rfl) ?_)) | with_reducible ((with_reducible show LCg.CompSrc ..); k_dflt (refine stop_ ?_)) | walk1); (try ((with_reducible show wpAny _ _ (execs _ _) _ _ (Shared.mk _ _ _ (_ + 1) _)); refine tok_any ?_; intro tkn))) | (dsimp only; walk1) | (leave1; (try dsimp only)))
    unfold Stop
    refine LCg.CompSrc.ledger rfl F₁ N₁ (.tail _ (.tail _ (.tail _ (hnw _ m1)))) (by size_fits) ?_
    intro g2
    refine compRest_ind (IntsInv rs.length ((I, oI) :: (C, oC) :: (D, LCg.lst ys) :: news) fun j => (machR rs).lt j) ?_ ?_ _ 0 [] _ (Nat.zero_add _) IntsInv.start
    · intro i2 ys2 news2 hi2 hv2 v2 I2 oI2 C2 oC2 D2 m3 h3 tk3 E3 hP2 hC2 hx2 F₂ N₂ off2 ne2
      rw [List.size_toArray, List.length_map] at hi2
      have hpr2 : rs[i2]? = some rs[i2] := List.getElem?_eq_getElem hi2
      generalize rs[i2] = r2 at hpr2
      have hvv : v2 = .ref r2.ad := by
        rw [List.getElem?_toArray, List.getElem?_map, hpr2] at hP2
        exact (Option.some.inj hP2).symm
      subst hvv
      have hsub2 : ∀ e ∈ (I, oI) :: (C, oC) :: (D, LCg.lst ys) :: news, e ∈ news2 := by obtain ⟨_, _, _, _, h⟩ := hv2; exact h
      have c4 := hsub2 _ (.tail _ (.tail _ (.tail _ (hnw _ (hown _ (R r2 (List.mem_of_getElem? hpr2)).m)))))
      rename_i z3_1
      revert X X' m1 hnw hi2 hv2 hC2 F₂ N₂ off2 hpr2 hx2 hsub2 c4
      exact hP3.out g2 i2 ys2 news2 I2 oI2 C2 oC2 D2 m3 h3 tk3 E3 r2
    · intro ys2 news2 hv2
      rw [List.size_toArray, List.length_map] at hv2
      refine cps fun zG zk => ?_
      obtain ⟨zs, hz1, hz2, -, hsub2⟩ := hv2
      refine zk ?_
      clear zk zG
      subst hz1
      unfold LCg.FinE
      intro D2 h3 tk3 F₂ N₂ o1'
      have hzl : zs.map Prod.fst = rs.map (·.l) := by
        rw [hz2]
        refine List.ext_getElem? fun j => ?_
        rcases Nat.lt_or_ge j rs.length with hj | hj
        · rw [List.getElem?_map, List.getElem?_map, List.getElem?_range hj, List.getElem?_eq_getElem hj]
          show some ((rs[j]?.map (·.l)).getD 0) = _
          rw [List.getElem?_eq_getElem hj]; rfl
        · rw [List.getElem?_eq_none (by simpa using hj), List.getElem?_eq_none (by simpa using hj)]
      have hm9 : r.l ∈ zs.map Prod.fst := by rw [hzl]; exact List.mem_map.mpr ⟨r, List.mem_of_getElem? hpr, rfl⟩
      have hz9 : zs.length ≤ 1000 := by have := congrArg List.length hzl; simp only [List.length_map] at this; exact (q1k (qele this hlen) (by decide))
      have c5 := hsub2 _ (.tail _ (.head _))
      have c6 := hsub2 _ (.tail _ (.tail _ (.tail _ (hnw _ (hown _ (R r (List.mem_of_getElem? hpr)).m)))))
      rename_i z4_1
      revert X X' m1 hi hv hC off hpr hx hnw qk ek hsub2 F₂ N₂ hzl hm9 hz9 c5 c6
      exact hP4.out g2 news2 zs D2 h3 tk3
namespace z3
noncomputable def zc := eps (α := (Heap) × (Nat) × (List Value) × (List (Addr × Obj)) × (Addr) × (Obj) × (Addr) × (Obj) × (Addr) × (Str → Option Value) × (Heap) × (Nat) × (Value → Shared → Prop) × (RRec)) ⟨{}, default, default, default, default, default, default, default, default, (fun _ => default), {}, default, (fun _ _ => True), by constructor <;> exact default⟩ (fun c => zpart2.1.1 c.1 c.2.1 c.2.2.1 c.2.2.2.1 c.2.2.2.2.1 c.2.2.2.2.2.1 c.2.2.2.2.2.2.1 c.2.2.2.2.2.2.2.1 c.2.2.2.2.2.2.2.2.1 c.2.2.2.2.2.2.2.2.2.1 c.2.2.2.2.2.2.2.2.2.2.1 c.2.2.2.2.2.2.2.2.2.2.2.1 c.2.2.2.2.2.2.2.2.2.2.2.2.1 c.2.2.2.2.2.2.2.2.2.2.2.2.2)
@[irreducible] noncomputable def g2 := zc.1.1
@[irreducible] noncomputable def i2 := zc.1.2.1
@[irreducible] noncomputable def ys2 := zc.1.2.2.1
@[irreducible] noncomputable def news2 := zc.1.2.2.2.1
@[irreducible] noncomputable def I2 := zc.1.2.2.2.2.1
@[irreducible] noncomputable def oI2 := zc.1.2.2.2.2.2.1
@[irreducible] noncomputable def C2 := zc.1.2.2.2.2.2.2.1
@[irreducible] noncomputable def oC2 := zc.1.2.2.2.2.2.2.2.1
@[irreducible] noncomputable def D2 := zc.1.2.2.2.2.2.2.2.2.1
@[irreducible] noncomputable def m3 := zc.1.2.2.2.2.2.2.2.2.2.1
@[irreducible] noncomputable def h3 := zc.1.2.2.2.2.2.2.2.2.2.2.1
@[irreducible] noncomputable def tk3 := zc.1.2.2.2.2.2.2.2.2.2.2.2.1
@[irreducible] noncomputable def E3 := zc.1.2.2.2.2.2.2.2.2.2.2.2.2.1
@[irreducible] noncomputable def r2 := zc.1.2.2.2.2.2.2.2.2.2.2.2.2.2
theorem zat : zpart2.1.1 g2 i2 ys2 news2 I2 oI2 C2 oC2 D2 m3 h3 tk3 E3 r2 := by
  intro X X' m1 hnw hi2 hv2 hC2 F₂ N₂ off2 hpr2 hx2 hsub2 c4
  repeat' (first | (k_unfold; (try dsimp only)) | (k_end; wrow_close) | ((first | with_reducible ((with_reducible show LCg.CompEnd ..); k_dflt (refine stop_ ?_)) | walk1); (try ((with_reducible show wpAny _ _ (execs _ _) _ _ (Shared.mk _ _ _ (_ + 1) _)); refine tok_any ?_; intro tkn))) | (dsimp only; walk1) | (leave1; (try dsimp only)))
  unfold Stop
  refine LCg.CompEnd.intro F₂ N₂ news2 (fun e he => he) off2 (.inr ⟨_, hsub2 _ (.tail _ (.tail _ (.tail _ (hnw _ m1)))), rfl, _, rfl⟩) (hv2.snoc hi2 ?_ hsub2)
  show r2.l = (rs[i2]?.map (·.l)).getD 0
  rw [hpr2]; rfl
theorem zall : ∀ g2 i2 ys2 news2 I2 oI2 C2 oC2 D2 m3 h3 tk3 E3 r2, zpart2.1.1 g2 i2 ys2 news2 I2 oI2 C2 oC2 D2 m3 h3 tk3 E3 r2 := fun g2 i2 ys2 news2 I2 oI2 C2 oC2 D2 m3 h3 tk3 E3 r2 => @epsH _ _ zc (by with_unfolding_all exact zat) (g2, i2, ys2, news2, I2, oI2, C2, oC2, D2, m3, h3, tk3, E3, r2)
end z3
namespace z4
noncomputable def zc := eps (α := (Heap) × (List (Addr × Obj)) × (List (Int × Tok)) × (Addr) × (Heap) × (Nat)) ⟨{}, default, default, default, {}, default⟩ (fun c => zpart2.1.2 c.1 c.2.1 c.2.2.1 c.2.2.2.1 c.2.2.2.2.1 c.2.2.2.2.2)
@[irreducible] noncomputable def g2 := zc.1.1
@[irreducible] noncomputable def news2 := zc.1.2.1
@[irreducible] noncomputable def zs := zc.1.2.2.1
@[irreducible] noncomputable def D2 := zc.1.2.2.2.1
@[irreducible] noncomputable def h3 := zc.1.2.2.2.2.1
@[irreducible] noncomputable def tk3 := zc.1.2.2.2.2.2
theorem zat : zpart2.1.2 g2 news2 zs D2 h3 tk3 := by
  intro X X' m1 hi hv hC off hpr hx hnw qk ek hsub2 F₂ N₂ hzl hm9 hz9 c5 c6
  repeat' (first | (k_unfold; (try dsimp only)) | (k_end; wrow_close) | ((first | with_reducible ((with_reducible show wpAny _ _ (call (Value.builtin _) _) _ _ _); k_here; k_dflt (refine' index_ints ?Nx64 ?mx64 ?ix64 ?zx64 ?_; (case Nx64 => k_asm); (case mx64 => exact .head _); (case ix64 => exact hm9); (case zx64 => exact hz9))) | with_reducible ((with_reducible show LCg.CompEnd ..); k_dflt (refine stop_ ?_)) | walk1); (try ((with_reducible show wpAny _ _ (execs _ _) _ _ (Shared.mk _ _ _ (_ + 1) _)); refine tok_any ?_; intro tkn))) | (dsimp only; walk1) | (leave1; (try dsimp only)))
  unfold Stop
  refine LCg.CompEnd.intro F₂ N₂ news (fun e he => .tail _ (hsub2 e he)) off (.inr ⟨_, hnw _ m1, rfl, _, rfl⟩) (hv.snoc hi ?_ hnw)
  rw [hzl, lots0_idx hpr]
theorem zall : ∀ g2 news2 zs D2 h3 tk3, zpart2.1.2 g2 news2 zs D2 h3 tk3 := fun g2 news2 zs D2 h3 tk3 => @epsH _ _ zc (by with_unfolding_all exact zat) (g2, news2, zs, D2, h3, tk3)
end z4
theorem zat : zpart1.1.1 i ys news I oI C oC D m₂ h tk E' r := zpart2.2 ⟨z3.zall⟩ ⟨z4.zall⟩
theorem zall : ∀ i ys news I oI C oC D m₂ h tk E' r, zpart1.1.1 i ys news I oI C oC D m₂ h tk E' r := fun i ys news I oI C oC D m₂ h tk E' r => @epsH _ _ zc (by with_unfolding_all exact zat) (i, ys, news, I, oI, C, oC, D, m₂, h, tk, E', r)
end z2
namespace z5
noncomputable def zc := eps (α := (List (Int × Tok)) × (Addr) × (Heap) × (Nat)) ⟨default, default, {}, default⟩ (fun c => zpart1.1.2 c.1 c.2.1 c.2.2.1 c.2.2.2)
@[irreducible] noncomputable def zs := zc.1.1
@[irreducible] noncomputable def D := zc.1.2.1
@[irreducible] noncomputable def h := zc.1.2.2.1
@[irreducible] noncomputable def tk := zc.1.2.2.2
noncomputable def zpart5 : { R : ((Nat) → (Nat) → (Nat) → (Obj) → (Obj) → (Addr) → (List (Int × Tok)) → (Nat) → (List (Addr × Obj)) → (Heap) → (Nat) → (Str → Option Value) → (Option Value) → Prop) // Hide (∀ K k j okk ol D zs nn rest h6 tk6 m6 v6, R K k j okk ol D zs nn rest h6 tk6 m6 v6) → zpart1.1.2 zs D h tk } := by
  refine' ⟨_, fun hP6 => ?main⟩
  case main =>
    intro X T R hlen hok X' T' hTl l1 e1 e2 e3 hz2 F₁ N₂ od1 od2 ow1 ow2
    repeat' (first | (k_unfold; (try dsimp only)) | (k_end; wrow_close) | ((first | with_reducible ((with_reducible show wpAny _ _ (exec (Stmt.While ..) _) _ _ _); k_dflt (refine stop_ ?_)) | walk1); (try ((with_reducible show wpAny _ _ (execs _ _) _ _ (Shared.mk _ _ _ (_ + 1) _)); refine tok_any ?_; intro tkn))) | (dsimp only; walk1) | (leave1; (try dsimp only)))
    unfold Stop
    rename_i h5 o5 F5 N5 d5
    refine cps fun zG zk => ?_
    obtain ⟨K, hK1, hK2, -⟩ := (machR rs).lots_end (machR_ok R)
    refine zk ?_
    clear zk zG
    refine whl_start 0 ?_
    refine whl_ind (fun k s' => ∃ (j : Nat) (okk ol : Obj) (D : Addr) (zs : List (Int × Tok)) (nn : Nat) (rest : List (Addr × Obj)) (h' : Heap) (tk : Nat) (m' : Str → Option Value) (v : Option Value), j + k = K ∧ s' = { s with heap := h', toks := tk } ∧ Fr g' L' h' m' ∧
      News g' L' h' ((L' + 1 + 1 + 1, okk) :: (L' + 1 + 1, ol) :: (L' + 1, o3) :: rest) ∧ okk.data = .cell v ∧ ol.data = .cell (some (.ref D)) ∧ (D, W.listOf (zs.map intV).toArray nn) ∈ rest ∧ (∀ e ∈ (rl, W.listOf (rs.map fun r => .ref r.ad).toArray nr) :: own, e ∈ rest) ∧ (∀ e ∈ rest, @Ne Nat e.1 (L' + 1 + 1 + 1)) ∧ (∀ e ∈ rest, @Ne Nat e.1 (L' + 1 + 1)) ∧ zs.map Prod.fst = (List.range rs.length).map (fun i => ((machR rs).iter j i : Int))) ?_ K _ ?_
    · intro k s' hI IH
      refine cps fun zG zk => ?_
      obtain ⟨j, okk, ol, D, zs, nn, rest, h6, tk6, m6, v6, hj, rfl, F6, N6, dk, dl, mD, mR, of1, of2, hz⟩ := hI
      refine zk ?_
      clear zk zG
      have mrl := mR _ (.head _)
      have hzl : zs.length = rs.length := by have := congrArg List.length hz; simpa using this
      revert X T R hlen hok X' T' hTl e3 hK1 hK2 IH hj F6 N6 dk dl mD mR hz mrl hzl
      exact hP6.out K k j okk ol D zs nn rest h6 tk6 m6 v6
    · refine ⟨0, o1, o5, D, zs, _, _, h5, _, _, _, Nat.zero_add _, rfl, F5, N5, e1, d5, .head _, fun e he => .tail _ he, ?_, ?_, hz2⟩
      · intro e he
        rcases List.mem_cons.mp he with rfl | he
        · exact Ne.symm od1
        rcases List.mem_cons.mp he with rfl | he
        · refine neN ?_; have := l1.1; dsimp only; (first | exact (qne (ql3 (And.left l1))) | exact (qne (ql1 (ql1 (And.left l1)))) | omega)
        · exact ow1 e he
      · intro e he
        rcases List.mem_cons.mp he with rfl | he
        · exact Ne.symm od2
        rcases List.mem_cons.mp he with rfl | he
        · refine neN ?_; have := l1.1; dsimp only; (first | exact (qne (ql3 (And.left l1))) | exact (qne (ql1 (ql1 (And.left l1)))) | omega)
        · exact ow2 e he
namespace z6
noncomputable def zc := eps (α := (Nat) × (Nat) × (Nat) × (Obj) × (Obj) × (Addr) × (List (Int × Tok)) × (Nat) × (List (Addr × Obj)) × (Heap) × (Nat) × (Str → Option Value) × (Option Value)) ⟨default, default, default, default, default, default, default, default, default, {}, default, (fun _ => default), default⟩ (fun c => zpart5.1 c.1 c.2.1 c.2.2.1 c.2.2.2.1 c.2.2.2.2.1 c.2.2.2.2.2.1 c.2.2.2.2.2.2.1 c.2.2.2.2.2.2.2.1 c.2.2.2.2.2.2.2.2.1 c.2.2.2.2.2.2.2.2.2.1 c.2.2.2.2.2.2.2.2.2.2.1 c.2.2.2.2.2.2.2.2.2.2.2.1 c.2.2.2.2.2.2.2.2.2.2.2.2)
@[irreducible] noncomputable def K := zc.1.1
@[irreducible] noncomputable def k := zc.1.2.1
@[irreducible] noncomputable def j := zc.1.2.2.1
@[irreducible] noncomputable def okk := zc.1.2.2.2.1
@[irreducible] noncomputable def ol := zc.1.2.2.2.2.1
@[irreducible] noncomputable def D := zc.1.2.2.2.2.2.1
@[irreducible] noncomputable def zs := zc.1.2.2.2.2.2.2.1
@[irreducible] noncomputable def nn := zc.1.2.2.2.2.2.2.2.1
@[irreducible] noncomputable def rest := zc.1.2.2.2.2.2.2.2.2.1
@[irreducible] noncomputable def h6 := zc.1.2.2.2.2.2.2.2.2.2.1
@[irreducible] noncomputable def tk6 := zc.1.2.2.2.2.2.2.2.2.2.2.1
@[irreducible] noncomputable def m6 := zc.1.2.2.2.2.2.2.2.2.2.2.2.1
@[irreducible] noncomputable def v6 := zc.1.2.2.2.2.2.2.2.2.2.2.2.2
noncomputable def zpart6 : { R : ((Heap) → (Nat) → (List (Addr × Obj)) → (Heap) → Prop) // Hide (∀ h7 tk7 led7 g7, R h7 tk7 led7 g7) → zpart5.1 K k j okk ol D zs nn rest h6 tk6 m6 v6 } := by
  refine' ⟨_, fun hP7 => ?main⟩
  case main =>
    intro X T R hlen hok X' T' hTl e3 hK1 hK2 IH hj F6 N6 dk dl mD mR hz mrl hzl
    repeat' (first | (k_unfold; (try dsimp only)) | (k_end; wrow_close) | ((first | with_reducible ((with_reducible show wpAny _ _ (eval (Expr.ListComp ..) _) _ _ _); k_here; k_dflt (refine LCg.ListComp_U (F₀ := by k_asm) (by first | rfl | with_unfolding_all rfl) (by decide) (by rfl) (by decide) (by rfl) ?_)) | with_reducible (k_here; (with_reducible show wpAny _ _ (call (Value.builtin _) [Value.ref _]) _ _ _); k_dflt (refine' len_list ?k1x68 ?k2x68 ?_; (case k1x68 => exact News.isList (by k_asm) (by k_mem)); (case k2x68 => (simp only [List.size_toArray, List.length_map]; exact (qib hlen (by decide)))); (simp only [List.size_toArray, List.length_map]))) | with_reducible ((with_reducible show LCg.CompSrc ..); k_dflt (refine stop_ ?_)) | walk1); (try ((with_reducible show wpAny _ _ (execs _ _) _ _ (Shared.mk _ _ _ (_ + 1) _)); refine tok_any ?_; intro tkn))) | (dsimp only; walk1) | (leave1; (try dsimp only)))
    unfold Stop
    rename_i h7 tk7 t7 u7 v7 hR7 F7 N7 hk7
    refine cps fun zG zk => ?_
    obtain ⟨led7, hled7, N8⟩ := name_led N7
    refine zk ?_
    clear zk zG
    have b1 : (L' + 1 + 1 + 1, okk) ∈ led7 := by rw [hled7]; exact .head _
    have b2 : (L' + 1 + 1, ol) ∈ led7 := by rw [hled7]; exact .tail _ (.head _)
    have b3 : (L' + 1, o3) ∈ led7 := by rw [hled7]; exact .tail _ (.tail _ (.head _))
    have b4 : (rl, W.listOf (rs.map fun r => .ref r.ad).toArray nr) ∈ led7 := by rw [hled7]; exact .tail _ (.tail _ (.tail _ mrl))
    have b5 : (D, W.listOf (zs.map intV).toArray nn) ∈ led7 := by rw [hled7]; exact .tail _ (.tail _ (.tail _ mD))
    have b6 : ∀ e ∈ own, e ∈ led7 := fun e he => by rw [hled7]; exact .tail _ (.tail _ (.tail _ (mR _ (.tail _ he))))
    refine LCg.CompSrc.range (n := rs.length) rfl F7 N8 hR7 (small8 _ (by exact (Nat.lt_of_le_of_lt hlen (by decide)))) (size8 _) (by rw [PySem.sizeLine_eq]; exact (q16 hlen (by decide))) ?_
    intro g7
    revert X T R hlen hok X' hTl e3 hK1 hK2 IH hj dk dl hz hzl b1 b2 b3 b4 b5 b6
    exact hP7.out h7 tk7 led7 g7
namespace z7
noncomputable def zc := eps (α := (Heap) × (Nat) × (List (Addr × Obj)) × (Heap)) ⟨{}, default, default, {}⟩ (fun c => zpart6.1 c.1 c.2.1 c.2.2.1 c.2.2.2)
@[irreducible] noncomputable def h7 := zc.1.1
@[irreducible] noncomputable def tk7 := zc.1.2.1
@[irreducible] noncomputable def led7 := zc.1.2.2.1
@[irreducible] noncomputable def g7 := zc.1.2.2.2
noncomputable def zpart7 : { R : ((Nat) → (List Value) → (List (Addr × Obj)) → (Addr) → (Obj) → (Addr) → (Obj) → (Addr) → (Str → Option Value) → (Heap) → (Nat) → (Value → Shared → Prop) → (Tok) → (RRec) → (Tok) → (Tok) → (Tok) → Prop) × ((List Value) → (List (Addr × Obj)) → (Addr) → (Heap) → (Nat) → (List (Addr × Obj)) → Prop) // Hide (∀ i ys news I oI C oC D2 m₂ h tk E' ti r y1 y2 y3, R.1 i ys news I oI C oC D2 m₂ h tk E' ti r y1 y2 y3) → Hide (∀ ys news D3 h8 tk8 R9, R.2 ys news D3 h8 tk8 R9) → zpart6.1 h7 tk7 led7 g7 } := by
  refine' ⟨(_, _), fun hP8 hP9 => ?main⟩
  case main =>
    intro X T R hlen hok X' hTl e3 hK1 hK2 IH hj dk dl hz hzl b1 b2 b3 b4 b5 b6
    refine compRest_ind (DatInv rs.length led7 fun i => Dat.tuple [.int ((machR rs).iter j i), .int ((machR rs).iter j ((machR rs).n1 i)), .int ((machR rs).iter j ((machR rs).n0 i))]) ?_ ?_ _ 0 [] _ (Nat.zero_add _) DatInv.start
    · intro i ys news hi hv v I oI C oC D2 m₂ h tk E' hP hC hx F₁ N₁ off ne
      refine cps fun zG zk => ?_
      obtain ⟨ti, rfl⟩ := hP
      refine zk ?_
      clear zk zG
      have hpr : rs[i]? = some rs[i] := List.getElem?_eq_getElem hi
      generalize rs[i] = r at hpr
      refine cps fun zG zk => ?_
      obtain ⟨r1, r2, ⟨r3, r4⟩, r5, r6⟩ := R r (List.mem_of_getElem? hpr)
      have hnw : ∀ e ∈ led7, e ∈ news := hv.2.2
      have c1 := hnw _ b1
      have c2 := hnw _ b2
      have c3 := hnw _ b3
      have c4 := hnw _ b4
      have c5 := hnw _ b5
      have c6 := hnw _ (b6 _ r1)
      have g1 : (rs.map fun r => Value.ref r.ad)[((0 : Int) + (i : Int)).toNat]? = some (.ref r.ad) := by rw [show ((0 : Int) + (i : Int)).toNat = i by exact qzi, List.getElem?_map, hpr]; rfl
      obtain ⟨y1, g2⟩ := ints_get hz (k := (0 : Int) + (i : Int)) (by exact qz0) (by exact (qzl (qcl hi)))
      obtain ⟨y2, g3⟩ := ints_get hz r3 r4
      obtain ⟨y3, g4⟩ := ints_get hz r5 r6
      refine zk ?_
      clear zk zG
      revert X hlen X' e3 dl hzl hi hv hC F₁ N₁ off hx hpr r3 r4 r5 r6 c2 c3 c4 c5 c6 g1 g2 g3 g4
      exact hP8.out i ys news I oI C oC D2 m₂ h tk E' ti r y1 y2 y3
    · intro ys news hv
      unfold LCg.FinE
      intro D3 h8 tk8 F8 N8 o1'
      refine cps fun zG zk => ?_
      obtain ⟨hv1, -, hnw⟩ := hv
      obtain ⟨R9, N9, i1, i2, i3⟩ := resplitG [(L' + 1 + 1 + 1, okk), (L' + 1 + 1, ol), (L' + 1, o3)] N8 (by
        intro c hc
        simp only [List.mem_cons, List.not_mem_nil, or_false] at hc
        rcases hc with rfl | rfl | rfl
        · exact .tail _ (hnw _ b1)
        · exact .tail _ (hnw _ b2)
        · exact .tail _ (hnw _ b3)) (by
        intro c hc
        simp only [List.mem_cons, List.not_mem_nil, or_false] at hc
        rcases hc with rfl | rfl | rfl
        · exact cell_is dk
        · exact cell_is dl
        · exact cell_is e3)
      refine zk ?_
      clear zk zG
      have j1 := i3 _ (.head _)
      have j2 := i3 _ (.tail _ (.head _))
      have hv2 := datAll_sub (fun p hp hc => i1 p (.tail _ hp) hc) hv1
      have q1 : (D3, LCg.lst ys) ∈ R9 := i1 _ (.head _) rfl
      have q2 : (rl, W.listOf (rs.map fun r => .ref r.ad).toArray nr) ∈ R9 := i1 _ (.tail _ (hnw _ b4)) rfl
      have q3 : (D, W.listOf (zs.map intV).toArray nn) ∈ R9 := i1 _ (.tail _ (hnw _ b5)) rfl
      ((try clear N7); (try clear N8))
      simp only [List.cons_append, List.nil_append] at N9
      revert X T hlen hok X' hTl e3 hK1 hK2 IH hj dk dl hz hzl b6 F8 hnw N9 i2 j1 hv2 q1 q2 q3
      exact hP9.out ys news D3 h8 tk8 R9
namespace z8
noncomputable def zc := eps (α := (Nat) × (List Value) × (List (Addr × Obj)) × (Addr) × (Obj) × (Addr) × (Obj) × (Addr) × (Str → Option Value) × (Heap) × (Nat) × (Value → Shared → Prop) × (Tok) × (RRec) × (Tok) × (Tok) × (Tok)) ⟨default, default, default, default, default, default, default, default, (fun _ => default), {}, default, (fun _ _ => True), default, by constructor <;> exact default, default, default, default⟩ (fun c => zpart7.1.1 c.1 c.2.1 c.2.2.1 c.2.2.2.1 c.2.2.2.2.1 c.2.2.2.2.2.1 c.2.2.2.2.2.2.1 c.2.2.2.2.2.2.2.1 c.2.2.2.2.2.2.2.2.1 c.2.2.2.2.2.2.2.2.2.1 c.2.2.2.2.2.2.2.2.2.2.1 c.2.2.2.2.2.2.2.2.2.2.2.1 c.2.2.2.2.2.2.2.2.2.2.2.2.1 c.2.2.2.2.2.2.2.2.2.2.2.2.2.1 c.2.2.2.2.2.2.2.2.2.2.2.2.2.2.1 c.2.2.2.2.2.2.2.2.2.2.2.2.2.2.2.1 c.2.2.2.2.2.2.2.2.2.2.2.2.2.2.2.2)
@[irreducible] noncomputable def i := zc.1.1
@[irreducible] noncomputable def ys := zc.1.2.1
@[irreducible] noncomputable def news := zc.1.2.2.1
@[irreducible] noncomputable def I := zc.1.2.2.2.1
@[irreducible] noncomputable def oI := zc.1.2.2.2.2.1
@[irreducible] noncomputable def C := zc.1.2.2.2.2.2.1
@[irreducible] noncomputable def oC := zc.1.2.2.2.2.2.2.1
@[irreducible] noncomputable def D2 := zc.1.2.2.2.2.2.2.2.1
@[irreducible] noncomputable def m₂ := zc.1.2.2.2.2.2.2.2.2.1
@[irreducible] noncomputable def h := zc.1.2.2.2.2.2.2.2.2.2.1
@[irreducible] noncomputable def tk := zc.1.2.2.2.2.2.2.2.2.2.2.1
@[irreducible] noncomputable def E' := zc.1.2.2.2.2.2.2.2.2.2.2.2.1
@[irreducible] noncomputable def ti := zc.1.2.2.2.2.2.2.2.2.2.2.2.2.1
@[irreducible] noncomputable def r := zc.1.2.2.2.2.2.2.2.2.2.2.2.2.2.1
@[irreducible] noncomputable def y1 := zc.1.2.2.2.2.2.2.2.2.2.2.2.2.2.2.1
@[irreducible] noncomputable def y2 := zc.1.2.2.2.2.2.2.2.2.2.2.2.2.2.2.2.1
@[irreducible] noncomputable def y3 := zc.1.2.2.2.2.2.2.2.2.2.2.2.2.2.2.2.2
theorem zat : zpart7.1.1 i ys news I oI C oC D2 m₂ h tk E' ti r y1 y2 y3 := by
  intro X hlen X' e3 dl hzl hi hv hC F₁ N₁ off hx hpr r3 r4 r5 r6 c2 c3 c4 c5 c6 g1 g2 g3 g4
  repeat' (first | (k_unfold; (try dsimp only)) | (k_end; wrow_close) | ((first | with_reducible ((with_reducible show wpAny _ _ (subscriptTail (Expr.Name ..) (Expr.Name ..) (Value.ref _) (Value.int ..)) _ _ _); k_here; (with_reducible show wpAny _ _ (subscriptTail _ _ (Value.ref _) (Value.int _ _)) _ _ _); (with_unfolding_all refine' item_litK ?k1x70 ?k2x70 ?k3x70 ?k4x70 ?_ ?k6x70; (case k1x70 => refine News.isList (by k_asm) (by k_mem)); (case k4x70 => with_reducible assumption); (case k2x70 => exact qz0); (case k3x70 => exact (qzl (qib (Nat.le_of_lt hi) (q1k hlen (by decide))))); (case k6x70 => with_unfolding_all rfl); k_whole)) | with_reducible ((with_reducible show wpAny _ _ (subscriptTail (Expr.Name ..) (Expr.Subscript ..) _ _) _ _ _); k_here; (with_reducible show wpAny _ _ (subscriptTail _ _ (Value.ref _) (Value.int _ _)) _ _ _); (with_unfolding_all refine' item_litK ?k1x71 ?k2x71 ?k3x71 ?k4x71 ?_ ?k6x71; (case k1x71 => refine News.isList (by k_asm) (by k_mem)); (case k4x71 => with_reducible assumption); (case k2x71 => (first | exact r3 | exact r5 | omega)); (case k3x71 => (first | exact (qiB r4 (q1k hlen (by decide))) | exact (qiB r6 (q1k hlen (by decide))) | omega)); (case k6x71 => with_unfolding_all rfl); k_whole)) | with_reducible ((with_reducible show LCg.CompEnd ..); k_dflt (refine stop_ ?_)) | walk1); (try ((with_reducible show wpAny _ _ (execs _ _) _ _ (Shared.mk _ _ _ (_ + 1) _)); refine tok_any ?_; intro tkn))) | (dsimp only; walk1) | (leave1; (try dsimp only)))
  unfold Stop
  rename_i D9 h9 F9 N9 hTl9 l9
  refine comp_close1 F9 N9 ⟨l9.1, l9.2.1, l9.2.2.1⟩ off trivial (hv.snoc hi (fun e he => .tail _ he) ?_)
  have n1 : (machR rs).n1 i = r.a.toNat := by show (rs[i]?.map (·.a.toNat)).getD 0 = _; rw [hpr]; rfl
  have n0 : (machR rs).n0 i = r.b.toNat := by show (rs[i]?.map (·.b.toNat)).getD 0 = _; rw [hpr]; rfl
  show DatIn _ _ (Dat.tuple [.int ((machR rs).iter j i), .int ((machR rs).iter j ((machR rs).n1 i)), .int ((machR rs).iter j ((machR rs).n0 i))])
  rw [n1, n0]
  rw [show ((0 : Int) + (i : Int)).toNat = i by exact qzi] at N9 ⊢
  exact .tuple (.head _) (.cons (.int _ _) (.cons (.int _ _) (.cons (.int _ _) .nil)))
theorem zall : ∀ i ys news I oI C oC D2 m₂ h tk E' ti r y1 y2 y3, zpart7.1.1 i ys news I oI C oC D2 m₂ h tk E' ti r y1 y2 y3 := fun i ys news I oI C oC D2 m₂ h tk E' ti r y1 y2 y3 => @epsH _ _ zc (by with_unfolding_all exact zat) (i, ys, news, I, oI, C, oC, D2, m₂, h, tk, E', ti, r, y1, y2, y3)
end z8
namespace z9
noncomputable def zc := eps (α := (List Value) × (List (Addr × Obj)) × (Addr) × (Heap) × (Nat) × (List (Addr × Obj))) ⟨default, default, default, {}, default, default⟩ (fun c => zpart7.1.2 c.1 c.2.1 c.2.2.1 c.2.2.2.1 c.2.2.2.2.1 c.2.2.2.2.2)
@[irreducible] noncomputable def ys := zc.1.1
@[irreducible] noncomputable def news := zc.1.2.1
@[irreducible] noncomputable def D3 := zc.1.2.2.1
@[irreducible] noncomputable def h8 := zc.1.2.2.2.1
@[irreducible] noncomputable def tk8 := zc.1.2.2.2.2.1
@[irreducible] noncomputable def R9 := zc.1.2.2.2.2.2
noncomputable def zpart9 : { R : ((Heap) → (Obj) → (Nat) → (List (Addr × Obj)) → (Heap) → Prop) // Hide (∀ h10 o10 tk led10 g10, R h10 o10 tk led10 g10) → zpart7.1.2 ys news D3 h8 tk8 R9 } := by
  refine' ⟨_, fun hP10 => ?main⟩
  case main =>
    intro X T hlen hok X' hTl e3 hK1 hK2 IH hj dk dl hz hzl b6 F8 hnw N9 i2 j1 hv2 q1 q2 q3
    repeat' (first | (k_unfold; (try dsimp only)) | (k_end; wrow_close) | ((first | with_reducible ((with_reducible show LCg.CompSrc ..); k_dflt (refine stop_ ?_)) | walk1); (try ((with_reducible show wpAny _ _ (execs _ _) _ _ (Shared.mk _ _ _ (_ + 1) _)); refine tok_any ?_; intro tkn))) | (dsimp only; walk1) | (leave1; (try dsimp only)))
    unfold Stop
    rename_i h10 o10 F10 N10 e10
    refine cps fun zG zk => ?_
    obtain ⟨led10, hled10, N11⟩ := name_led N10
    refine zk ?_
    clear zk zG
    have b7 : (L' + 1 + 1 + 1, o10) ∈ led10 := by rw [hled10]; exact .head _
    have b8 : (L' + 1 + 1, ol) ∈ led10 := by rw [hled10]; exact .tail _ (.head _)
    have b9 : (L' + 1, o3) ∈ led10 := by rw [hled10]; exact .tail _ (.tail _ (.head _))
    have b10 : ∀ e ∈ R9, e ∈ led10 := fun e he => by rw [hled10]; exact .tail _ (.tail _ (.tail _ he))
    have hyl := dat_len hv2
    rw [List.length_map, List.length_range] at hyl
    refine LCg.CompSrc.ledger rfl F10 N11 (b10 _ q1) (by rw [List.size_toArray, hyl, PySem.sizeLine_eq]; exact (q16 hlen (by decide))) ?_
    intro g10
    revert X T hlen hok X' hTl e3 hK1 hK2 IH hj dl hz hzl b6 hnw i2 hv2 q1 q2 q3 e10 b7 b8 b9 b10 hyl
    exact hP10.out h10 o10 tk led10 g10
namespace z10
noncomputable def zc := eps (α := (Heap) × (Obj) × (Nat) × (List (Addr × Obj)) × (Heap)) ⟨{}, default, default, default, {}⟩ (fun c => zpart9.1 c.1 c.2.1 c.2.2.1 c.2.2.2.1 c.2.2.2.2)
@[irreducible] noncomputable def h10 := zc.1.1
@[irreducible] noncomputable def o10 := zc.1.2.1
@[irreducible] noncomputable def tk := zc.1.2.2.1
@[irreducible] noncomputable def led10 := zc.1.2.2.2.1
@[irreducible] noncomputable def g10 := zc.1.2.2.2.2
noncomputable def zpart10 : { R : ((Nat) → (List Value) → (List (Addr × Obj)) → (Value) → (Addr) → (Obj) → (Addr) → (Obj) → (Addr) → (Str → Option Value) → (Heap) → (Nat) → (Value → Shared → Prop) → Prop) × ((List (Int × Tok)) → (Addr) → (Heap) → (Nat) → (List (Addr × Obj)) → Prop) // Hide (∀ i zs2 news2 v I oI C oC D4 m₂ h tk E', R.1 i zs2 news2 v I oI C oC D4 m₂ h tk E') → Hide (∀ zs5 D5 h11 tk11 R11, R.2 zs5 D5 h11 tk11 R11) → zpart9.1 h10 o10 tk led10 g10 } := by
  refine' ⟨(_, _), fun hP11 hP12 => ?main⟩
  case main =>
    intro X T hlen hok X' hTl e3 hK1 hK2 IH hj dl hz hzl b6 hnw i2 hv2 q1 q2 q3 e10 b7 b8 b9 b10 hyl
    refine compRest_ind (IntsInv rs.length led10 fun i => (machR rs).refine ((machR rs).iter j) i) ?_ ?_ _ 0 [] _ (Nat.zero_add _) IntsInv.start
    · intro i zs2 news2 hi hv3 v I oI C oC D4 m₂ h tk E' hP hC hx F₁ N₁ off ne
      rw [List.size_toArray, hyl] at hi
      rw [List.getElem?_toArray] at hP
      refine cps fun zG zk => ?_
      obtain ⟨d, hd1, hDx⟩ := dat_at hv2 i v hP
      refine zk ?_
      clear zk zG
      rw [List.getElem?_map, List.getElem?_range hi] at hd1
      cases hd1
      have hki := keys_idx (M := machR rs) ((machR rs).iter j) rfl hi
      have hnw2 : ∀ e ∈ led10, e ∈ news2 := by obtain ⟨_, _, _, _, h⟩ := hv3; exact h
      have hR9 : ∀ e ∈ R9, e ∈ news2 := fun e he => hnw2 e (b10 e he)
      have hq9 := hR9 _ q1
      have c1 := hnw2 _ b7
      have hDA := hv2
      have hok9 : ∀ d ∈ (List.range rs.length).map fun i => Dat.tuple [.int ((machR rs).iter j i), .int ((machR rs).iter j ((machR rs).n1 i)), .int ((machR rs).iter j ((machR rs).n0 i))], kqdOk 8 d = true := fun d hd => by
        refine cps fun zG zk => ?_
        obtain ⟨x, -, rfl⟩ := List.mem_map.mp hd
        refine zk ?_
        clear zk zG
        rfl
      have hsm9 : ys.length ≤ 1000 := by exact (q1k (qele hyl hlen) (by decide))
      revert X X' e10 hi hv3 hC hx F₁ N₁ off hDx hki hnw2 hR9 hq9 c1 hDA hok9 hsm9
      exact hP11.out i zs2 news2 v I oI C oC D4 m₂ h tk E'
    · intro ys5 news2 hv3
      rw [List.size_toArray, hyl] at hv3
      refine cps fun zG zk => ?_
      obtain ⟨zs5, rfl, hz5, -, hnw2⟩ := hv3
      refine zk ?_
      clear zk zG
      unfold LCg.FinA
      intro D5 h11 tk11 F11 N12 o1''
      refine cps fun zG zk => ?_
      obtain ⟨R11, N13, i1', i2', i3'⟩ := resplitG [(L' + 1 + 1 + 1, o10), (L' + 1 + 1, ol), (L' + 1, o3)] N12 (by
        intro c hc
        simp only [List.mem_cons, List.not_mem_nil, or_false] at hc
        rcases hc with rfl | rfl | rfl
        · exact .tail _ (hnw2 _ b7)
        · exact .tail _ (hnw2 _ b8)
        · exact .tail _ (hnw2 _ b9)) (by
        intro c hc
        simp only [List.mem_cons, List.not_mem_nil, or_false] at hc
        rcases hc with rfl | rfl | rfl
        · exact cell_is e10
        · exact cell_is dl
        · exact cell_is e3)
      refine zk ?_
      clear zk zG
      have j1' := i3' _ (.head _)
      have j2' := i3' _ (.tail _ (.head _))
      have q4 : (D5, LCg.lst (zs5.map intV)) ∈ R11 := i1' _ (.head _) rfl
      have q5 : (D, W.listOf (zs.map intV).toArray nn) ∈ R11 := i1' _ (.tail _ (hnw2 _ (b10 _ q3))) rfl
      have q6 : (rl, W.listOf (rs.map fun r => .ref r.ad).toArray nr) ∈ R11 := i1' _ (.tail _ (hnw2 _ (b10 _ q2))) rfl
      have hkeep : ∀ e ∈ (rl, W.listOf (rs.map fun r => .ref r.ad).toArray nr) :: own, e ∈ R11 := fun e he => by
        rcases List.mem_cons.mp he with rfl | he
        · exact q6
        have h1 := Lts.at hTl he
        refine i2' e (.tail _ (hnw2 _ (b10 _ (i2 e (.tail _ (hnw _ (b6 e he))) ?_)))) ?_ <;>
        · intro c hc
          simp only [List.mem_cons, List.not_mem_nil, or_false] at hc
          rcases hc with rfl | rfl | rfl <;> k_ne
      revert X T hok X' hK1 hK2 IH hj dl hz e10 hz5 F11 N13 j1' j2' q4 q5 hkeep
      exact hP12.out zs5 D5 h11 tk11 R11
namespace z11
noncomputable def zc := eps (α := (Nat) × (List Value) × (List (Addr × Obj)) × (Value) × (Addr) × (Obj) × (Addr) × (Obj) × (Addr) × (Str → Option Value) × (Heap) × (Nat) × (Value → Shared → Prop)) ⟨default, default, default, default, default, default, default, default, default, (fun _ => default), {}, default, (fun _ _ => True)⟩ (fun c => zpart10.1.1 c.1 c.2.1 c.2.2.1 c.2.2.2.1 c.2.2.2.2.1 c.2.2.2.2.2.1 c.2.2.2.2.2.2.1 c.2.2.2.2.2.2.2.1 c.2.2.2.2.2.2.2.2.1 c.2.2.2.2.2.2.2.2.2.1 c.2.2.2.2.2.2.2.2.2.2.1 c.2.2.2.2.2.2.2.2.2.2.2.1 c.2.2.2.2.2.2.2.2.2.2.2.2)
@[irreducible] noncomputable def i := zc.1.1
@[irreducible] noncomputable def zs2 := zc.1.2.1
@[irreducible] noncomputable def news2 := zc.1.2.2.1
@[irreducible] noncomputable def v := zc.1.2.2.2.1
@[irreducible] noncomputable def I := zc.1.2.2.2.2.1
@[irreducible] noncomputable def oI := zc.1.2.2.2.2.2.1
@[irreducible] noncomputable def C := zc.1.2.2.2.2.2.2.1
@[irreducible] noncomputable def oC := zc.1.2.2.2.2.2.2.2.1
@[irreducible] noncomputable def D4 := zc.1.2.2.2.2.2.2.2.2.1
@[irreducible] noncomputable def m₂ := zc.1.2.2.2.2.2.2.2.2.2.1
@[irreducible] noncomputable def h := zc.1.2.2.2.2.2.2.2.2.2.2.1
@[irreducible] noncomputable def tk := zc.1.2.2.2.2.2.2.2.2.2.2.2.1
@[irreducible] noncomputable def E' := zc.1.2.2.2.2.2.2.2.2.2.2.2.2
theorem zat : zpart10.1.1 i zs2 news2 v I oI C oC D4 m₂ h tk E' := by
  intro X X' e10 hi hv3 hC hx F₁ N₁ off hDx hki hnw2 hR9 hq9 c1 hDA hok9 hsm9
  repeat' (first | (k_unfold; (try dsimp only)) | (k_end; wrow_close) | ((first | with_reducible ((with_reducible show wpAny _ _ (call (Value.builtin _) _) _ _ _); k_here; k_dflt (refine' index_dat ?Nx74 (List.Mem.tail _ (.tail _ (.tail _ hq9))) rfl rfl hDA ?sax74 hDx ?sxx74 hok9 ?hdx74 ?hux74 ?hsmx74 hki.1 hki.2 ?_; (case Nx74 => k_asm); (case sax74 => exact fun p hp => .tail _ (.tail _ (.tail _ (hR9 p hp)))); (case sxx74 => exact fun p hp => .tail _ (.tail _ (.tail _ (hR9 p hp)))); (case hdx74 => rfl); (case hux74 => ke_room); (case hsmx74 => exact hsm9))) | with_reducible ((with_reducible show LCg.CompEnd ..); k_dflt (refine stop_ ?_)) | walk1); (try ((with_reducible show wpAny _ _ (execs _ _) _ _ (Shared.mk _ _ _ (_ + 1) _)); refine tok_any ?_; intro tkn))) | (dsimp only; walk1) | (leave1; (try dsimp only)))
  unfold Stop
  exact LCg.CompEnd.intro F₁ N₁ news2 (fun e he => he) off (.inr ⟨_, hq9, rfl, _, rfl⟩) (hv3.snoc hi rfl hnw2)
theorem zall : ∀ i zs2 news2 v I oI C oC D4 m₂ h tk E', zpart10.1.1 i zs2 news2 v I oI C oC D4 m₂ h tk E' := fun i zs2 news2 v I oI C oC D4 m₂ h tk E' => @epsH _ _ zc (by with_unfolding_all exact zat) (i, zs2, news2, v, I, oI, C, oC, D4, m₂, h, tk, E')
end z11
namespace z12
noncomputable def zc := eps (α := (List (Int × Tok)) × (Addr) × (Heap) × (Nat) × (List (Addr × Obj))) ⟨default, default, {}, default, default⟩ (fun c => zpart10.1.2 c.1 c.2.1 c.2.2.1 c.2.2.2.1 c.2.2.2.2)
@[irreducible] noncomputable def zs5 := zc.1.1
@[irreducible] noncomputable def D5 := zc.1.2.1
@[irreducible] noncomputable def h11 := zc.1.2.2.1
@[irreducible] noncomputable def tk11 := zc.1.2.2.2.1
@[irreducible] noncomputable def R11 := zc.1.2.2.2.2
theorem zat : zpart10.1.2 zs5 D5 h11 tk11 R11 := by
  intro X T hok X' hK1 hK2 IH hj dl hz e10 hz5 F11 N13 j1' j2' q4 q5 hkeep
  have hfx : zs5.map Prod.fst = zs.map Prod.fst → (machR rs).Fix ((machR rs).iter j) := fun h i hi => by
    rw [hz5, hz] at h
    have := congrArg (fun l => l[i]?) h
    simp only [List.getElem?_map, List.getElem?_range (show i < rs.length from hi), Option.map_some, Option.some.injEq] at this
    exact Int.ofNat.inj this
  ((try clear N11); (try clear N12))
  simp only [List.cons_append, List.nil_append] at N13
  have hqa : (D5, LCg.lst (zs5.map intV)) ∈ (L' + 1 + 1 + 1, o10) :: (L' + 1 + 1, ol) :: (L' + 1, o3) :: R11 := .tail _ (.tail _ (.tail _ q4))
  have hqb : (D, W.listOf (zs.map intV).toArray nn) ∈ (L' + 1 + 1 + 1, o10) :: (L' + 1 + 1, ol) :: (L' + 1, o3) :: R11 := .tail _ (.tail _ (.tail _ q5))
  by_cases hfix : zs5.map Prod.fst = zs.map Prod.fst
  · have hdec : decide (zs5.map Prod.fst = zs.map Prod.fst) = true := decide_eq_true hfix
    repeat' (first | (k_unfold; (try dsimp only)) | (k_end; wrow_close) | ((first | with_reducible ((with_reducible show wpAny _ _ (compareOp CmpOp.Eq (Value.ref _) (Value.ref _)) _ _ _); k_here; k_dflt (refine' ke_eq_ints (News.isList (by k_asm) hqa) (News.isList (by k_asm) hqb) (ints_are _) (ints_are _) ?hux76 ?_; (case hux76 => ke_room)); rw [hdec]) | walk1); (try ((with_reducible show wpAny _ _ (execs _ _) _ _ (Shared.mk _ _ _ (_ + 1) _)); refine tok_any ?_; intro tkn))) | (dsimp only; walk1) | (leave1; (try dsimp only)))
    rename Fr h₀ _ _ _ => F14
    rename News h₀ _ _ _ => N14
    exact hok _ _ D zs j nn _ F14 (fun e he => by
      rcases List.mem_cons.mp he with rfl | he
      · exact N14 _ hqb
      · exact N14 e he) (fun e he => .tail _ (.tail _ (.tail _ (hkeep e he)))) hz (hfx hfix) (fun j' hj' => hK2 j' (by exact (Nat.lt_of_lt_of_le hj' (qadd (Nat.le_of_eq hj)))))
  · have hdec : decide (zs5.map Prod.fst = zs.map Prod.fst) = false := decide_eq_false hfix
    repeat' (first | (k_unfold; (try dsimp only)) | (k_end; wrow_close) | ((first | with_reducible ((with_reducible show wpAny _ _ (compareOp CmpOp.Eq (Value.ref _) (Value.ref _)) _ _ _); k_here; k_dflt (refine' ke_eq_ints (News.isList (by k_asm) hqa) (News.isList (by k_asm) hqb) (ints_are _) (ints_are _) ?hux77 ?_; (case hux77 => ke_room)); rw [hdec]) | with_reducible ((with_reducible show WhlRest _ _ _ _ _ _ _ _ _ 0 _); k_dflt (refine stop_ ?_)) | walk1); (try ((with_reducible show wpAny _ _ (execs _ _) _ _ (Shared.mk _ _ _ (_ + 1) _)); refine tok_any ?_; intro tkn))) | (dsimp only; walk1) | (leave1; (try dsimp only)))
    unfold Stop
    rename Fr g' _ _ _ => F14
    rename News g' _ _ _ => N14
    rename _ = Data.cell (some (Value.ref D5)) => d14
    have hjk : j ≠ K := fun e => by
      rw [← e] at hK1
      refine hfix ?_
      rw [hz5, hz]
      exact List.map_congr_left fun i hi => congrArg Int.ofNat (hK1 i (List.mem_range.mp hi))
    exact IH (k - 1) _ (by omega) ⟨j + 1, o10, _, D5, zs5, _, R11, _, _, _, _, by omega, rfl, F14, N14, e10, d14, q4, hkeep, j1', j2', hz5⟩
theorem zall : ∀ zs5 D5 h11 tk11 R11, zpart10.1.2 zs5 D5 h11 tk11 R11 := fun zs5 D5 h11 tk11 R11 => @epsH _ _ zc (by with_unfolding_all exact zat) (zs5, D5, h11, tk11, R11)
end z12
theorem zat : zpart9.1 h10 o10 tk led10 g10 := zpart10.2 ⟨z11.zall⟩ ⟨z12.zall⟩
theorem zall : ∀ h10 o10 tk led10 g10, zpart9.1 h10 o10 tk led10 g10 := fun h10 o10 tk led10 g10 => @epsH _ _ zc (by with_unfolding_all exact zat) (h10, o10, tk, led10, g10)
end z10
theorem zat : zpart7.1.2 ys news D3 h8 tk8 R9 := zpart9.2 ⟨z10.zall⟩
theorem zall : ∀ ys news D3 h8 tk8 R9, zpart7.1.2 ys news D3 h8 tk8 R9 := fun ys news D3 h8 tk8 R9 => @epsH _ _ zc (by with_unfolding_all exact zat) (ys, news, D3, h8, tk8, R9)
end z9
theorem zat : zpart6.1 h7 tk7 led7 g7 := zpart7.2 ⟨z8.zall⟩ ⟨z9.zall⟩
theorem zall : ∀ h7 tk7 led7 g7, zpart6.1 h7 tk7 led7 g7 := fun h7 tk7 led7 g7 => @epsH _ _ zc (by with_unfolding_all exact zat) (h7, tk7, led7, g7)
end z7
theorem zat : zpart5.1 K k j okk ol D zs nn rest h6 tk6 m6 v6 := zpart6.2 ⟨z7.zall⟩
theorem zall : ∀ K k j okk ol D zs nn rest h6 tk6 m6 v6, zpart5.1 K k j okk ol D zs nn rest h6 tk6 m6 v6 := fun K k j okk ol D zs nn rest h6 tk6 m6 v6 => @epsH _ _ zc (by with_unfolding_all exact zat) (K, k, j, okk, ol, D, zs, nn, rest, h6, tk6, m6, v6)
end z6
theorem zat : zpart1.1.2 zs D h tk := zpart5.2 ⟨z6.zall⟩
theorem zall : ∀ zs D h tk, zpart1.1.2 zs D h tk := fun zs D h tk => @epsH _ _ zc (by with_unfolding_all exact zat) (zs, D, h, tk)
end z5
theorem zat : zpart0.1 g' L' h' tk' o1 o2 o3 w1 w2 led g := zpart1.2 ⟨z2.zall⟩ ⟨z5.zall⟩
theorem zall : ∀ g' L' h' tk' o1 o2 o3 w1 w2 led g, zpart0.1 g' L' h' tk' o1 o2 o3 w1 w2 led g := fun g' L' h' tk' o1 o2 o3 w1 w2 led g => @epsH _ _ zc (by with_unfolding_all exact zat) (g', L', h', tk', o1, o2, o3, w1, w2, led, g)
end z1
theorem zat : zP w p loose mean mg mb c own rs rl nr A₀ base h₀ m s Q E := zpart0.2 ⟨z1.zall⟩
theorem zall : ∀ w p loose mean mg mb c own rs rl nr A₀ base h₀ m s Q E, zP w p loose mean mg mb c own rs rl nr A₀ base h₀ m s Q E := fun w p loose mean mg mb c own rs rl nr A₀ base h₀ m s Q E => @epsH _ _ zc (by with_unfolding_all exact zat) (w, p, loose, mean, mg, mb, c, own, rs, rl, nr, A₀, base, h₀, m, s, Q, E)
end ltC
theorem ltC (w : World) {p : Program} {loose : List Str} {mean : ExcName → Option Value} {mg mb : Str → Option Value} (c : CX) (own : List (Addr × Obj)) (rs : List RRec) (rl : Addr) (nr : Nat)
    (A₀ : Around) (base h₀ : Heap) (m : Str → Option Value) (s : Shared) (Q E : Value → Shared → Prop)
    (B : Below A₀ base c.outer h₀) (F : Fr h₀ c.L s.heap m) (X : (kdef.heap_1 w.params).In h₀) (T : Top p loose mean mg mb h₀)
    (N : News h₀ c.L s.heap ((rl, W.listOf (rs.map fun r => .ref r.ad).toArray nr) :: own)) (R : ∀ r ∈ rs, RIn rs.length own r) (hlen : rs.length ≤ 5)
    (hok : ∀ h' tk' (D : Addr) (zs : List (Int × Tok)) (k nn : Nat) (own' : List (Addr × Obj)), Fr h₀ c.L h' m → News h₀ c.L h' ((D, W.listOf (zs.map intV).toArray nn) :: own') → (∀ e ∈ (rl, W.listOf (rs.map fun r => .ref r.ad).toArray nr) :: own, e ∈ own') →
      zs.map Prod.fst = (List.range rs.length).map (fun j => ((machR rs).iter k j : Int)) → (machR rs).Fix ((machR rs).iter k) → (∀ j, j < k → ¬ (machR rs).Fix ((machR rs).iter j)) → Q (.ref D) { s with heap := h', toks := tk' }) : wpAny (model PG w) (c.T 480 3800) (call (.ref 430) [.ref rl]) Q E s := ltC.zall w p loose mean mg mb c own rs rl nr A₀ base h₀ m s Q E B F X T N R hlen hok
end
example : True := by w_top off; (try walk1); trivial
section
open PySem PySem.W PyProof.Rows PySem.Calls PySem.Spec
set_option Elab.async false
set_option maxRecDepth 100000
set_option maxHeartbeats 8000000
example : kdef.heap_1 = kdef.heap_1 ∧ PySem.Challenge.rw_xm0939_01 = PySem.Challenge.rw_xm0939_01 := by
  k_fill
  exact ⟨rfl, rfl⟩

noncomputable def datW (e : Nat × Nat × List Int) : Dat := .tuple [.int e.1, .int e.2.1, .list (e.2.2.map .int)]
noncomputable def datV (e : Nat × Nat) : Dat := .tuple [.int e.1, .int e.2]
theorem datW_ok (e : Nat × Nat × List Int) : kqdOk 8 (datW e) = true := by
  unfold datW
  simp only [kqdOk, List.all_cons, List.all_nil, Bool.and_true, Bool.true_and]
  refine List.all_eq_true.mpr fun d hd => ?_
  refine cps fun zG zk => ?_
  obtain ⟨x, -, rfl⟩ := List.mem_map.mp hd
  refine zk ?_
  clear zk zG
  rfl
theorem datV_ok (e : Nat × Nat) : kqdOk 8 (datV e) = true := rfl
theorem dat_ints {news : List (Addr × Obj)} : ∀ {w : List Int} {vs : List Value}, DatAll news vs (w.map .int) → ∃ zs : List (Int × Tok), vs = zs.map intV ∧ zs.map Prod.fst = w
  | [], vs, h => by cases h; exact ⟨[], rfl, rfl⟩
  | i :: w, _, h => by
    cases h with
    | cons h1 h2 =>
      cases h1 with
      | int i t =>
        refine cps fun zG zk => ?_
        obtain ⟨zs, rfl, rfl⟩ := dat_ints h2
        refine zk ?_
        clear zk zG
        exact ⟨(i, t) :: zs, rfl, rfl⟩
theorem ints_dat {news : List (Addr × Obj)} : ∀ (zs : List (Int × Tok)), DatAll news (zs.map intV) ((zs.map Prod.fst).map .int)
  | [] => .nil
  | (i, t) :: zs => .cons (.int i t) (ints_dat zs)
/-- what an entry of the queue is made of -/
theorem datW_inv {news : List (Addr × Obj)} {v : Value} {e : Nat × Nat × List Int} (h : DatIn news v (datW e)) : ∃ (T al : Addr) (t1 t2 : Tok) (n1 n2 : Nat) (zs : List (Int × Tok)), v = .ref T ∧ (T, ({ cls := .type "tuple", data := .seq #[.int e.1 t1, .int e.2.1 t2, .ref al] n1 } : Obj)) ∈ news ∧
    (al, W.listOf (zs.map intV).toArray n2) ∈ news ∧ zs.map Prod.fst = e.2.2 := by
  unfold datW at h
  cases h with
  | tuple hm hr =>
    cases hr with
    | cons h1 hr =>
      cases h1 with
      | int i1 t1 =>
        cases hr with
        | cons h2 hr =>
          cases h2 with
          | int i2 t2 =>
            cases hr with
            | cons h3 hr =>
              cases hr with
              | nil =>
                cases h3 with
                | list hm2 hr2 =>
                  refine cps fun zG zk => ?_
                  obtain ⟨zs, rfl, hz⟩ := dat_ints hr2
                  refine zk ?_
                  clear zk zG
                  exact ⟨_, _, _, _, _, _, zs, rfl, hm, hm2, hz⟩
section
variable {prog : Program} {w : World} {A : Around} {E : Value → Shared → Prop} {s : Shared} {h₀ : Heap} {L a b : Addr} {news n₁ : List (Addr × Obj)} {xs : List Value} {ka kb : Nat} {ds : List Dat} {Q : Value → Shared → Prop}
theorem ne_nil_K (N : News h₀ L s.heap news) (ma : (a, W.listOf xs.toArray ka) ∈ news) (Da : DatAll n₁ xs ds) (sa : ∀ p ∈ n₁, p ∈ news) (mb : (b, W.listOf #[] kb) ∈ news) (ha : ∀ d ∈ ds, kqdOk 8 d = true) (hu : A.units + 64 < cLine) (h : Q (.bool (!ds.isEmpty)) s) :
    wpAny (model prog w) A (compareOp .NotEq (.ref a) (.ref b)) Q E s := by
  refine kqd_ne (es := []) (n₂ := []) N ma rfl rfl Da sa mb rfl rfl .nil (fun _ h => (nomatch h)) ha (fun _ h => (nomatch h)) hu ?_
  cases ds with
  | nil => simpa using h
  | cons d ds => simpa using h
theorem add_ints_lit {m : Str → Option Value} {zs : List (Int × Tok)} {i : Int} {t : Tok} (F : Fr h₀ L s.heap m) (N : News h₀ L s.heap news) (ma : (a, W.listOf (zs.map intV).toArray ka) ∈ news) (mb : (b, W.listOf #[.int i t] kb) ∈ news) (hz : zs.length ≤ 100)
    (h : ∀ D h', Fr h₀ L h' m → News h₀ L h' ((D, W.listOf ((zs ++ [(i, t)]).map intV).toArray 0) :: news) → (∀ p ∈ news, p.1 < D) → Q (.ref D) { s with heap := h' }) : wpAny (model prog w) A (binaryOp .Add (.ref a) (.ref b)) Q E s := by
  refine add_lists (vs := zs.map intV) (ws := [.int i t]) (hsz := by rw [PySem.sizeLine_eq, List.length_map, List.length_singleton]; exact (qp1 (Nat.le_trans hz (by decide)))) F N (News.isList N ma) (News.isList N mb) fun h' F' N' => ?_
  have e : zs.map intV ++ [.int i t] = (zs ++ [(i, t)]).map intV := by rw [List.map_append]; rfl
  rw [e] at N'
  exact h _ h' F' N' fun p hp => Heap.lt_size (N p hp).1
end
local macro_rules | `(tactic| walk_at "binaryOp Add ref ref") => `(tactic| (k_here; k_dflt (refine' add_ints_lit ?F ?N ?a ?b ?z ?_; (case F => k_asm); (case N => k_asm); (case a => k_mem); (case b => k_mem); (case z => omega)); intro D' h' F' N' l1; (try k_lt l1)))
theorem dec_t {p : Prop} {i : Decidable p} (h : @decide p i = true) : p := by
  cases i with
  | isTrue h' => exact h'
  | isFalse h' => cases h
theorem dec_f {p : Prop} {i : Decidable p} (h : @decide p i = false) : ¬ p := by
  cases i with
  | isTrue h' => cases h
  | isFalse h' => exact h'
theorem datV_inj {p q : Nat} {V : List (Nat × Nat)} : Dat.tuple [Dat.int (p : Nat), Dat.int (q : Nat)] ∈ V.map datV ↔ (p, q) ∈ V := by
  constructor
  · intro h
    refine cps fun zG zk => ?_
    obtain ⟨⟨a, b⟩, he, e⟩ := List.mem_map.mp h
    refine zk ?_
    clear zk zG
    unfold datV at e
    simp only [Dat.tuple.injEq, List.cons.injEq, Dat.int.injEq, and_true] at e
    have h1 : a = p := by exact (qci (And.left e))
    have h2 : b = q := by exact (qci (And.right e))
    rw [← h1, ← h2]; exact he
  · intro h; exact List.mem_map.mpr ⟨_, h, rfl⟩
theorem ap_made {g h : Heap} {L wl ml D0 D1 l0 D2 D3 l1 D4 D5 l2 : Addr} {p q p1 q1 p0 q0 kw km : Nat} {a1 b1 a0 b0 : Int} {ws vs : List Value} {t1 t2 t3 t4 t5 t6 t7 t8 : Tok} {o1 o2 o3 o4 : Obj} {zs : List (Int × Tok)} {rest : List (Addr × Obj)} {u : List Int} {WQ : List (Nat × Nat × List Int)} {V : List (Nat × Nat)}
    (N : News g L h ((D0, tup [.int a0 t1, .int b0 t2, .ref D1]) :: (D1, W.listOf ((zs ++ [(0, t3)]).map intV).toArray 0) :: (l0, o1) :: (D2, tup [.int a1 t4, .int b1 t5, .ref D3]) :: (D3, W.listOf ((zs ++ [(1, t6)]).map intV).toArray 0) :: (l1, o2) ::
      (D4, tup [.int p t7, .int q t8]) :: (D5, o3) :: (l2, o4) :: (wl, W.listOf (ws ++ [Value.ref D2] ++ [Value.ref D0]).toArray kw) :: (ml, W.listOf (vs ++ [Value.ref D4]).toArray km) :: rest))
    (hws : DatAll rest ws (WQ.map datW)) (hvs : DatAll rest vs (V.map datV)) (hz : zs.map Prod.fst = u) (e1 : a1 = p1) (e2 : b1 = q1) (e3 : a0 = p0) (e4 : b0 = q0) (of1 : ∀ e ∈ rest, @Ne Nat e.1 wl) (of2 : ∀ e ∈ rest, @Ne Nat e.1 ml)
    (hlt : (@LT.lt Nat _ wl D0 ∧ @LT.lt Nat _ wl D1 ∧ @LT.lt Nat _ wl D2 ∧ @LT.lt Nat _ wl D3 ∧ @LT.lt Nat _ wl D4) ∧ @LT.lt Nat _ ml D0 ∧ @LT.lt Nat _ ml D1 ∧ @LT.lt Nat _ ml D2 ∧ @LT.lt Nat _ ml D3 ∧ @LT.lt Nat _ ml D4) :
    ∃ rest', News g L h ((wl, W.listOf (ws ++ [Value.ref D2] ++ [Value.ref D0]).toArray kw) :: (ml, W.listOf (vs ++ [Value.ref D4]).toArray km) :: rest') ∧ DatAll rest' (ws ++ [Value.ref D2] ++ [Value.ref D0]) ((WQ ++ [(p1, q1, u ++ [1]), (p0, q0, u ++ [0])]).map datW) ∧ DatAll rest' (vs ++ [Value.ref D4]) ((V ++ [(p, q)]).map datV) ∧
      (∀ e ∈ rest, e ∈ rest') ∧ (∀ e ∈ rest', @Ne Nat e.1 wl) ∧ (∀ e ∈ rest', @Ne Nat e.1 ml) := by
  subst e1 e2 e3 e4
  refine cps fun zG zk => ?_
  obtain ⟨⟨x1, x2, x3, x4, x5⟩, y1, y2, y3, y4, y5⟩ := hlt
  refine zk ?_
  clear zk zG
  refine ⟨(D0, tup [.int p0 t1, .int q0 t2, .ref D1]) :: (D1, W.listOf ((zs ++ [(0, t3)]).map intV).toArray 0) :: (D2, tup [.int p1 t4, .int q1 t5, .ref D3]) :: (D3, W.listOf ((zs ++ [(1, t6)]).map intV).toArray 0) :: (D4, tup [.int p t7, .int q t8]) :: rest, news_sub N ?_, ?_, ?_, ?_, ?_, ?_⟩
  · intro e he
    simp only [List.mem_cons] at he ⊢
    grind
  · have e1 : (WQ ++ [(p1, q1, u ++ [1]), (p0, q0, u ++ [0])]).map datW = WQ.map datW ++ [datW (p1, q1, u ++ [1])] ++ [datW (p0, q0, u ++ [0])] := by simp
    rw [e1]
    refine dat_snoc (dat_snoc (hws.mono fun e he => .tail _ (.tail _ (.tail _ (.tail _ (.tail _ he))))) ?_) ?_
    · refine .tuple (.tail _ (.tail _ (.head _))) (.cons (.int _ _) (.cons (.int _ _) (.cons (.list (.tail _ (.tail _ (.tail _ (.head _)))) ?_) .nil)))
      have := ints_dat (news := (D0, tup [.int p0 t1, .int q0 t2, .ref D1]) :: (D1, W.listOf ((zs ++ [(0, t3)]).map intV).toArray 0) :: (D2, tup [.int p1 t4, .int q1 t5, .ref D3]) :: (D3, W.listOf ((zs ++ [(1, t6)]).map intV).toArray 0) :: (D4, tup [.int p t7, .int q t8]) :: rest) (zs ++ [(1, t6)])
      rw [List.map_append (f := Prod.fst), hz] at this
      exact this
    · refine .tuple (.head _) (.cons (.int _ _) (.cons (.int _ _) (.cons (.list (.tail _ (.head _)) ?_) .nil)))
      have := ints_dat (news := (D0, tup [.int p0 t1, .int q0 t2, .ref D1]) :: (D1, W.listOf ((zs ++ [(0, t3)]).map intV).toArray 0) :: (D2, tup [.int p1 t4, .int q1 t5, .ref D3]) :: (D3, W.listOf ((zs ++ [(1, t6)]).map intV).toArray 0) :: (D4, tup [.int p t7, .int q t8]) :: rest) (zs ++ [(0, t3)])
      rw [List.map_append (f := Prod.fst), hz] at this
      exact this
  · have e1 : (V ++ [(p, q)]).map datV = V.map datV ++ [datV (p, q)] := by simp
    rw [e1]
    exact dat_snoc (hvs.mono fun e he => .tail _ (.tail _ (.tail _ (.tail _ (.tail _ he))))) (.tuple (.tail _ (.tail _ (.tail _ (.tail _ (.head _))))) (.cons (.int _ _) (.cons (.int _ _) .nil)))
  · exact fun e he => .tail _ (.tail _ (.tail _ (.tail _ (.tail _ he))))
  · simp only [List.forall_mem_cons]
    exact ⟨Nat.ne_of_gt x1, Nat.ne_of_gt x2, Nat.ne_of_gt x3, Nat.ne_of_gt x4, Nat.ne_of_gt x5, of1⟩
  · simp only [List.forall_mem_cons]
    exact ⟨Nat.ne_of_gt y1, Nat.ne_of_gt y2, Nat.ne_of_gt y3, Nat.ne_of_gt y4, Nat.ne_of_gt y5, of2⟩
namespace apC
def zP (w : World) (p : Program) (loose : List Str) (mean : ExcName → Option Value) (mg : Str → Option Value) (mb : Str → Option Value) (c : CX) (own : List (Addr × Obj)) (rs : List RRec) (rl : Addr) (nr : Nat) (a : Nat) (b : Nat) (ta : Tok) (tb : Tok) (A₀ : Around) (base : Heap) (h₀ : Heap) (m : Str → Option Value) (s : Shared) (Q : Value → Shared → Prop) (E : Value → Shared → Prop) : Prop := ∀ (B : Below A₀ base c.outer h₀) (F : Fr h₀ c.L s.heap m) (X : (kdef.heap_1 w.params).In h₀) (T : Top p loose mean mg mb h₀) (N : News h₀ c.L s.heap ((rl, W.listOf (rs.map fun r => .ref r.ad).toArray nr) :: own)) (R : ∀ r ∈ rs, RIn rs.length own r) (hlen : rs.length ≤ 5) (ha : a < rs.length) (hb : b < rs.length) (hok0 : ∀ h' tk' (V : List (Nat × Nat)) (own' : List (Addr × Obj)), Fr h₀ c.L h' m → News h₀ c.L h' own' → (∀ e ∈ (rl, W.listOf (rs.map fun r => .ref r.ad).toArray nr) :: own, e ∈ own') → (machR rs).BInv a b [] V → Q .none { s with heap := h', toks := tk' }) (hok1 : ∀ h' tk' (D : Addr) (zs : List (Int × Tok)) (nn : Nat) (own' : List (Addr × Obj)), Fr h₀ c.L h' m → News h₀ c.L h' ((D, W.listOf (zs.map intV).toArray nn) :: own') → (∀ e ∈ (rl, W.listOf (rs.map fun r => .ref r.ad).toArray nr) :: own, e ∈ own') → zs.length ≤ 25 →
      (machR rs).Apart a b (zs.map Prod.fst) → Q (.ref D) { s with heap := h', toks := tk' }),
  wpAny (model PG w) (c.T 480 3800) (call (.ref 437) [.ref rl, .int a ta, .int b tb]) Q E s
noncomputable def zc := eps (α := (World) × (Program) × (List Str) × (ExcName → Option Value) × (Str → Option Value) × (Str → Option Value) × (CX) × (List (Addr × Obj)) × (List RRec) × (Addr) × (Nat) × (Nat) × (Nat) × (Tok) × (Tok) × (Around) × (Heap) × (Heap) × (Str → Option Value) × (Shared) × (Value → Shared → Prop) × (Value → Shared → Prop)) ⟨world0, default, default, (fun _ => default), (fun _ => default), (fun _ => default), by constructor <;> exact default, default, default, default, default, default, default, default, default, {}, {}, {}, (fun _ => default), {}, (fun _ _ => True), (fun _ _ => True)⟩ (fun c => zP c.1 c.2.1 c.2.2.1 c.2.2.2.1 c.2.2.2.2.1 c.2.2.2.2.2.1 c.2.2.2.2.2.2.1 c.2.2.2.2.2.2.2.1 c.2.2.2.2.2.2.2.2.1 c.2.2.2.2.2.2.2.2.2.1 c.2.2.2.2.2.2.2.2.2.2.1 c.2.2.2.2.2.2.2.2.2.2.2.1 c.2.2.2.2.2.2.2.2.2.2.2.2.1 c.2.2.2.2.2.2.2.2.2.2.2.2.2.1 c.2.2.2.2.2.2.2.2.2.2.2.2.2.2.1 c.2.2.2.2.2.2.2.2.2.2.2.2.2.2.2.1 c.2.2.2.2.2.2.2.2.2.2.2.2.2.2.2.2.1 c.2.2.2.2.2.2.2.2.2.2.2.2.2.2.2.2.2.1 c.2.2.2.2.2.2.2.2.2.2.2.2.2.2.2.2.2.2.1 c.2.2.2.2.2.2.2.2.2.2.2.2.2.2.2.2.2.2.2.1 c.2.2.2.2.2.2.2.2.2.2.2.2.2.2.2.2.2.2.2.2.1 c.2.2.2.2.2.2.2.2.2.2.2.2.2.2.2.2.2.2.2.2.2)
@[irreducible] noncomputable def w := zc.1.1
@[irreducible] noncomputable def p := zc.1.2.1
@[irreducible] noncomputable def loose := zc.1.2.2.1
@[irreducible] noncomputable def mean := zc.1.2.2.2.1
@[irreducible] noncomputable def mg := zc.1.2.2.2.2.1
@[irreducible] noncomputable def mb := zc.1.2.2.2.2.2.1
@[irreducible] noncomputable def c := zc.1.2.2.2.2.2.2.1
@[irreducible] noncomputable def own := zc.1.2.2.2.2.2.2.2.1
@[irreducible] noncomputable def rs := zc.1.2.2.2.2.2.2.2.2.1
@[irreducible] noncomputable def rl := zc.1.2.2.2.2.2.2.2.2.2.1
@[irreducible] noncomputable def nr := zc.1.2.2.2.2.2.2.2.2.2.2.1
@[irreducible] noncomputable def a := zc.1.2.2.2.2.2.2.2.2.2.2.2.1
@[irreducible] noncomputable def b := zc.1.2.2.2.2.2.2.2.2.2.2.2.2.1
@[irreducible] noncomputable def ta := zc.1.2.2.2.2.2.2.2.2.2.2.2.2.2.1
@[irreducible] noncomputable def tb := zc.1.2.2.2.2.2.2.2.2.2.2.2.2.2.2.1
@[irreducible] noncomputable def A₀ := zc.1.2.2.2.2.2.2.2.2.2.2.2.2.2.2.2.1
@[irreducible] noncomputable def base := zc.1.2.2.2.2.2.2.2.2.2.2.2.2.2.2.2.2.1
@[irreducible] noncomputable def h₀ := zc.1.2.2.2.2.2.2.2.2.2.2.2.2.2.2.2.2.2.1
@[irreducible] noncomputable def m := zc.1.2.2.2.2.2.2.2.2.2.2.2.2.2.2.2.2.2.2.1
@[irreducible] noncomputable def s := zc.1.2.2.2.2.2.2.2.2.2.2.2.2.2.2.2.2.2.2.2.1
@[irreducible] noncomputable def Q := zc.1.2.2.2.2.2.2.2.2.2.2.2.2.2.2.2.2.2.2.2.2.1
@[irreducible] noncomputable def E := zc.1.2.2.2.2.2.2.2.2.2.2.2.2.2.2.2.2.2.2.2.2.2
noncomputable def zpart0 : { R : ((Heap) → (Addr) → (Addr) → (Addr) → (Addr) → (Addr) → (Addr) → (Heap) → (Nat) → Prop) // Hide (∀ g' L' al t0 wl ml tw h3 tkn, R g' L' al t0 wl ml tw h3 tkn) → zP w p loose mean mg mb c own rs rl nr a b ta tb A₀ base h₀ m s Q E } := by
  refine' ⟨_, fun hP1 => ?main⟩
  case main =>
    intro B F X T N R hlen ha hb hok0 hok1
    w_on
    repeat' (first | (k_unfold; (try dsimp only)) | (k_end; wrow_close) | ((first | with_reducible ((with_reducible show wpAny _ _ (exec (Stmt.While ..) _) _ _ _); k_dflt (refine stop_ ?_)) | walk1); (try ((with_reducible show wpAny _ _ (execs _ _) _ _ (Shared.mk _ _ _ (_ + 1) _)); refine tok_any ?_; intro tkn))) | (dsimp only; walk1) | (leave1; (try dsimp only)))
    unfold Stop
    rename_i g' L' hA FG' B' X' T' al hB hT1 lt1 t0 hC hT2 lt2 wl hD hT3 lt3 ml hE hT4 lt4 tw hG hT5 lt5 h1 h2 h3 F' N'
    have hWl : ∀ e ∈ own, @Ne Nat e.1 wl := fun e he => Nat.ne_of_lt (Lts.at hT3 he)
    have hMl : ∀ e ∈ own, @Ne Nat e.1 ml := fun e he => Nat.ne_of_lt (Lts.at hT4 he)
    ((try clear lt5); (try clear hT5); (try clear hT4); (try clear hT3); (try clear lt2); (try clear hT2); (try clear lt1); (try clear hT1); (try clear T'); (try clear B'); (try clear FG'); (try clear N); (try clear F); (try clear B))
    revert X T R hlen ha hb hok0 hok1 X' qk ek lt3 lt4 F' N' hWl hMl
    exact hP1.out g' L' al t0 wl ml tw h3 tkn
namespace z1
noncomputable def zc := eps (α := (Heap) × (Addr) × (Addr) × (Addr) × (Addr) × (Addr) × (Addr) × (Heap) × (Nat)) ⟨{}, default, default, default, default, default, default, {}, default⟩ (fun c => zpart0.1 c.1 c.2.1 c.2.2.1 c.2.2.2.1 c.2.2.2.2.1 c.2.2.2.2.2.1 c.2.2.2.2.2.2.1 c.2.2.2.2.2.2.2.1 c.2.2.2.2.2.2.2.2)
@[irreducible] noncomputable def g' := zc.1.1
@[irreducible] noncomputable def L' := zc.1.2.1
@[irreducible] noncomputable def al := zc.1.2.2.1
@[irreducible] noncomputable def t0 := zc.1.2.2.2.1
@[irreducible] noncomputable def wl := zc.1.2.2.2.2.1
@[irreducible] noncomputable def ml := zc.1.2.2.2.2.2.1
@[irreducible] noncomputable def tw := zc.1.2.2.2.2.2.2.1
@[irreducible] noncomputable def h3 := zc.1.2.2.2.2.2.2.2.1
@[irreducible] noncomputable def tkn := zc.1.2.2.2.2.2.2.2.2
noncomputable def zpart1 : { R : ((Nat) → (List (Nat × Nat)) → (List Value) → (Nat) → (Nat) → (List (Addr × Obj)) → (Heap) → (Nat) → (Str → Option Value) → Prop) × ((Nat) → (List (Nat × Nat)) → (List Value) → (Nat) → (Nat) → (List (Addr × Obj)) → (Heap) → (Nat) → (Str → Option Value) → (List (Nat × Nat × List Int)) → (Nat) → (Nat) → (List Int) → (List Value) → (Addr) → (Addr) → (Tok) → (Tok) → (Nat) → (Nat) → (List (Int × Tok)) → (RRec) → (RRec) → Prop) // Hide (∀ k V vs kw km rest h6 tk6 m6, R.1 k V vs kw km rest h6 tk6 m6) → Hide (∀ k V vs kw km rest h6 tk6 m6 WQ p1 q1 u1 ws T1 al1 t1 t2 n1 n2 zs ra rb, R.2 k V vs kw km rest h6 tk6 m6 WQ p1 q1 u1 ws T1 al1 t1 t2 n1 n2 zs ra rb) → zpart0.1 g' L' al t0 wl ml tw h3 tkn } := by
  refine' ⟨(_, _), fun hP2 hP3 => ?main⟩
  case main =>
    intro X T R hlen ha hb hok0 hok1 X' qk ek lt3 lt4 F' N' hWl hMl
    refine whl_start 0 ?_
    refine whl_ind (fun k s' => ∃ (WQ : List (Nat × Nat × List Int)) (V : List (Nat × Nat)) (ws vs : List Value) (kw km : Nat) (rest : List (Addr × Obj)) (h' : Heap) (tk : Nat) (m' : Str → Option Value), 3 * (rs.length * rs.length - V.length) + WQ.length = k ∧ s' = { s with heap := h', toks := tk } ∧
      Fr g' L' h' (fun y => if y = Str.ofString "waiting" then some (.ref wl) else if y = Str.ofString "met" then some (.ref ml) else if y = Str.ofString "rules" then some (.ref rl) else m' y) ∧
      News g' L' h' ((wl, W.listOf ws.toArray kw) :: (ml, W.listOf vs.toArray km) :: rest) ∧ DatAll rest ws (WQ.map datW) ∧ DatAll rest vs (V.map datV) ∧ (∀ e ∈ (rl, W.listOf (rs.map fun r => .ref r.ad).toArray nr) :: own, e ∈ rest) ∧ (∀ e ∈ rest, @Ne Nat e.1 wl) ∧ (∀ e ∈ rest, @Ne Nat e.1 ml) ∧ (machR rs).BInv a b WQ V) ?_ (3 * (rs.length * rs.length - 0) + 1) _ ?_
    · intro k s' hI IH
      refine cps fun zG zk => ?_
      obtain ⟨WQ, V, ws, vs, kw, km, rest, h6, tk6, m6, hk, rfl, F6, N6, hWs, hVs, hR, of1, of2, hB⟩ := hI
      refine zk ?_
      clear zk zG
      ((try clear N'); (try clear F'))
      have hWok : ∀ d ∈ WQ.map datW, kqdOk 8 d = true := fun d hd => by obtain ⟨e, -, rfl⟩ := List.mem_map.mp hd; exact datW_ok e
      have hVn := hB.vn
      have hql := hB.ql
      have hnn : rs.length * rs.length ≤ 25 := Nat.mul_le_mul hlen hlen
      have hVn' : V.length ≤ rs.length * rs.length := hVn
      rcases WQ with _ | ⟨⟨p1, q1, u1⟩, WQ⟩
      · cases hWs
        have hWs : DatAll rest [] (List.map datW []) := .nil
        ((try clear hVn); (try clear of2); (try clear of1); (try clear hVs); (try clear IH); (try clear hMl); (try clear hWl); (try clear lt4); (try clear lt3); (try clear hok1); (try clear hb); (try clear ha); (try clear hlen); (try clear R))
        revert X T hok0 X' qk ek F6 hR hnn hVn' hk hB hWok hql N6 hWs
        exact hP2.out k V vs kw km rest h6 tk6 m6
      · cases hWs with
        | @cons v ws _ _ hv hws =>
        have hWs := DatAll.cons hv hws
        have hwl := dat_len hws
        rw [List.length_map] at hwl
        refine cps fun zG zk => ?_
        obtain ⟨T1, al1, t1, t2, n1, n2, zs, rfl, hT, hal, hz⟩ := datW_inv hv
        refine zk ?_
        clear zk zG
        dsimp only at hz hT
        refine cps fun zG zk => ?_
        obtain ⟨hp1, hq1⟩ := hB.lt _ (.head _)
        refine zk ?_
        clear zk zG
        dsimp only at hp1 hq1
        replace hp1 : p1 < rs.length := hp1
        replace hq1 : q1 < rs.length := hq1
        have hpr : rs[p1]? = some rs[p1] := List.getElem?_eq_getElem hp1
        have hqr : rs[q1]? = some rs[q1] := List.getElem?_eq_getElem hq1
        generalize rs[p1] = ra at hpr
        generalize rs[q1] = rb at hqr
        refine cps fun zG zk => ?_
        obtain ⟨a1, a2, ⟨a3, a4⟩, a5, a6⟩ := R ra (List.mem_of_getElem? hpr)
        obtain ⟨b1, b2, ⟨b3, b4⟩, b5, b6⟩ := R rb (List.mem_of_getElem? hqr)
        refine zk ?_
        clear zk zG
        replace a1 := hR _ (.tail _ a1)
        replace b1 := hR _ (.tail _ b1)
        have mrl := hR _ (.head _)
        have g1 : (rs.map fun r => Value.ref r.ad)[((p1 : Nat) : Int).toNat]? = some (.ref ra.ad) := by rw [Int.toNat_natCast, List.getElem?_map, hpr]; rfl
        have g2 : (rs.map fun r => Value.ref r.ad)[((q1 : Nat) : Int).toNat]? = some (.ref rb.ad) := by rw [Int.toNat_natCast, List.getElem?_map, hqr]; rfl
        have lta : (machR rs).lt p1 = ra.l := by show (rs[p1]?.map (·.l)).getD 0 = _; rw [hpr]; rfl
        have ltb : (machR rs).lt q1 = rb.l := by show (rs[q1]?.map (·.l)).getD 0 = _; rw [hqr]; rfl
        have hvl := dat_len hVs
        rw [List.length_map] at hvl
        simp only [List.length_cons] at hql
        have hzl : zs.length ≤ 25 := by
          have h1 := hB.wl _ (.head _)
          have h2 := congrArg List.length hz
          simp only [List.length_map] at h1 h2
          exact (qele h2 (Nat.le_trans h1 (Nat.le_trans hVn' hnn)))
        ((try clear b6); (try clear b4); (try clear a6); (try clear a4); (try clear hv); (try clear hVn); (try clear hMl); (try clear hWl); (try clear lt3); (try clear hok0); (try clear hb); (try clear ha))
        revert X T R hlen hok1 X' qk ek lt4 IH F6 hVs hR of1 of2 hnn hVn' hk hB hWok hql hws hwl N6 hWs hT hal hz hp1 hq1 hpr hqr a2 a3 a5 b2 b3 b5 a1 b1 mrl g1 g2 lta ltb
          hvl hzl
        exact hP3.out k V vs kw km rest h6 tk6 m6 WQ p1 q1 u1 ws T1 al1 t1 t2 n1 n2 zs ra rb
    · refine ⟨[(a, b, [])], [], [.ref t0], [], 0, 0, (t0, tup [.int a ta, .int b tb, .ref al]) :: (al, W.listOf #[] 0) :: (rl, W.listOf (rs.map fun r => .ref r.ad).toArray nr) :: own, _, _, _, rfl, rfl, fr_name3 F' rfl rfl rfl, ?_, ?_, .nil, fun e he => .tail _ (.tail _ he), ?_, ?_, Mach.BInv.start (machR rs) ha hb⟩
      · refine news_sub N' fun e he => ?_
        simp only [List.mem_cons] at he ⊢
        grind
      · exact .cons (.tuple (.head _) (.cons (.int _ _) (.cons (.int _ _) (.cons (.list (.tail _ (.head _)) .nil) .nil)))) .nil
      · simp only [List.forall_mem_cons]
        refine ⟨?_, ?_, ?_, hWl⟩ <;> (first | exact (qne (And.left lt3)) | exact (qne (And.left (And.right lt3))) | exact (qne (And.left (And.right (And.right lt3)))) | omega)
      · simp only [List.forall_mem_cons]
        refine ⟨?_, ?_, ?_, hMl⟩ <;> (first | exact (qne (And.left (And.right lt4))) | exact (qne (And.left (And.right (And.right lt4)))) | exact (qne (And.left (And.right (And.right (And.right lt4))))) | omega)

namespace z2
noncomputable def zc := eps (α := (Nat) × (List (Nat × Nat)) × (List Value) × (Nat) × (Nat) × (List (Addr × Obj)) × (Heap) × (Nat) × (Str → Option Value)) ⟨default, default, default, default, default, default, {}, default, (fun _ => default)⟩ (fun c => zpart1.1.1 c.1 c.2.1 c.2.2.1 c.2.2.2.1 c.2.2.2.2.1 c.2.2.2.2.2.1 c.2.2.2.2.2.2.1 c.2.2.2.2.2.2.2.1 c.2.2.2.2.2.2.2.2)
@[irreducible] noncomputable def k := zc.1.1
@[irreducible] noncomputable def V := zc.1.2.1
@[irreducible] noncomputable def vs := zc.1.2.2.1
@[irreducible] noncomputable def kw := zc.1.2.2.2.1
@[irreducible] noncomputable def km := zc.1.2.2.2.2.1
@[irreducible] noncomputable def rest := zc.1.2.2.2.2.2.1
@[irreducible] noncomputable def h6 := zc.1.2.2.2.2.2.2.1
@[irreducible] noncomputable def tk6 := zc.1.2.2.2.2.2.2.2.1
@[irreducible] noncomputable def m6 := zc.1.2.2.2.2.2.2.2.2
theorem zat : zpart1.1.1 k V vs kw km rest h6 tk6 m6 := by
  intro X T hok0 X' qk ek F6 hR hnn hVn' hk hB hWok hql N6 hWs
  repeat' (first | (k_unfold; (try dsimp only)) | (k_end; wrow_close) | ((first | with_reducible ((with_reducible show wpAny _ _ (compareOp CmpOp.NotEq (Value.ref _) (Value.ref _)) _ _ _); k_here; k_dflt (refine' ne_nil_K (n₁ := rest) ?Nx80 ?max80 hWs ?sax80 ?mbx80 hWok ?hux80 ?_; (case Nx80 => k_asm); (case max80 => k_mem); (case mbx80 => k_mem); (case hux80 => ke_room); (case sax80 => (intro q hq; repeat (first | exact hq | apply List.Mem.tail)))); (simp only [List.map_nil, List.map_cons, List.isEmpty_nil, List.isEmpty_cons, Bool.not_true, Bool.not_false])) | walk1); (try ((with_reducible show wpAny _ _ (execs _ _) _ _ (Shared.mk _ _ _ (_ + 1) _)); refine tok_any ?_; intro tkn))) | (dsimp only; walk1) | (leave1; (try dsimp only)))
  rename Fr h₀ _ _ _ => F14
  rename News h₀ _ _ _ => N14
  exact hok0 _ _ V _ F14 N14 (fun e he => .tail _ (.tail _ (.tail _ (hR e he)))) hB
theorem zall : ∀ k V vs kw km rest h6 tk6 m6, zpart1.1.1 k V vs kw km rest h6 tk6 m6 := fun k V vs kw km rest h6 tk6 m6 => @epsH _ _ zc (by with_unfolding_all exact zat) (k, V, vs, kw, km, rest, h6, tk6, m6)
end z2
namespace z3
noncomputable def zc := eps (α := (Nat) × (List (Nat × Nat)) × (List Value) × (Nat) × (Nat) × (List (Addr × Obj)) × (Heap) × (Nat) × (Str → Option Value) × (List (Nat × Nat × List Int)) × (Nat) × (Nat) × (List Int) × (List Value) × (Addr) × (Addr) × (Tok) × (Tok) × (Nat) × (Nat) × (List (Int × Tok)) × (RRec) × (RRec)) ⟨default, default, default, default, default, default, {}, default, (fun _ => default), default, default, default, default, default, default, default, default, default, default, default, default, by constructor <;> exact default, by constructor <;> exact default⟩ (fun c => zpart1.1.2 c.1 c.2.1 c.2.2.1 c.2.2.2.1 c.2.2.2.2.1 c.2.2.2.2.2.1 c.2.2.2.2.2.2.1 c.2.2.2.2.2.2.2.1 c.2.2.2.2.2.2.2.2.1 c.2.2.2.2.2.2.2.2.2.1 c.2.2.2.2.2.2.2.2.2.2.1 c.2.2.2.2.2.2.2.2.2.2.2.1 c.2.2.2.2.2.2.2.2.2.2.2.2.1 c.2.2.2.2.2.2.2.2.2.2.2.2.2.1 c.2.2.2.2.2.2.2.2.2.2.2.2.2.2.1 c.2.2.2.2.2.2.2.2.2.2.2.2.2.2.2.1 c.2.2.2.2.2.2.2.2.2.2.2.2.2.2.2.2.1 c.2.2.2.2.2.2.2.2.2.2.2.2.2.2.2.2.2.1 c.2.2.2.2.2.2.2.2.2.2.2.2.2.2.2.2.2.2.1 c.2.2.2.2.2.2.2.2.2.2.2.2.2.2.2.2.2.2.2.1 c.2.2.2.2.2.2.2.2.2.2.2.2.2.2.2.2.2.2.2.2.1 c.2.2.2.2.2.2.2.2.2.2.2.2.2.2.2.2.2.2.2.2.2.1 c.2.2.2.2.2.2.2.2.2.2.2.2.2.2.2.2.2.2.2.2.2.2)
@[irreducible] noncomputable def k := zc.1.1
@[irreducible] noncomputable def V := zc.1.2.1
@[irreducible] noncomputable def vs := zc.1.2.2.1
@[irreducible] noncomputable def kw := zc.1.2.2.2.1
@[irreducible] noncomputable def km := zc.1.2.2.2.2.1
@[irreducible] noncomputable def rest := zc.1.2.2.2.2.2.1
@[irreducible] noncomputable def h6 := zc.1.2.2.2.2.2.2.1
@[irreducible] noncomputable def tk6 := zc.1.2.2.2.2.2.2.2.1
@[irreducible] noncomputable def m6 := zc.1.2.2.2.2.2.2.2.2.1
@[irreducible] noncomputable def WQ := zc.1.2.2.2.2.2.2.2.2.2.1
@[irreducible] noncomputable def p1 := zc.1.2.2.2.2.2.2.2.2.2.2.1
@[irreducible] noncomputable def q1 := zc.1.2.2.2.2.2.2.2.2.2.2.2.1
@[irreducible] noncomputable def u1 := zc.1.2.2.2.2.2.2.2.2.2.2.2.2.1
@[irreducible] noncomputable def ws := zc.1.2.2.2.2.2.2.2.2.2.2.2.2.2.1
@[irreducible] noncomputable def T1 := zc.1.2.2.2.2.2.2.2.2.2.2.2.2.2.2.1
@[irreducible] noncomputable def al1 := zc.1.2.2.2.2.2.2.2.2.2.2.2.2.2.2.2.1
@[irreducible] noncomputable def t1 := zc.1.2.2.2.2.2.2.2.2.2.2.2.2.2.2.2.2.1
@[irreducible] noncomputable def t2 := zc.1.2.2.2.2.2.2.2.2.2.2.2.2.2.2.2.2.2.1
@[irreducible] noncomputable def n1 := zc.1.2.2.2.2.2.2.2.2.2.2.2.2.2.2.2.2.2.2.1
@[irreducible] noncomputable def n2 := zc.1.2.2.2.2.2.2.2.2.2.2.2.2.2.2.2.2.2.2.2.1
@[irreducible] noncomputable def zs := zc.1.2.2.2.2.2.2.2.2.2.2.2.2.2.2.2.2.2.2.2.2.1
@[irreducible] noncomputable def ra := zc.1.2.2.2.2.2.2.2.2.2.2.2.2.2.2.2.2.2.2.2.2.2.1
@[irreducible] noncomputable def rb := zc.1.2.2.2.2.2.2.2.2.2.2.2.2.2.2.2.2.2.2.2.2.2.2
noncomputable def zpart3 : { R : ((Addr) → (Heap) → (Nat) → (Addr) → (Heap) → Prop) × ((Addr) → (Heap) → (Nat) → (Addr) → (Heap) → Prop) // Hide (∀ z4_1 z4_9 tk z4_11 z4_12, R.1 z4_1 z4_9 tk z4_11 z4_12) → Hide (∀ z5_1 z5_9 tk z5_11 z5_12, R.2 z5_1 z5_9 tk z5_11 z5_12) → zpart1.1.2 k V vs kw km rest h6 tk6 m6 WQ p1 q1 u1 ws T1 al1 t1 t2 n1 n2 zs ra rb } := by
  refine' ⟨(_, _), fun hP4 hP5 => ?main⟩
  case main =>
    intro X T R hlen hok1 X' qk ek lt4 IH F6 hVs hR of1 of2 hnn hVn' hk hB hWok hql hws hwl N6 hWs hT hal hz hp1 hq1 hpr hqr a2 a3 a5 b2 b3 b5 a1 b1 mrl g1 g2 lta ltb hvl
      hzl
    iterate 50 (first | (k_unfold; (try dsimp only)) | (k_end; wrow_close) | ((first | with_reducible ((with_reducible show wpAny _ _ (compareOp CmpOp.NotEq (Value.ref _) (Value.ref _)) _ _ _); k_here; k_dflt (refine' ne_nil_K (n₁ := rest) ?Nx81 ?max81 hWs ?sax81 ?mbx81 hWok ?hux81 ?_; (case Nx81 => k_asm); (case max81 => k_mem); (case mbx81 => k_mem); (case hux81 => ke_room); (case sax81 => (intro q hq; repeat (first | exact hq | apply List.Mem.tail)))); (simp only [List.map_nil, List.map_cons, List.isEmpty_nil, List.isEmpty_cons, Bool.not_true, Bool.not_false])) | with_reducible ((with_reducible show wpAny _ _ (call (Value.builtin _) _) _ _ _); k_here; k_dflt (refine' pop0_K ?Fx82 ?Nx82 ?Ux82 ?zx82 ?_; (case Fx82 => k_asm); (case Nx82 => k_asm); (case Ux82 => k_upd); (case zx82 => (simp only [List.length_cons] at *; omega))); intro _ _ _) | with_reducible ((with_reducible show wpAny _ _ (subscriptTail (Expr.Name ..) (Expr.Name ..) (Value.ref _) (Value.int ..)) _ _ _); k_here; (with_reducible show wpAny _ _ (subscriptTail _ _ (Value.ref _) (Value.int _ _)) _ _ _); (with_unfolding_all refine' item_litK ?k1x83 ?k2x83 ?k3x83 ?k4x83 ?_ ?k6x83; (case k1x83 => refine News.isList (by k_asm) (by k_mem)); (case k4x83 => with_reducible assumption); (case k2x83 => exact (Int.natCast_nonneg _)); (case k3x83 => (first | exact (qib (Nat.le_of_lt hp1) (q1k hlen (by decide))) | exact (qib (Nat.le_of_lt hq1) (q1k hlen (by decide))) | omega)); (case k6x83 => with_unfolding_all rfl); k_whole)) | walk1); (try ((with_reducible show wpAny _ _ (execs _ _) _ _ (Shared.mk _ _ _ (_ + 1) _)); refine tok_any ?_; intro tkn))) | (dsimp only; walk1) | (leave1; (try dsimp only)))
    · repeat' (first | (k_unfold; (try dsimp only)) | (k_end; wrow_close) | (walk1; (try ((with_reducible show wpAny _ _ (execs _ _) _ _ (Shared.mk _ _ _ (_ + 1) _)); refine tok_any ?_; intro tkn))) | (dsimp only; walk1) | (leave1; (try dsimp only)))
      rename Fr h₀ _ _ _ => F14
      rename News h₀ _ _ _ => N14
      rename ra.l ≠ rb.l => hne
      refine hok1 _ _ al1 zs n2 _ F14 (fun e he => by
            rcases List.mem_cons.mp he with rfl | he
            · exact N14 _ (.tail _ (.tail _ (.tail _ hal)))
            · exact N14 e he) (fun e he => .tail _ (.tail _ (.tail _ (hR e he)))) hzl ?_
      rw [hz]
      exact hB.found (by rw [lta, ltb]; exact hne)
    · iterate 17 (first | (k_unfold; (try dsimp only)) | (k_end; wrow_close) | (walk1; (try ((with_reducible show wpAny _ _ (execs _ _) _ _ (Shared.mk _ _ _ (_ + 1) _)); refine tok_any ?_; intro tkn))) | (dsimp only; walk1) | (leave1; (try dsimp only)))
      · skip
        rename_i z4_1 z4_2 z4_3 z4_4 z4_5 z4_6 z4_7 z4_8 z4_9 z4_10 z4_11 z4_12 z4_13 z4_14 z4_15 z4_16 z4_17
        ((try clear z4_16); (try clear z4_15); (try clear z4_10); (try clear z4_4); (try clear z4_3); (try clear hzl); (try clear hvl); (try clear ltb); (try clear lta); (try clear g2); (try clear g1); (try clear mrl); (try clear b1); (try clear a1); (try clear b5); (try clear b3); (try clear b2); (try clear a5); (try clear a3); (try clear a2); (try clear hqr); (try clear hpr); (try clear hq1); (try clear hp1); (try clear hz); (try clear hal); (try clear hT); (try clear hWs); (try clear hwl); (try clear hql); (try clear hWok); (try clear hVn'); (try clear hnn); (try clear lt4); (try clear hok1); (try clear hlen); (try clear R); (try clear T))
        revert X X' qk ek IH hVs hR of1 of2 hk hB hws z4_13 z4_14 z4_17
        exact hP4.out z4_1 z4_9 tk z4_11 z4_12
      · skip
        rename_i z5_1 z5_2 z5_3 z5_4 z5_5 z5_6 z5_7 z5_8 z5_9 z5_10 z5_11 z5_12 z5_13 z5_14 z5_15 z5_16 z5_17
        ((try clear z5_15); (try clear z5_3); (try clear hT); (try clear hWs); (try clear hWok); (try clear hok1); (try clear T))
        revert X R hlen X' qk ek lt4 IH hVs hR of1 of2 hnn hVn' hk hB hql hws hwl hal hz hp1 hq1 hpr hqr a2 a3 a5 b2 b3 b5 a1 b1 mrl g1 g2 lta ltb hvl hzl z5_4 z5_10 z5_13
          z5_14 z5_16 z5_17
        exact hP5.out z5_1 z5_9 tk z5_11 z5_12
namespace z4
noncomputable def zc := eps (α := (Addr) × (Heap) × (Nat) × (Addr) × (Heap)) ⟨default, {}, default, default, {}⟩ (fun c => zpart3.1.1 c.1 c.2.1 c.2.2.1 c.2.2.2.1 c.2.2.2.2)
@[irreducible] noncomputable def z4_1 := zc.1.1
@[irreducible] noncomputable def z4_9 := zc.1.2.1
@[irreducible] noncomputable def tk := zc.1.2.2.1
@[irreducible] noncomputable def z4_11 := zc.1.2.2.2.1
@[irreducible] noncomputable def z4_12 := zc.1.2.2.2.2
theorem zat : zpart3.1.1 z4_1 z4_9 tk z4_11 z4_12 := by
  intro X X' qk ek IH hVs hR of1 of2 hk hB hws z4_13 z4_14 z4_17
  repeat' (first | (k_unfold; (try dsimp only)) | (k_end; wrow_close) | ((first | with_reducible ((with_reducible show WhlRest _ _ _ _ _ _ _ _ _ 0 _); k_dflt (refine stop_ ?_)) | walk1); (try ((with_reducible show wpAny _ _ (execs _ _) _ _ (Shared.mk _ _ _ (_ + 1) _)); refine tok_any ?_; intro tkn))) | (dsimp only; walk1) | (leave1; (try dsimp only)))
  unfold Stop
  rename Fr g' _ _ _ => F14
  rename News g' _ _ _ => N14
  rename decide (_ ∈ _) = true => hin
  have hin' := datV_inj.mp (dec_t hin)
  exact IH (3 * (rs.length * rs.length - V.length) + WQ.length) _ (by simp only [List.length_cons] at hk; omega) ⟨WQ, V, ws, vs, _, _, rest, _, _, _, rfl, rfl, fr_name3 F14 rfl rfl rfl, news_sub N14 (fun e he => .tail _ (.tail _ he)), hws, hVs, hR, of1, of2, hB.seen hin'⟩
theorem zall : ∀ z4_1 z4_9 tk z4_11 z4_12, zpart3.1.1 z4_1 z4_9 tk z4_11 z4_12 := fun z4_1 z4_9 tk z4_11 z4_12 => @epsH _ _ zc (by with_unfolding_all exact zat) (z4_1, z4_9, tk, z4_11, z4_12)
end z4
namespace z5
noncomputable def zc := eps (α := (Addr) × (Heap) × (Nat) × (Addr) × (Heap)) ⟨default, {}, default, default, {}⟩ (fun c => zpart3.1.2 c.1 c.2.1 c.2.2.1 c.2.2.2.1 c.2.2.2.2)
@[irreducible] noncomputable def z5_1 := zc.1.1
@[irreducible] noncomputable def z5_9 := zc.1.2.1
@[irreducible] noncomputable def tk := zc.1.2.2.1
@[irreducible] noncomputable def z5_11 := zc.1.2.2.2.1
@[irreducible] noncomputable def z5_12 := zc.1.2.2.2.2
noncomputable def zpart5 : { R : ((Nat) → (Addr) → (Addr) → (Addr) → (Addr) → (Nat) → (Addr) → (Addr) → (Addr) → (Heap) → (Nat) → Prop) // Hide (∀ tk z6_1 z6_6 z6_10 z6_14 z6_19 z6_20 z6_24 z6_28 z6_34 tkn, R tk z6_1 z6_6 z6_10 z6_14 z6_19 z6_20 z6_24 z6_28 z6_34 tkn) → zpart3.1.2 z5_1 z5_9 tk z5_11 z5_12 } := by
  refine' ⟨_, fun hP6 => ?main⟩
  case main =>
    intro X R hlen X' qk ek lt4 IH hVs hR of1 of2 hnn hVn' hk hB hql hws hwl hal hz hp1 hq1 hpr hqr a2 a3 a5 b2 b3 b5 a1 b1 mrl g1 g2 lta ltb hvl hzl z5_4 z5_10 z5_13
      z5_14 z5_16 z5_17
    repeat' (first | (k_unfold; (try dsimp only)) | (k_end; wrow_close) | ((first | with_reducible ((with_reducible show wpAny _ _ (call (Value.builtin _) _) _ _ _); k_here; k_dflt (refine' append_K ?k1x85 ?k2x85 ?k3x85 ?_ ?zx85; (case k1x85 => k_asm); (case k2x85 => k_asm); (case k3x85 => k_upd); (case zx85 => (simp only [PySem.sizeLine_eq, List.size_toArray, Array.size_push, List.length_map, List.length_append, List.length_cons, List.length_nil]; (first | exact (q16 (qele hvl hVn') (q16 hnn (by decide))) | omega))); k_whole); intro _ _ _) | with_reducible ((with_reducible show wpAny _ _ (subscriptTail (Expr.Name ..) (Expr.Name ..) (Value.ref _) (Value.int ..)) _ _ _); k_here; (with_reducible show wpAny _ _ (subscriptTail _ _ (Value.ref _) (Value.int _ _)) _ _ _); (with_unfolding_all refine' item_litK ?k1x86 ?k2x86 ?k3x86 ?k4x86 ?_ ?k6x86; (case k1x86 => refine News.isList (by k_asm) (by k_mem)); (case k4x86 => with_reducible assumption); (case k2x86 => exact (Int.natCast_nonneg _)); (case k3x86 => (first | exact (qib (Nat.le_of_lt hp1) (q1k hlen (by decide))) | exact (qib (Nat.le_of_lt hq1) (q1k hlen (by decide))) | omega)); (case k6x86 => with_unfolding_all rfl); k_whole)) | with_reducible ((with_reducible show WhlRest _ _ _ _ _ _ _ _ _ 0 _); k_dflt (refine stop_ ?_)) | walk1); (try ((with_reducible show wpAny _ _ (execs _ _) _ _ (Shared.mk _ _ _ (_ + 1) _)); refine tok_any ?_; intro tkn))) | (dsimp only; walk1) | (leave1; (try dsimp only)))
    unfold Stop
    rename Fr g' _ _ _ => F14
    rename News g' _ _ _ => N14
    rename decide (_ ∈ _) = false => hin
    rename ra.l = rb.l => hll
    have hin' : (p1, q1) ∉ V := fun h => dec_f hin (datV_inj.mpr h)
    simp only [List.push_toArray] at N14
    have hn := hB.new (machR_ok R) (by rw [lta, ltb]; exact hll) hin'
    have q1' : ra.a = ((machR rs).n1 p1 : Nat) := by show ra.a = (((rs[p1]?.map (·.a.toNat)).getD 0 : Nat) : Int); rw [hpr]; exact (Int.toNat_of_nonneg a3).symm
    have q2' : rb.a = ((machR rs).n1 q1 : Nat) := by show rb.a = (((rs[q1]?.map (·.a.toNat)).getD 0 : Nat) : Int); rw [hqr]; exact (Int.toNat_of_nonneg b3).symm
    have q3' : ra.b = ((machR rs).n0 p1 : Nat) := by show ra.b = (((rs[p1]?.map (·.b.toNat)).getD 0 : Nat) : Int); rw [hpr]; exact (Int.toNat_of_nonneg a5).symm
    have q4' : rb.b = ((machR rs).n0 q1 : Nat) := by show rb.b = (((rs[q1]?.map (·.b.toNat)).getD 0 : Nat) : Int); rw [hqr]; exact (Int.toNat_of_nonneg b5).symm
    rename_i z6_1 z6_2 z6_3 z6_4 z6_5 z6_6 z6_7 z6_8 z6_9 z6_10 z6_11 z6_12 z6_13 z6_14 z6_15 z6_16 z6_17 z6_18 z6_19 z6_20 z6_21 z6_22 z6_23 z6_24 z6_25 z6_26 z6_27 z6_28
      z6_29 z6_30 z6_31 z6_32 z6_33 z6_34
    ((try clear hin'); (try clear z6_32); (try clear z6_31); (try clear z6_30); (try clear z6_26); (try clear z6_23); (try clear z6_22); (try clear z6_16); (try clear z6_12); (try clear z6_9); (try clear z6_8); (try clear z6_3); (try clear hin); (try clear z5_16); (try clear z5_4); (try clear hzl); (try clear ltb); (try clear lta); (try clear g2); (try clear g1); (try clear mrl); (try clear b1); (try clear a1); (try clear b5); (try clear b3); (try clear a5); (try clear a3); (try clear hqr); (try clear hpr); (try clear hq1); (try clear hp1); (try clear hal); (try clear hwl); (try clear hql); (try clear hB); (try clear hVn'); (try clear hnn); (try clear lt4); (try clear hlen); (try clear R))
    revert X X' qk ek IH hVs hR of1 of2 hk hws hz a2 b2 hvl hll z6_4 z6_13 z6_17 z6_27 z6_33 F14 N14 hn q1' q2' q3' q4'
    exact hP6.out tk z6_1 z6_6 z6_10 z6_14 z6_19 z6_20 z6_24 z6_28 z6_34 tkn
namespace z6
noncomputable def zc := eps (α := (Nat) × (Addr) × (Addr) × (Addr) × (Addr) × (Nat) × (Addr) × (Addr) × (Addr) × (Heap) × (Nat)) ⟨default, default, default, default, default, default, default, default, default, {}, default⟩ (fun c => zpart5.1 c.1 c.2.1 c.2.2.1 c.2.2.2.1 c.2.2.2.2.1 c.2.2.2.2.2.1 c.2.2.2.2.2.2.1 c.2.2.2.2.2.2.2.1 c.2.2.2.2.2.2.2.2.1 c.2.2.2.2.2.2.2.2.2.1 c.2.2.2.2.2.2.2.2.2.2)
@[irreducible] noncomputable def tk := zc.1.1
@[irreducible] noncomputable def z6_1 := zc.1.2.1
@[irreducible] noncomputable def z6_6 := zc.1.2.2.1
@[irreducible] noncomputable def z6_10 := zc.1.2.2.2.1
@[irreducible] noncomputable def z6_14 := zc.1.2.2.2.2.1
@[irreducible] noncomputable def z6_19 := zc.1.2.2.2.2.2.1
@[irreducible] noncomputable def z6_20 := zc.1.2.2.2.2.2.2.1
@[irreducible] noncomputable def z6_24 := zc.1.2.2.2.2.2.2.2.1
@[irreducible] noncomputable def z6_28 := zc.1.2.2.2.2.2.2.2.2.1
@[irreducible] noncomputable def z6_34 := zc.1.2.2.2.2.2.2.2.2.2.1
@[irreducible] noncomputable def tkn := zc.1.2.2.2.2.2.2.2.2.2.2
theorem zat : zpart5.1 tk z6_1 z6_6 z6_10 z6_14 z6_19 z6_20 z6_24 z6_28 z6_34 tkn := by
  intro X X' qk ek IH hVs hR of1 of2 hk hws hz a2 b2 hvl hll z6_4 z6_13 z6_17 z6_27 z6_33 F14 N14 hn q1' q2' q3' q4'
  refine cps fun zG zk => ?_
  obtain ⟨rest', N15, d1, d2, d3, d4, d5⟩ := ap_made N14 hws hVs hz q1' q2' q3' q4' of1 of2 (by refine ⟨⟨?_, ?_, ?_, ?_, ?_⟩, ?_, ?_, ?_, ?_, ?_⟩ <;> (first | exact (And.left (And.right (And.right (And.right (And.right (And.right (And.right (And.right (And.right z6_33))))))))) | exact (And.left (And.right (And.right (And.right (And.right (And.right (And.right (And.right z6_27)))))))) | exact (And.left (And.right (And.right (And.right (And.right (And.right z6_17)))))) | exact (And.left (And.right (And.right (And.right (And.right z6_13))))) | exact (And.left (And.right (And.right z6_4))) | exact (And.left (And.right (And.right (And.right (And.right (And.right (And.right (And.right (And.right (And.right z6_33)))))))))) | exact (And.left (And.right (And.right (And.right (And.right (And.right (And.right (And.right (And.right z6_27))))))))) | exact (And.left (And.right (And.right (And.right (And.right (And.right (And.right z6_17))))))) | exact (And.left (And.right (And.right (And.right (And.right (And.right z6_13)))))) | exact (And.left (And.right (And.right (And.right z6_4)))) | omega))
  refine zk ?_
  clear zk zG
  have hvn2 := hn.vn
  have hvn3 : (V ++ [(p1, q1)]).length ≤ rs.length * rs.length := hvn2
  exact IH _ _ (by simp only [List.length_cons, List.length_append, List.length_nil] at hk hvn3 ⊢; omega) ⟨_, _, _, _, _, _, rest', _, _, _, rfl, rfl, fr_name3 F14 rfl rfl rfl, N15, d1, d2, fun e he => d3 e (hR e he), d4, d5, hn⟩
theorem zall : ∀ tk z6_1 z6_6 z6_10 z6_14 z6_19 z6_20 z6_24 z6_28 z6_34 tkn, zpart5.1 tk z6_1 z6_6 z6_10 z6_14 z6_19 z6_20 z6_24 z6_28 z6_34 tkn := fun tk z6_1 z6_6 z6_10 z6_14 z6_19 z6_20 z6_24 z6_28 z6_34 tkn => @epsH _ _ zc (by with_unfolding_all exact zat) (tk, z6_1, z6_6, z6_10, z6_14, z6_19, z6_20, z6_24, z6_28, z6_34, tkn)
end z6
theorem zat : zpart3.1.2 z5_1 z5_9 tk z5_11 z5_12 := zpart5.2 ⟨z6.zall⟩
theorem zall : ∀ z5_1 z5_9 tk z5_11 z5_12, zpart3.1.2 z5_1 z5_9 tk z5_11 z5_12 := fun z5_1 z5_9 tk z5_11 z5_12 => @epsH _ _ zc (by with_unfolding_all exact zat) (z5_1, z5_9, tk, z5_11, z5_12)
end z5
theorem zat : zpart1.1.2 k V vs kw km rest h6 tk6 m6 WQ p1 q1 u1 ws T1 al1 t1 t2 n1 n2 zs ra rb := zpart3.2 ⟨z4.zall⟩ ⟨z5.zall⟩
theorem zall : ∀ k V vs kw km rest h6 tk6 m6 WQ p1 q1 u1 ws T1 al1 t1 t2 n1 n2 zs ra rb, zpart1.1.2 k V vs kw km rest h6 tk6 m6 WQ p1 q1 u1 ws T1 al1 t1 t2 n1 n2 zs ra rb := fun k V vs kw km rest h6 tk6 m6 WQ p1 q1 u1 ws T1 al1 t1 t2 n1 n2 zs ra rb => @epsH _ _ zc (by with_unfolding_all exact zat) (k, V, vs, kw, km, rest, h6, tk6, m6, WQ, p1, q1, u1, ws, T1, al1, t1, t2, n1, n2, zs, ra, rb)
end z3
theorem zat : zpart0.1 g' L' al t0 wl ml tw h3 tkn := zpart1.2 ⟨z2.zall⟩ ⟨z3.zall⟩
theorem zall : ∀ g' L' al t0 wl ml tw h3 tkn, zpart0.1 g' L' al t0 wl ml tw h3 tkn := fun g' L' al t0 wl ml tw h3 tkn => @epsH _ _ zc (by with_unfolding_all exact zat) (g', L', al, t0, wl, ml, tw, h3, tkn)
end z1
theorem zat : zP w p loose mean mg mb c own rs rl nr a b ta tb A₀ base h₀ m s Q E := zpart0.2 ⟨z1.zall⟩
theorem zall : ∀ w p loose mean mg mb c own rs rl nr a b ta tb A₀ base h₀ m s Q E, zP w p loose mean mg mb c own rs rl nr a b ta tb A₀ base h₀ m s Q E := fun w p loose mean mg mb c own rs rl nr a b ta tb A₀ base h₀ m s Q E => @epsH _ _ zc (by with_unfolding_all exact zat) (w, p, loose, mean, mg, mb, c, own, rs, rl, nr, a, b, ta, tb, A₀, base, h₀, m, s, Q, E)
end apC
theorem apC (w : World) {p : Program} {loose : List Str} {mean : ExcName → Option Value} {mg mb : Str → Option Value} (c : CX) (own : List (Addr × Obj)) (rs : List RRec) (rl : Addr) (nr a b : Nat) (ta tb : Tok)
    (A₀ : Around) (base h₀ : Heap) (m : Str → Option Value) (s : Shared) (Q E : Value → Shared → Prop)
    (B : Below A₀ base c.outer h₀) (F : Fr h₀ c.L s.heap m) (X : (kdef.heap_1 w.params).In h₀) (T : Top p loose mean mg mb h₀)
    (N : News h₀ c.L s.heap ((rl, W.listOf (rs.map fun r => .ref r.ad).toArray nr) :: own)) (R : ∀ r ∈ rs, RIn rs.length own r) (hlen : rs.length ≤ 5) (ha : a < rs.length) (hb : b < rs.length)
    (hok0 : ∀ h' tk' (V : List (Nat × Nat)) (own' : List (Addr × Obj)), Fr h₀ c.L h' m → News h₀ c.L h' own' → (∀ e ∈ (rl, W.listOf (rs.map fun r => .ref r.ad).toArray nr) :: own, e ∈ own') → (machR rs).BInv a b [] V → Q .none { s with heap := h', toks := tk' })
    (hok1 : ∀ h' tk' (D : Addr) (zs : List (Int × Tok)) (nn : Nat) (own' : List (Addr × Obj)), Fr h₀ c.L h' m → News h₀ c.L h' ((D, W.listOf (zs.map intV).toArray nn) :: own') → (∀ e ∈ (rl, W.listOf (rs.map fun r => .ref r.ad).toArray nr) :: own, e ∈ own') → zs.length ≤ 25 →
      (machR rs).Apart a b (zs.map Prod.fst) → Q (.ref D) { s with heap := h', toks := tk' }) : wpAny (model PG w) (c.T 480 3800) (call (.ref 437) [.ref rl, .int a ta, .int b tb]) Q E s := apC.zall w p loose mean mg mb c own rs rl nr a b ta tb A₀ base h₀ m s Q E B F X T N R hlen ha hb hok0 hok1
end
section
open PySem PySem.W PyProof.Rows PySem.Calls PySem.Spec
set_option Elab.async false
set_option maxRecDepth 100000
set_option maxHeartbeats 1000000
noncomputable def isSeq (o : Obj) : Bool := match o.data with | .seq _ _ => true | _ => false
theorem cell_ns {o : Obj} {v : Option Value} (h : o.data = .cell v) : isSeq o = false := by unfold isSeq; rw [h]
/-- what changes ahead, the rest without it -/
theorem resplitS {g h : Heap} {L : Addr} {all : List (Addr × Obj)} (cs : List (Addr × Obj)) (N : News g L h all) (hc : ∀ c ∈ cs, c ∈ all) (hd : ∀ c ∈ cs, isSeq c.2 = false) :
    ∃ R, News g L h (cs ++ R) ∧ (∀ e ∈ all, isSeq e.2 = true → e ∈ R) ∧ ∀ c ∈ cs, ∀ e ∈ R, @Ne Nat e.1 c.1 := by
  have same : ∀ e ∈ all, ∀ c ∈ all, e.1 = c.1 → e.2 = c.2 := fun e he c hc e1 => by
    have x1 := (N _ he).1
    rw [e1, (N _ hc).1] at x1
    exact (Option.some.inj x1).symm
  refine ⟨all.filter (fun e => cs.all (fun c => e.1 != c.1)), fun e he => ?_, fun e he hn => ?_, fun c hcs e he e1 => ?_⟩
  · rcases List.mem_append.mp he with he | he
    · exact N _ (hc e he)
    · exact N _ (List.mem_filter.mp he).1
  · refine List.mem_filter.mpr ⟨he, List.all_eq_true.mpr fun c hcs => ?_⟩
    simp only [bne_iff_ne, ne_eq]
    intro e1
    have := same e he c (hc c hcs) e1
    rw [this, hd c hcs] at hn
    cases hn
  · have := List.all_eq_true.mp (List.mem_filter.mp he).2 c hcs
    simp only [bne_iff_ne, ne_eq] at this
    exact this e1
mutual
theorem datIn_seq {news news' : List (Addr × Obj)} (hs : ∀ p ∈ news, isSeq p.2 = true → p ∈ news') : ∀ {v : Value} {d : Dat}, DatIn news v d → DatIn news' v d
  | _, _, .none => .none
  | _, _, .bool b => .bool b
  | _, _, .int i t => .int i t
  | _, _, .str x t => .str x t
  | _, _, .bytes b t => .bytes b t
  | _, _, .tuple h r => .tuple (hs _ h rfl) (datAll_seq hs r)
  | _, _, .list h r => .list (hs _ h rfl) (datAll_seq hs r)
theorem datAll_seq {news news' : List (Addr × Obj)} (hs : ∀ p ∈ news, isSeq p.2 = true → p ∈ news') : ∀ {vs : List Value} {ds : List Dat}, DatAll news vs ds → DatAll news' vs ds
  | _, _, .nil => .nil
  | _, _, .cons h r => .cons (datIn_seq hs h) (datAll_seq hs r)
end
end
section
open PySem PySem.W PyProof.Rows PySem.Calls PySem.Spec
set_option Elab.async false
set_option maxRecDepth 100000
set_option maxHeartbeats 1000000
/-- the six cells of the law's frame and the table of its nested code: what is stored to -/
noncomputable def fix7 (L0 : Nat) (o1 o2 o3 o4 o5 o6 tab : Obj) : List (Addr × Obj) := [(L0 + 1 + 1 + 1 + 1 + 1 + 1, o1), (L0 + 1 + 1 + 1 + 1 + 1, o2), (L0 + 1 + 1 + 1 + 1, o3), (L0 + 1 + 1 + 1, o4), (L0 + 1 + 1, o5), (L0 + 1, o6), (422, tab)]
theorem split7 {g h : Heap} {L L0 : Nat} {all : List (Addr × Obj)} {o1 o2 o3 o4 o5 o6 tab : Obj} {v1 v2 v3 v4 v5 v6 : Option Value} (N : News g L h all) (hc : ∀ c ∈ fix7 L0 o1 o2 o3 o4 o5 o6 tab, c ∈ all)
    (e1 : o1.data = .cell v1) (e2 : o2.data = .cell v2) (e3 : o3.data = .cell v3) (e4 : o4.data = .cell v4) (e5 : o5.data = .cell v5) (e6 : o6.data = .cell v6) (e7 : isSeq tab = false) :
    ∃ R, News g L h ((L0 + 1 + 1 + 1 + 1 + 1 + 1, o1) :: (L0 + 1 + 1 + 1 + 1 + 1, o2) :: (L0 + 1 + 1 + 1 + 1, o3) :: (L0 + 1 + 1 + 1, o4) :: (L0 + 1 + 1, o5) :: (L0 + 1, o6) :: (422, tab) :: R) ∧ (∀ e ∈ all, isSeq e.2 = true → e ∈ R) ∧
      (∀ e ∈ R, @Ne Nat e.1 (L0 + 1 + 1 + 1 + 1 + 1 + 1)) ∧ (∀ e ∈ R, @Ne Nat e.1 (L0 + 1 + 1 + 1 + 1 + 1)) ∧ (∀ e ∈ R, @Ne Nat e.1 (L0 + 1 + 1 + 1 + 1)) ∧ (∀ e ∈ R, @Ne Nat e.1 (L0 + 1 + 1 + 1)) ∧ (∀ e ∈ R, @Ne Nat e.1 (L0 + 1 + 1)) ∧ (∀ e ∈ R, @Ne Nat e.1 (L0 + 1)) ∧ ∀ e ∈ R, @Ne Nat e.1 422 := by
  obtain ⟨R, h1, h2, h3⟩ := resplitS (fix7 L0 o1 o2 o3 o4 o5 o6 tab) N hc (by
    intro c hc
    unfold fix7 at hc
    simp only [List.mem_cons, List.not_mem_nil, or_false] at hc
    rcases hc with rfl | rfl | rfl | rfl | rfl | rfl | rfl
    · exact cell_ns e1
    · exact cell_ns e2
    · exact cell_ns e3
    · exact cell_ns e4
    · exact cell_ns e5
    · exact cell_ns e6
    · exact e7)
  exact ⟨R, h1, h2, h3 _ (.head _), h3 _ (.tail _ (.head _)), h3 _ (.tail _ (.tail _ (.head _))), h3 _ (.tail _ (.tail _ (.tail _ (.head _)))), h3 _ (.tail _ (.tail _ (.tail _ (.tail _ (.head _))))), h3 _ (.tail _ (.tail _ (.tail _ (.tail _ (.tail _ (.head _)))))), h3 _ (.tail _ (.tail _ (.tail _ (.tail _ (.tail _ (.tail _ (.head _))))))) ⟩
theorem fix7_mem {L0 : Nat} {o1 o2 o3 o4 o5 o6 tab : Obj} {led R : List (Addr × Obj)} (h : ∀ e ∈ (L0 + 1 + 1 + 1 + 1 + 1 + 1, o1) :: (L0 + 1 + 1 + 1 + 1 + 1, o2) :: (L0 + 1 + 1 + 1 + 1, o3) :: (L0 + 1 + 1 + 1, o4) :: (L0 + 1 + 1, o5) :: (L0 + 1, o6) :: (422, tab) :: R, e ∈ led) : ∀ c ∈ fix7 L0 o1 o2 o3 o4 o5 o6 tab, c ∈ led := by
  intro c hc
  refine h c ?_
  unfold fix7 at hc
  simp only [List.mem_cons, List.not_mem_nil, or_false] at hc ⊢
  rcases hc with rfl | rfl | rfl | rfl | rfl | rfl | rfl <;> simp
theorem RIn.mono {n : Nat} {own own' : List (Addr × Obj)} {r : RRec} (h : RIn n own r) (k : ∀ e ∈ own, e ∈ own') : RIn n own' r := ⟨k _ h.m, h.hl, h.ha, h.hb⟩
theorem RIn.seq {n : Nat} {own own' : List (Addr × Obj)} {r : RRec} (h : RIn n own r) (k : ∀ e ∈ own, isSeq e.2 = true → e ∈ own') : RIn n own' r := ⟨k _ h.m rfl, h.hl, h.ha, h.hb⟩
end
section
open PySem PySem.W PyProof.Rows PySem.Calls PySem.Spec
set_option Elab.async false
set_option maxRecDepth 100000
set_option maxHeartbeats 1000000
section
variable {prog : Program} {w : World} {A : Around} {s : Shared} {h₀ : Heap} {L : Addr} {m : Str → Option Value} {env : Env}
theorem compRestT_ind {ct elt : Expr} {x : Str} {scope : Scope} {cl : List (Str × Addr)} {S : List (Addr × Obj) → Prop} {P : Nat → Value → Prop} {Fin : List Value → List (Addr × Obj) → Prop} {n : Nat} (Inv : Nat → List Value → List (Addr × Obj) → Prop)
    (step : ∀ i ys news, i < n → Inv i ys news → ∀ v I oI C oC D m₂ h tk (E' : Value → Shared → Prop), P i v → LCg.NsObj oC m₂ → m₂ x = some v → Fr h₀ L h m → News h₀ L h ((I, oI) :: (C, oC) :: (D, LCg.lst ys) :: news) → LCg.Off3 I C D news → ((@Ne Nat I C) ∧ (@Ne Nat I D) ∧ (@Ne Nat C D)) →
      wpAny (model prog w) A (isTrue ct (compEnvC scope cl C env) (eval ct (compEnvC scope cl C env))) (fun ok s' => if ok = true then
        wpAny (model prog w) A (eval elt (compEnvC scope cl C env)) (LCg.CompEnd h₀ L m { s with heap := h, toks := tk } I oI C oC D (LCg.lst ys) S (fun y news' => Inv (i + 1) (ys ++ [y]) news')) E' s'
        else LCg.CompEnd h₀ L m { s with heap := h, toks := tk } I oI C oC D (LCg.lst ys) S (fun _ news' => Inv (i + 1) ys news') Value.none s') E' { s with heap := h, toks := tk })
    (fin : ∀ ys news, Inv n ys news → Fin ys news) : ∀ k i ys news, i + k = n → Inv i ys news → LCt.CompRestT prog w A h₀ L m env ct elt x scope cl s S P Fin k i ys news
  | 0, i, ys, news, e, hi => LCt.CompRestT.zero (fin ys news (by rw [← e]; exact hi))
  | k + 1, i, ys, news, e, hi => LCt.CompRestT.succ fun v I oI C oC D m₂ h tk E' a b c d f g j =>
      wpAny_mono (step i ys news (by exact (qg1 e)) hi v I oI C oC D m₂ h tk E' a b c d f g j) (fun ok s' hy => by
        by_cases ho : ok = true
        · rw [if_pos ho] at hy ⊢
          exact wpAny_mono hy (fun y s'' hy' => CompEnd.mono hy' fun y n hn => compRestT_ind Inv step fin k (i + 1) _ _ (by exact (qg2 e)) hn) fun _ _ z => z
        · rw [if_neg ho] at hy ⊢
          exact CompEnd.mono hy fun y n hn => compRestT_ind Inv step fin k (i + 1) _ _ (by exact (qg2 e)) hn) fun _ _ z => z
end
end
section
open PySem PySem.W PyProof.Rows PySem.Calls PySem.Spec
set_option Elab.async false
set_option maxRecDepth 100000
set_option maxHeartbeats 1000000
theorem heard (w : World) {p : Program} {loose : List Str} {mean : ExcName → Option Value} {mg mb : Str → Option Value} (c : CX) (R : List (Addr × Obj)) (rs : List RRec) (ans : List (Int × Tok)) (rl al : Addr) (nr na b : Nat) (tb : Tok)
    (A₀ : Around) (base h₀ : Heap) (m : Str → Option Value) (s : Shared) (Q E : Value → Shared → Prop)
    (B : Below A₀ base c.outer h₀) (F : Fr h₀ c.L s.heap m) (X : (kdef.heap_1 w.params).In h₀) (T : Top p loose mean mg mb h₀)
    (pt : Array Value) (C : CodeHd h₀ 424 422) (TS : TabS R 422 331 4 rq pt) (n4 : ∀ e ∈ R, e.1 ≠ 422)
    (N : News h₀ c.L s.heap ((422, tabObj pt) :: R)) (mr : (rl, W.listOf (rs.map fun r => .ref r.ad).toArray nr) ∈ R) (ma : (al, W.listOf (ans.map intV).toArray na) ∈ R) (RI : ∀ r ∈ rs, RIn rs.length R r) (hlen : rs.length ≤ 5) (hal : ans.length ≤ 100) (hb0 : b < rs.length)
    (hco : c.outer = []) (XB : (kdef.heap_1 w.params).In base) (TB : Top p loose mean mg mb base)
    (hok : ∀ h' tk' T9 ak nl (asked' : List (Str × Tok)) (notes' : List (Int × Tok)) n1 n2 n3 pt' R', Fr h₀ c.L h' m → News h₀ c.L h' ((422, tabObj pt') :: R') → (∀ e ∈ R', e.1 ≠ 422) → (∀ e ∈ R, e ∈ R') →
      (T9, ({ cls := .type "tuple", data := .seq #[.ref ak, .ref nl] n3 } : Obj)) ∈ R' → (ak, W.listOf (asked'.map strV).toArray n1) ∈ R' → (nl, W.listOf (notes'.map intV).toArray n2) ∈ R' → TabS R' 422 331 4 rq pt' →
      asked'.map Prod.fst = (pathR rs b (ans.map Prod.fst)).map (letR rs) → notes'.map Prod.fst = (pathR rs b (ans.map Prod.fst)).map Int.ofNat → Q (.ref T9) { s with heap := h', toks := tk' }) :
    wpAny (model PG w) (c.T 480 3800) (call (.ref 425) [.ref rl, .int b tb, .ref al]) Q E s :=
  hdC w c R rs ans rl al nr na b tb A₀ base h₀ m s Q E B F X T pt C TS n4 (n4 _ mr) (n4 _ ma) (news_sub N (fun e he => by
    rcases List.mem_cons.mp he with rfl | he
    · exact .head _
    rcases List.mem_cons.mp he with rfl | he
    · exact .tail _ mr
    rcases List.mem_cons.mp he with rfl | he
    · exact .tail _ ma
    exact .tail _ he)) RI hlen hal hb0 hco XB TB
    fun h' tk' T9 ak nl asked' notes' n1 n2 n3 pt' own' a1 a2 a3 a4 _ _ a7 a8 a9 a10 a11 a12 => hok h' tk' T9 ak nl asked' notes' n1 n2 n3 pt' own' a1 a2 a3 a4 a7 a8 a9 a10 a11 a12
end
section
open PySem PySem.W PyProof.Rows PySem.Calls PySem.Spec
set_option Elab.async false
set_option maxRecDepth 100000
set_option maxHeartbeats 1000000
theorem nxR_step (rs : List RRec) (i : Nat) (b : Int) : nxR rs i b = (machR rs).step i b := by
  unfold nxR Mach.step machR
  dsimp only
  cases h : rs[i]? with
  | none => simp
  | some r => simp
theorem pathR_path (rs : List RRec) : ∀ (w : List Int) (i : Nat), pathR rs i w = (machR rs).path i w
  | [], i => rfl
  | b :: w, i => by
    unfold pathR Mach.path
    rw [nxR_step, pathR_path rs w]
theorem path_lt {M : Mach} (hok : M.Ok) : ∀ (w : List Int) (i : Nat), i < M.n → ∀ x ∈ M.path i w, x < M.n
  | [], i, hi, x, hx => by rw [List.mem_singleton.mp hx]; exact hi
  | b :: w, i, hi, x, hx => by
    rcases List.mem_cons.mp hx with rfl | hx
    · exact hi
    · exact path_lt hok w _ (Mach.step_lt hok hi b) x hx
/-- the letter as the program asks it -/
noncomputable def letZ (l : Int) : Str := Str.ofString "call" ++ let' l
theorem letR_lt {rs : List RRec} {i : Nat} (hi : i < rs.length) : letR rs i = letZ ((machR rs).lt i) := by
  unfold letR machR letZ
  dsimp only
  rw [List.getElem?_eq_getElem hi]
  rfl
theorem letters {rs : List RRec} {own : List (Addr × Obj)} (R : ∀ r ∈ rs, RIn rs.length own r) {b : Nat} (hb : b < rs.length) (w : List Int) : (pathR rs b w).map (letR rs) = ((machR rs).path b w |>.map (machR rs).lt).map letZ := by
  rw [pathR_path, List.map_map]
  exact List.map_congr_left fun x hx => letR_lt (path_lt (machR_ok R) w b hb x hx)
theorem lt_01 {rs : List RRec} {own : List (Addr × Obj)} (R : ∀ r ∈ rs, RIn rs.length own r) {i : Nat} (hi : i < rs.length) : (machR rs).lt i = 0 ∨ (machR rs).lt i = 1 := by
  have : (machR rs).lt i = rs[i].l := by show (rs[i]?.map (·.l)).getD 0 = _; rw [List.getElem?_eq_getElem hi]; rfl
  rw [this]
  exact (R _ (List.getElem_mem hi)).hl
theorem letZ_inj {a b : Int} (ha : a = 0 ∨ a = 1) (hb : b = 0 ∨ b = 1) (h : letZ a = letZ b) : a = b := by
  have h01 : letZ 0 ≠ letZ 1 := by decide +kernel
  rcases ha with rfl | rfl <;> rcases hb with rfl | rfl
  · rfl
  · exact absurd h h01
  · exact absurd h.symm h01
  · rfl
theorem letZ_ok {a : Int} (ha : a = 0 ∨ a = 1) : PyData.strOk (letZ a) = true := by rcases ha with rfl | rfl <;> decide +kernel
theorem strs_dat {news : List (Addr × Obj)} : ∀ (zs : List (Str × Tok)), DatAll news (zs.map strV) ((zs.map Prod.fst).map .str)
  | [] => .nil
  | (i, t) :: zs => .cons (.str i t) (strs_dat zs)
section
variable {prog : Program} {w : World} {A : Around} {E : Value → Shared → Prop} {s : Shared} {h₀ : Heap} {L : Addr} {news : List (Addr × Obj)} {Q : Value → Shared → Prop}
/-- two pairs of a list of strs and a list of ints that are alike -/
theorem ne_same_pair {T1 T2 a1 a2 b1 b2 : Addr} {n1 n2 ka1 ka2 kb1 kb2 : Nat} {as1 as2 : List (Str × Tok)} {bs1 bs2 : List (Int × Tok)} (N : News h₀ L s.heap news)
    (m1 : (T1, ({ cls := .type "tuple", data := .seq #[.ref a1, .ref b1] n1 } : Obj)) ∈ news) (ma1 : (a1, W.listOf (as1.map strV).toArray ka1) ∈ news) (mb1 : (b1, W.listOf (bs1.map intV).toArray kb1) ∈ news)
    (m2 : (T2, ({ cls := .type "tuple", data := .seq #[.ref a2, .ref b2] n2 } : Obj)) ∈ news) (ma2 : (a2, W.listOf (as2.map strV).toArray ka2) ∈ news) (mb2 : (b2, W.listOf (bs2.map intV).toArray kb2) ∈ news)
    (ha : as1.map Prod.fst = as2.map Prod.fst) (hb : bs1.map Prod.fst = bs2.map Prod.fst) (hs : ∀ x ∈ as2.map Prod.fst, PyData.strOk x = true) (hu : A.units + 64 < cLine) (h : Q (.bool false) s) : wpAny (model prog w) A (compareOp .NotEq (.ref T1) (.ref T2)) Q E s := by
  have d1 : DatIn news (.ref T1) (.tuple [.list ((as1.map Prod.fst).map .str), .list ((bs1.map Prod.fst).map .int)]) := .tuple (vs := [.ref a1, .ref b1]) m1 (.cons (.list ma1 (strs_dat as1)) (.cons (.list mb1 (ints_dat bs1)) .nil))
  have d2 : DatIn news (.ref T2) (.tuple [.list ((as2.map Prod.fst).map .str), .list ((bs2.map Prod.fst).map .int)]) := .tuple (vs := [.ref a2, .ref b2]) m2 (.cons (.list ma2 (strs_dat as2)) (.cons (.list mb2 (ints_dat bs2)) .nil))
  rw [ha, hb] at d1
  have ok : kqdOk 8 (.tuple [.list ((as2.map Prod.fst).map .str), .list ((bs2.map Prod.fst).map .int)]) = true := by
    simp only [kqdOk, List.all_cons, List.all_nil, Bool.and_true, Bool.and_eq_true]
    refine ⟨List.all_eq_true.mpr fun d hd => ?_, List.all_eq_true.mpr fun d hd => ?_⟩
    · obtain ⟨x, hx, rfl⟩ := List.mem_map.mp hd
      exact hs x hx
    · obtain ⟨x, -, rfl⟩ := List.mem_map.mp hd
      rfl
  obtain ⟨as, ra⟩ := kqd_in N 8 d1 ok
  obtain ⟨bs, rb⟩ := kqd_in N 8 d2 ok
  have la := kqd_lay 8 _ ok
  refine ne_dataH ra rb ?_ ?_ hu (by rw [(kqd_eqv 8 _ _ 8 ok ok).mpr rfl]; exact h)
  · unfold SeqAt.shaped; rw [la.1, Bool.true_and]; exact decide_eq_true (Nat.le_trans la.2 (by decide))
  · unfold SeqAt.shaped; rw [la.1, Bool.true_and]; exact decide_eq_true (Nat.le_trans la.2 (by decide))
/-- two lists of strs that are alike -/
theorem eq_same_strs {a1 a2 : Addr} {ka1 ka2 : Nat} {as1 as2 : List (Str × Tok)} (N : News h₀ L s.heap news) (ma1 : (a1, W.listOf (as1.map strV).toArray ka1) ∈ news) (ma2 : (a2, W.listOf (as2.map strV).toArray ka2) ∈ news)
    (ha : as1.map Prod.fst = as2.map Prod.fst) (hs : ∀ x ∈ as2.map Prod.fst, PyData.strOk x = true) (hu : A.units + 64 < cLine) (h : Q (.bool true) s) : wpAny (model prog w) A (compareOp .Eq (.ref a1) (.ref a2)) Q E s := by
  have ok : ∀ d ∈ (as2.map Prod.fst).map Dat.str, kqdOk 8 d = true := fun d hd => by
    obtain ⟨x, hx, rfl⟩ := List.mem_map.mp hd
    exact hs x hx
  refine kqd_eq N ma1 rfl rfl (strs_dat as1) (fun _ h => h) ma2 rfl rfl (strs_dat as2) (fun _ h => h) (by rw [ha]; exact ok) ok hu ?_
  simpa [ha] using h
end
end
section
open PySem PySem.W PyProof.Rows PySem.Calls PySem.Spec
set_option Elab.async false
set_option maxRecDepth 100000
set_option maxHeartbeats 1000000
/-- all but the last -/
theorem pick_front (vs : List Value) (v : Value) : slicePick (vs ++ [v]).toArray none (some (-1)) none = vs.toArray := by
  have e : sliceBounds none (some (-1)) none (vs ++ [v]).toArray.size = (((0 : Nat) : Int), ((vs.length : Nat) : Int), 1) := by
    simp only [sliceBounds, Option.getD_none, show (1 : Int) > 0 by decide, if_true, if_pos (show (-1 : Int) < 0 by decide), List.size_toArray, List.length_append, List.length_singleton]
    congr 1
    congr 1
    omega
  rw [kmk_pick_nat _ e]
  show (((vs ++ [v]).drop 0).take (vs.length - 0)).toArray = _
  rw [List.drop_zero, Nat.sub_zero, List.take_left']
  rfl
section
variable {prog : Program} {w : World} {A : Around} {E : Value → Shared → Prop} {s : Shared} {h₀ : Heap} {L l : Addr} {m : Str → Option Value} {news : List (Addr × Obj)} {Q : Value → Shared → Prop} {value slice : PySem.Expr}
theorem slice_front {xs : List (Str × Tok)} {x : Str × Tok} {k : Nat} {u : Tok} (F : Fr h₀ L s.heap m) (N : News h₀ L s.heap news) (hm : (l, W.listOf ((xs ++ [x]).map strV).toArray k) ∈ news) (hsz : xs.length ≤ 100)
    (h : ∀ D h', Fr h₀ L h' m → News h₀ L h' ((D, W.listOf (xs.map strV).toArray 0) :: news) → (∀ p ∈ news, p.1 < D) → Q (.ref D) { s with heap := h' })
    (hs : subscripted slice false (.ref l) (.ref s.heap.objs.size) = operate [.ref s.heap.objs.size, .ref l] (getItem (.ref l) (.ref s.heap.objs.size))) (ht : ∀ r, letTemporaryGo value (.ref l) r = pure ()) :
    wpAny (model prog w) A (subscriptTail value slice (.ref l) (.ref s.heap.objs.size)) Q E { s with heap := s.heap.push { cls := .type "slice", data := .fields #[.none, .int (-1) u, .none] } } := by
  refine kmk_slice (lo := none) (hi := some (-1)) F N (News.isList N hm) IsPart.none (IsPart.int _ _) (fun D h' F' N' l1 => h D h' F' ?_ l1) hs ht (by rw [List.size_toArray, List.length_map, List.length_append, List.length_singleton, PySem.sizeLine_eq]; exact (qp1 (Nat.le_trans hsz (by decide))))
  have e : (xs ++ [x]).map strV = xs.map strV ++ [strV x] := by rw [List.map_append]; rfl
  rw [e, pick_front] at N'
  exact N'
theorem item_back {xs : List (Str × Tok)} {x : Str × Tok} {k : Nat} {u : Tok} (N : News h₀ L s.heap news) (hm : (l, W.listOf ((xs ++ [x]).map strV).toArray k) ∈ news) (hsz : xs.length ≤ 100) (h : Q (strV x) s)
    (hs : subscripted slice false (.ref l) (.int (-1) u) = operate [.ref l, .int (-1) u] (getItem (.ref l) (.int (-1) u)) := by with_unfolding_all rfl) :
    wpAny (model prog w) A (subscriptTail value slice (.ref l) (.int (-1) u)) Q E s :=
  tail_any (News.isList N hm).typeIs slot_list_getitem.lookup (wpAny_getItem_list_neg (k := -1) (News.isList N hm) (by decide) (by simp only [List.size_toArray, List.length_map, List.length_append, List.length_singleton]; omega) (by decide) (by
    have e : ((-1 : Int) + (((xs ++ [x]).map strV).toArray.size : Int)).toNat = (xs.map strV).length := by simp only [List.size_toArray, List.length_map, List.length_append, List.length_singleton]; omega
    rw [e, List.getElem?_toArray, List.map_append, List.getElem?_append_right (Nat.le_refl _), Nat.sub_self]
    rfl) h) hs
end
end
end
section
open PySem PySem.W PyProof.Rows
set_option maxHeartbeats 8000000
noncomputable def myq : Program := view PySem.Challenge.pw_xm0939_01 [1, 2, 3, 5, 6, 7, 8, 9, 10, 11, 12, 13, 14, 15, 16, 18, 19, 20, 21, 22, 23, 24, 25, 26, 27, 28, 30, 32, 33, 34, 35]
end
section
open PySem PySem.W PyProof.Rows PySem.Calls PySem.Spec
local macro_rules | `(tactic| size_fits) => `(tactic| (simp only [PySem.sizeLine_eq, List.size_toArray, List.length_cons, List.length_nil]; decide))
local macro_rules | `(tactic| size_fits) => `(tactic| (simp only [PySem.sizeLine_eq, List.size_toArray, List.length_map]; omega))
local macro_rules | `(tactic| k_in) => `(tactic| (refine' Frag.In.keeps ?kX (Fr.keep ?kF); (case kF => with_reducible assumption); (case kX => with_reducible assumption)))
local macro_rules | `(tactic| k_mem) => `(tactic| with_reducible_and_instances assumption)
local macro_rules | `(tactic| k_all) => `(tactic| first | with_reducible assumption | (refine tlL ?_; with_reducible assumption))
local macro_rules | `(tactic| k_lt $h) => `(tactic| ((have hTl := $h); (repeat (replace hTl := tlS hTl)); (replace hTl := ltsOf hTl); replace $h := allLt_of $h; (try simp only [AllLt, and_true] at $h:ident)))
example : True := by w_top off; (try walk1); trivial
section
open PySem PySem.W PyProof.Rows PySem.Calls PySem.Spec
set_option Elab.async false
set_option maxRecDepth 100000
set_option maxHeartbeats 1000000

theorem are_zs {vs : List Value} {ns : List Int} (h : IntsAre vs ns) : ∃ zs : List (Int × Tok), vs = zs.map intV ∧ zs.map Prod.fst = ns := by
  induction h with
  | nil => exact ⟨[], rfl, rfl⟩
  | cons n t _ ih =>
    refine cps fun zG zk => ?_
    obtain ⟨zs, rfl, rfl⟩ := ih
    refine zk ?_
    clear zk zG
    exact ⟨(n, t) :: zs, rfl, rfl⟩
theorem are_get {vs : List Value} {ns : List Int} (h : IntsAre vs ns) {i : Nat} {v : Value} (hv : vs[i]? = some v) : ∃ t, v = .int (ns.getD i 0) t := by
  refine cps fun zG zk => ?_
  obtain ⟨zs, rfl, rfl⟩ := are_zs h
  refine zk ?_
  clear zk zG
  rw [List.getElem?_map] at hv
  cases hz : zs[i]? with
  | none => rw [hz] at hv; cases hv
  | some z =>
    rw [hz] at hv
    cases hv
    refine ⟨z.2, ?_⟩
    have : (zs.map Prod.fst)[i]? = some z.1 := by rw [List.getElem?_map, hz]; rfl
    rw [List.getD_eq_getElem?_getD, this]; rfl
theorem cells8 {ns A : List Int} {cs : List Value} {k : Nat} (hA : A = (List.range k).map fun i => (((ns.take 8).getD i 0).natAbs : Int)) (hk : k = (ns.take 8).length) (hI : IntsAre cs (A ++ List.drop (((ns.take 8).length : Int)).toNat [3, 27, 75, 22, 31, 39, 32, 14])) :
    ∃ z : List (Int × Tok), cs = z.map intV ∧ z.length = 8 ∧ ∀ q ∈ z, 0 ≤ q.1 := by
  refine cps fun zG zk => ?_
  obtain ⟨z, rfl, hz⟩ := are_zs hI
  refine zk ?_
  clear zk zG
  refine ⟨z, rfl, ?_, fun q hq => ?_⟩
  · have := congrArg List.length hz
    simp only [List.length_map, List.length_append, List.length_drop, List.length_cons, List.length_nil, hA, List.length_range, hk, List.length_take] at this
    (first | exact (qna hi) | omega)
  · have hm : q.1 ∈ z.map Prod.fst := List.mem_map.mpr ⟨q, hq, rfl⟩
    rw [hz, List.mem_append] at hm
    rcases hm with hm | hm
    · rw [hA] at hm
      refine cps fun zG zk => ?_
      obtain ⟨i, -, hi⟩ := List.mem_map.mp hm
      refine zk ?_
      clear zk zG
      (first | exact (qna hi) | omega)
    · have := List.mem_of_mem_drop hm
      simp only [List.mem_cons, List.not_mem_nil, or_false] at this
      (first | exact (qna hi) | omega)
namespace law
noncomputable def zpart0 : { R : ((World) → (Shared) → (Shared) → (Str → Option Value) → (Str → Option Value) → (Addr) → (Value) → (Value) → (Value) → (List Int) → (Addr) → (List Value) → (Heap) → (Nat) → (Obj) → (Obj) → (Obj) → (Obj) → (Obj) → (Obj) → (Option Value) → (Option Value) → (Option Value) → (Option Value) → (Option Value) → (Option Value) → (Heap) → (Nat) → Prop) // Hide (∀ w s₀ s₁ mg mb fa pm cd doc ns sl vs h1 tk1 o1 o2 o3 o4 o5 o6 v1 v2 v3 v4 v5 v6 g0 L0, R w s₀ s₁ mg mb fa pm cd doc ns sl vs h1 tk1 o1 o2 o3 o4 o5 o6 v1 v2 v3 v4 v5 v6 g0 L0) → (∀ (d : DefRec) (kwd : List (Str × PySem.Expr)) (e : defOf myq (Str.ofString "law") = some (d, kwd)), WalkO myq [Str.ofString "SnobolError"] (XL myq []) (kmHook kdef.heap_1 as0 as0_is [422]).says PySem.Challenge.rw_xm0939_01.row.toRowW d kwd (fun f vs => PySem.call f vs)) } := by
  refine' ⟨_, fun hP1 => ?main⟩
  case main =>
    intro d kwd e
    cases (show some _ = some (d, kwd) from e)
    ((try clear e))
    k_fill
    intro w s₀ s₁ mg mb G Y0 fa o pm cd doc dV kV ho hd' hcd hD hmg hg args vals as hpre hlay hrd hwl hlo
    have Y : (kmHook kdef.heap_1 as0 as0_is [422]).says w s₁.heap := Y0
    have KX := km_in_of Y
    km_tabs Y
    have X := (Ground.X G).1
    have V := (Ground.X G).2
    refine Ground.open G ?_
    intro T B D TE TW
    try (refine guard_noD D (by decide +kernel) ?_; clear D)
    km_lay T hmg ho hd' cd
    clear hmg
    wrow_args hpre hlay hrd hwl hlo
    all_goals (
      first | refine callC_kw (enter_call ?_) | refine enter_call ?_
      w_top on
      kn_posts
      w_call any ho hd' hcd hD T F
      clear hd'
      kn_ghosts F T
      k_drop
      skip)
    all_goals try k_fold
    rename_i ns hs hlay0 hL0 hr0 hl2 as1 as2 sl vs as3 hL ra w1 r0 hI hr1 hc1 hc2 h1 tk1 o1 o2 o3 o4 o5 o6 d1 d2 d3 d4 d5 d6 X0 X1 T1 K1 F1 N1 hT0 l0
    refine cps fun zG zk => ?_
    obtain ⟨v1, e1⟩ : ∃ v, o1.data = .cell v := ⟨_, d1⟩
    obtain ⟨v2, e2⟩ : ∃ v, o2.data = .cell v := ⟨_, d2⟩
    obtain ⟨v3, e3⟩ : ∃ v, o3.data = .cell v := ⟨_, d3⟩
    obtain ⟨v4, e4⟩ : ∃ v, o4.data = .cell v := ⟨_, d4⟩
    obtain ⟨v5, e5⟩ : ∃ v, o5.data = .cell v := ⟨_, d5⟩
    obtain ⟨v6, e6⟩ : ∃ v, o6.data = .cell v := ⟨_, d6⟩
    refine zk ?_
    clear zk zG
    have hcl : ns.length ≤ 63 := by omega
    ((try clear hcd); (try clear hc2); (try clear hc1); (try clear hr1); (try clear r0); (try clear w1); (try clear ra); (try clear hL); (try clear hl2); (try clear hr0); (try clear hL0); (try clear hlay0); (try clear hs); (try clear hT9); (try clear TW); (try clear TE); (try clear V); (try clear X); (try clear hT8); (try clear Y); (try clear Y0); (try clear G); (try clear hD); (try clear d6); (try clear d5); (try clear d4); (try clear d3); (try clear d2); (try clear d1); (try clear X0))
    generalize hg0 : ghostOf s₁.heap [(424, 422)] = g0 at *
    generalize hL0 : s₁.heap.objs.size = L0 at *
    revert hg hI e1 e2 e3 e4 e5 e6 hcl X1 T1 K1 lifted codeHd l0 F1 N1
    exact hP1.out w s₀ s₁ mg mb fa pm cd doc ns sl vs h1 tk1 o1 o2 o3 o4 o5 o6 v1 v2 v3 v4 v5 v6 g0 L0
end law

namespace law
namespace z1
noncomputable def zc := eps (α := (World) × (Shared) × (Shared) × (Str → Option Value) × (Str → Option Value) × (Addr) × (Value) × (Value) × (Value) × (List Int) × (Addr) × (List Value) × (Heap) × (Nat) × (Obj) × (Obj) × (Obj) × (Obj) × (Obj) × (Obj) × (Option Value) × (Option Value) × (Option Value) × (Option Value) × (Option Value) × (Option Value) × (Heap) × (Nat)) ⟨world0, {}, {}, (fun _ => default), (fun _ => default), default, default, default, default, default, default, default, {}, default, default, default, default, default, default, default, default, default, default, default, default, default, {}, default⟩ (fun c => zpart0.1 c.1 c.2.1 c.2.2.1 c.2.2.2.1 c.2.2.2.2.1 c.2.2.2.2.2.1 c.2.2.2.2.2.2.1 c.2.2.2.2.2.2.2.1 c.2.2.2.2.2.2.2.2.1 c.2.2.2.2.2.2.2.2.2.1 c.2.2.2.2.2.2.2.2.2.2.1 c.2.2.2.2.2.2.2.2.2.2.2.1 c.2.2.2.2.2.2.2.2.2.2.2.2.1 c.2.2.2.2.2.2.2.2.2.2.2.2.2.1 c.2.2.2.2.2.2.2.2.2.2.2.2.2.2.1 c.2.2.2.2.2.2.2.2.2.2.2.2.2.2.2.1 c.2.2.2.2.2.2.2.2.2.2.2.2.2.2.2.2.1 c.2.2.2.2.2.2.2.2.2.2.2.2.2.2.2.2.2.1 c.2.2.2.2.2.2.2.2.2.2.2.2.2.2.2.2.2.2.1 c.2.2.2.2.2.2.2.2.2.2.2.2.2.2.2.2.2.2.2.1 c.2.2.2.2.2.2.2.2.2.2.2.2.2.2.2.2.2.2.2.2.1 c.2.2.2.2.2.2.2.2.2.2.2.2.2.2.2.2.2.2.2.2.2.1 c.2.2.2.2.2.2.2.2.2.2.2.2.2.2.2.2.2.2.2.2.2.2.1 c.2.2.2.2.2.2.2.2.2.2.2.2.2.2.2.2.2.2.2.2.2.2.2.1 c.2.2.2.2.2.2.2.2.2.2.2.2.2.2.2.2.2.2.2.2.2.2.2.2.1 c.2.2.2.2.2.2.2.2.2.2.2.2.2.2.2.2.2.2.2.2.2.2.2.2.2.1 c.2.2.2.2.2.2.2.2.2.2.2.2.2.2.2.2.2.2.2.2.2.2.2.2.2.2.1 c.2.2.2.2.2.2.2.2.2.2.2.2.2.2.2.2.2.2.2.2.2.2.2.2.2.2.2)
@[irreducible] noncomputable def w := zc.1.1
@[irreducible] noncomputable def s₀ := zc.1.2.1
@[irreducible] noncomputable def s₁ := zc.1.2.2.1
@[irreducible] noncomputable def mg := zc.1.2.2.2.1
@[irreducible] noncomputable def mb := zc.1.2.2.2.2.1
@[irreducible] noncomputable def fa := zc.1.2.2.2.2.2.1
@[irreducible] noncomputable def pm := zc.1.2.2.2.2.2.2.1
@[irreducible] noncomputable def cd := zc.1.2.2.2.2.2.2.2.1
@[irreducible] noncomputable def doc := zc.1.2.2.2.2.2.2.2.2.1
@[irreducible] noncomputable def ns := zc.1.2.2.2.2.2.2.2.2.2.1
@[irreducible] noncomputable def sl := zc.1.2.2.2.2.2.2.2.2.2.2.1
@[irreducible] noncomputable def vs := zc.1.2.2.2.2.2.2.2.2.2.2.2.1
@[irreducible] noncomputable def h1 := zc.1.2.2.2.2.2.2.2.2.2.2.2.2.1
@[irreducible] noncomputable def tk1 := zc.1.2.2.2.2.2.2.2.2.2.2.2.2.2.1
@[irreducible] noncomputable def o1 := zc.1.2.2.2.2.2.2.2.2.2.2.2.2.2.2.1
@[irreducible] noncomputable def o2 := zc.1.2.2.2.2.2.2.2.2.2.2.2.2.2.2.2.1
@[irreducible] noncomputable def o3 := zc.1.2.2.2.2.2.2.2.2.2.2.2.2.2.2.2.2.1
@[irreducible] noncomputable def o4 := zc.1.2.2.2.2.2.2.2.2.2.2.2.2.2.2.2.2.2.1
@[irreducible] noncomputable def o5 := zc.1.2.2.2.2.2.2.2.2.2.2.2.2.2.2.2.2.2.2.1
@[irreducible] noncomputable def o6 := zc.1.2.2.2.2.2.2.2.2.2.2.2.2.2.2.2.2.2.2.2.1
@[irreducible] noncomputable def v1 := zc.1.2.2.2.2.2.2.2.2.2.2.2.2.2.2.2.2.2.2.2.2.1
@[irreducible] noncomputable def v2 := zc.1.2.2.2.2.2.2.2.2.2.2.2.2.2.2.2.2.2.2.2.2.2.1
@[irreducible] noncomputable def v3 := zc.1.2.2.2.2.2.2.2.2.2.2.2.2.2.2.2.2.2.2.2.2.2.2.1
@[irreducible] noncomputable def v4 := zc.1.2.2.2.2.2.2.2.2.2.2.2.2.2.2.2.2.2.2.2.2.2.2.2.1
@[irreducible] noncomputable def v5 := zc.1.2.2.2.2.2.2.2.2.2.2.2.2.2.2.2.2.2.2.2.2.2.2.2.2.1
@[irreducible] noncomputable def v6 := zc.1.2.2.2.2.2.2.2.2.2.2.2.2.2.2.2.2.2.2.2.2.2.2.2.2.2.1
@[irreducible] noncomputable def g0 := zc.1.2.2.2.2.2.2.2.2.2.2.2.2.2.2.2.2.2.2.2.2.2.2.2.2.2.2.1
@[irreducible] noncomputable def L0 := zc.1.2.2.2.2.2.2.2.2.2.2.2.2.2.2.2.2.2.2.2.2.2.2.2.2.2.2.2
end z1
end law

namespace law
namespace z1
noncomputable def zpart1 : { R : ((Addr) → (Heap) → (Addr) → (List Value) → (Heap) → (List (Addr × Obj)) → (List Value) → (Heap) → Prop) // Hide (∀ ul h3 D1 ws h4 led2 us g2, R ul h3 D1 ws h4 led2 us g2) → zpart0.1 w s₀ s₁ mg mb fa pm cd doc ns sl vs h1 tk1 o1 o2 o3 o4 o5 o6 v1 v2 v3 v4 v5 v6 g0 L0 } := by
  refine' ⟨_, fun hP2 => ?main⟩
  case main =>
    intro hg hI e1 e2 e3 e4 e5 e6 hcl X1 T1 K1 lifted codeHd l0 F1 N1
    repeat' (first | (k_unfold; (try dsimp only)) | (k_end; kc_close) | (first | with_reducible ((with_reducible show wpAny _ _ (eval (Expr.ListComp ..) _) _ _ _); k_here; k_dflt (refine LCg.ListComp_U (F₀ := by k_asm) (by first | rfl | with_unfolding_all rfl) (by decide) (by rfl) (by decide) (by rfl) ?_)) | with_reducible ((with_reducible show LCg.CompSrc ..); k_dflt (refine stop_ ?_)) | walk1) | (dsimp only; walk1) | (leave1; (try dsimp only)))
    unfold Stop
    rename_i ul h2 hT1 l1 h3 D1 ws h4 F2 N2 hI2 hC2 hL2 hT2 l2
    refine cps fun zG zk => ?_
    obtain ⟨led2, hled2, N3⟩ := name_led N2
    have m2 : (D1, W.listOf ws.toArray 0) ∈ led2 := by rw [hled2]; exact .head _
    have hwl := hI2.length
    obtain ⟨us, mU, hUI⟩ : ∃ us : List Value, (ul, W.listOf us.toArray 0) ∈ led2 ∧ IntsAre us [3, 27, 75, 22, 31, 39, 32, 14] := ⟨_, by rw [hled2]; exact .tail _ (.head _), by repeat constructor⟩
    refine zk ?_
    clear zk zG
    refine LCg.CompSrc.ledger rfl F2 N3 m2 (by rw [List.size_toArray, PySem.sizeLine_eq]; exact (q16 (qele hwl hL2) (q16 hcl (by decide)))) ?_
    intro g2
    revert hg hI e1 e2 e3 e4 e5 e6 hcl X1 T1 K1 lifted codeHd l0 hI2 hC2 hL2 hled2 m2 hwl mU hUI
    exact hP2.out ul h3 D1 ws h4 led2 us g2
end z1
end law

namespace law
namespace z1
namespace z2
noncomputable def zc := eps (α := (Addr) × (Heap) × (Addr) × (List Value) × (Heap) × (List (Addr × Obj)) × (List Value) × (Heap)) ⟨default, {}, default, default, {}, default, default, {}⟩ (fun c => zpart1.1 c.1 c.2.1 c.2.2.1 c.2.2.2.1 c.2.2.2.2.1 c.2.2.2.2.2.1 c.2.2.2.2.2.2.1 c.2.2.2.2.2.2.2)
@[irreducible] noncomputable def ul := zc.1.1
@[irreducible] noncomputable def h3 := zc.1.2.1
@[irreducible] noncomputable def D1 := zc.1.2.2.1
@[irreducible] noncomputable def ws := zc.1.2.2.2.1
@[irreducible] noncomputable def h4 := zc.1.2.2.2.2.1
@[irreducible] noncomputable def led2 := zc.1.2.2.2.2.2.1
@[irreducible] noncomputable def us := zc.1.2.2.2.2.2.2.1
@[irreducible] noncomputable def g2 := zc.1.2.2.2.2.2.2.2
end z2
end z1
end law

namespace law
namespace z1
namespace z2
noncomputable def zpart2 : { R : ((List (Addr × Obj)) → (List (Int × Tok)) → (Addr) → (Heap) → (Nat) → Prop) // Hide (∀ news zs D2 h5 tk5, R news zs D2 h5 tk5) → zpart1.1 ul h3 D1 ws h4 led2 us g2 } := by
  refine' ⟨_, fun hP3 => ?main⟩
  case main =>
    intro hg hI e1 e2 e3 e4 e5 e6 hcl X1 T1 K1 lifted codeHd l0 hI2 hC2 hL2 hled2 m2 hwl mU hUI
    refine compRest_ind (IntsInv ws.length led2 fun i => ((ns.take 8).getD i 0).natAbs) ?_ ?_ _ 0 [] _ (Nat.zero_add _) IntsInv.start
    · intro i ys news hi hv v I oI C oC D m₂ h tk E' hP hC hx F₁ N₁ off ne
      rw [List.size_toArray] at hi
      rw [List.getElem?_toArray] at hP
      have hnw : ∀ e ∈ led2, e ∈ news := by obtain ⟨_, _, _, _, h⟩ := hv; exact h
      refine cps fun zG zk => ?_
      obtain ⟨t, rfl⟩ := are_get hI2 hP
      refine zk ?_
      clear zk zG
      repeat' (first | (k_unfold; (try dsimp only)) | (k_end; kc_close) | (first | with_reducible ((with_reducible show LCg.CompEnd ..); k_dflt (refine stop_ ?_)) | walk1) | (dsimp only; walk1) | (leave1; (try dsimp only)))
      unfold Stop
      exact LCg.CompEnd.intro F₁ N₁ news (fun e he => he) off (.inr ⟨_, hnw _ m2, rfl, _, rfl⟩) (hv.snoc hi (by split <;> omega) hnw)
    · intro ys news hv
      rw [List.size_toArray] at hv
      refine cps fun zG zk => ?_
      obtain ⟨zs, rfl, hz, -, hnw⟩ := hv
      refine zk ?_
      clear zk zG
      unfold LCg.FinE
      intro D2 h5 tk5 F3 N4 o1'
      have hU9 : ∀ (a b : Addr × Obj), (ul, W.listOf us.toArray 0) ∈ a :: b :: news := fun a b => .tail _ (.tail _ (hnw _ mU))
      have hz8 : (zs.map Prod.fst).length ≤ 8 := by rw [hz, List.length_map, List.length_range]; omega
      revert hg hI e1 e2 e3 e4 e5 e6 hcl X1 T1 K1 lifted codeHd l0 hC2 hL2 hled2 hwl hUI hz hnw F3 N4 hU9 hz8
      exact hP3.out news zs D2 h5 tk5
end z2
end z1
end law

namespace law
namespace z1
namespace z2
namespace z3
noncomputable def zc := eps (α := (List (Addr × Obj)) × (List (Int × Tok)) × (Addr) × (Heap) × (Nat)) ⟨default, default, default, {}, default⟩ (fun c => zpart2.1 c.1 c.2.1 c.2.2.1 c.2.2.2.1 c.2.2.2.2)
@[irreducible] noncomputable def news := zc.1.1
@[irreducible] noncomputable def zs := zc.1.2.1
@[irreducible] noncomputable def D2 := zc.1.2.2.1
@[irreducible] noncomputable def h5 := zc.1.2.2.2.1
@[irreducible] noncomputable def tk5 := zc.1.2.2.2.2
end z3
end z2
end z1
end law

namespace law
namespace z1
namespace z2
namespace z3
noncomputable def zpart3 : { R : ((Addr) → (Addr) → (List Value) → (Addr) → (Heap) → (List (Int × Tok)) → (List (Addr × Obj)) → Prop) // Hide (∀ z200_1 D' ws' D3 h6 z R1, R z200_1 D' ws' D3 h6 z R1) → zpart2.1 news zs D2 h5 tk5 } := by
  refine' ⟨_, fun hP200 => ?main⟩
  case main =>
    intro hg hI e1 e2 e3 e4 e5 e6 hcl X1 T1 K1 lifted codeHd l0 hC2 hL2 hled2 hwl hUI hz hnw F3 N4 hU9 hz8
    repeat' (first | (k_unfold; (try dsimp only)) | (k_end; kc_close) | (first | with_reducible ((with_reducible show wpAny _ _ (subscriptTail (Expr.Name ..) (Expr.Slice ..) (Value.ref _) (Value.ref _)) _ _ _); k_here; k_dflt (refine' kmk_slice_ints (ns := [3, 27, 75, 22, 31, 39, 32, 14]) ?sbFx91 ?sbNx91 ?sblx91 ?sbpx91 ?sbqx91 hUI (kmk_from hUI ?sbxx91) rfl ?_ ?sbsx91 ?sbtx91 ?sbzx91; (case sbFx91 => k_asm); (case sbNx91 => k_asm); (case sblx91 => exact News.isList (by k_asm) (hU9 _ _)); (case sbpx91 => kmk_part); (case sbqx91 => kmk_part); (case sbxx91 => exact (Int.natCast_nonneg _)); (case sbsx91 => with_unfolding_all rfl); (case sbtx91 => kmk_pure); (case sbzx91 => exact kmk_sz hUI (Nat.le_of_ble_eq_true rfl))); intro D' ws' h' F' N' l1 hI' hC' hL'; k_lt l1) | with_reducible ((with_reducible show wpAny _ _ (binaryOp Operator.Add (Value.ref _) (Value.ref _)) _ _ _); k_here; k_dflt (refine' kmk_add_ints (vs := zs.map intV) (ws := ws') ?saFx92 ?saNx92 ?saax92 ?sabx92 (ints_are zs) hI' ?_ ?sazx92; (case saFx92 => k_asm); (case saNx92 => k_asm); (case saax92 => exact News.isList (by k_asm) (.tail _ (.tail _ (.head _)))); (case sabx92 => exact News.isList (by k_asm) (.head _)); (case sazx92 => rw [PySem.sizeLine_eq]; simp only [List.length_cons, List.length_nil] at hL'; omega)); intro D3 cs3 h6 F6 N6 l6 hC3; k_lt l6; k_dflt (refine stop_ ?_)) | walk1) | (dsimp only; walk1) | (leave1; (try dsimp only)))
    unfold Stop
    refine cps fun zG zk => ?_
    obtain ⟨z, rfl, hzl, hz0⟩ := cells8 hz hwl hC3
    obtain ⟨R1, N7, i1, i2⟩ := resplitS [(L0 + 1 + 1 + 1 + 1 + 1 + 1, o1), (L0 + 1 + 1 + 1 + 1 + 1, o2), (L0 + 1 + 1 + 1 + 1, o3), (L0 + 1 + 1 + 1, o4), (L0 + 1 + 1, o5), (L0 + 1, o6), (422, tabObj #[])] N6 (by
      rw [hled2] at hnw
      intro c hc
      simp only [List.mem_cons, List.not_mem_nil, or_false] at hc
      refine .tail _ (.tail _ (.tail _ (.tail _ (hnw _ ?_))))
      rcases hc with rfl | rfl | rfl | rfl | rfl | rfl | rfl <;> repeat (first | exact List.Mem.head _ | apply List.Mem.tail)) (by
      intro c hc
      simp only [List.mem_cons, List.not_mem_nil, or_false] at hc
      rcases hc with rfl | rfl | rfl | rfl | rfl | rfl | rfl
      · exact cell_ns e1
      · exact cell_ns e2
      · exact cell_ns e3
      · exact cell_ns e4
      · exact cell_ns e5
      · exact cell_ns e6
      · rfl)
    refine zk ?_
    clear zk zG
    have mz : (D3, W.listOf (z.map intV).toArray 0) ∈ R1 := i1 _ (.head _) rfl
    have j1 : ∀ e ∈ R1, @Ne Nat e.1 (L0 + 1 + 1 + 1 + 1 + 1 + 1) := i2 _ (.head _)
    have j2 : ∀ e ∈ R1, @Ne Nat e.1 (L0 + 1 + 1 + 1 + 1 + 1) := i2 _ (.tail _ (.head _))
    have j3 : ∀ e ∈ R1, @Ne Nat e.1 (L0 + 1 + 1 + 1 + 1) := i2 _ (.tail _ (.tail _ (.head _)))
    have j4 : ∀ e ∈ R1, @Ne Nat e.1 (L0 + 1 + 1 + 1) := i2 _ (.tail _ (.tail _ (.tail _ (.head _))))
    have j5 : ∀ e ∈ R1, @Ne Nat e.1 (L0 + 1 + 1) := i2 _ (.tail _ (.tail _ (.tail _ (.tail _ (.head _)))))
    have j6 : ∀ e ∈ R1, @Ne Nat e.1 (L0 + 1) := i2 _ (.tail _ (.tail _ (.tail _ (.tail _ (.tail _ (.head _))))))
    have j7 : ∀ e ∈ R1, @Ne Nat e.1 422 := i2 _ (.tail _ (.tail _ (.tail _ (.tail _ (.tail _ (.tail _ (.head _)))))))
    simp only [List.cons_append, List.nil_append] at N7
    ((try clear hz8); (try clear hz); (try clear hled2); (try clear hU9); (try clear hnw); (try clear hC3); (try clear N6); (try clear i2); (try clear i1))
    dsimp only
    rename_i z200_1 z200_2 z200_3 z200_4 z200_5 z200_6 z200_7 z200_8 z200_9 z200_10 z200_11 z200_12
    revert hg e1 e2 e3 e4 e5 e6 X1 T1 K1 codeHd l0 hI' F6 hzl hz0 N7 mz j5 j6
    exact hP200.out z200_1 D' ws' D3 h6 z R1
end z3
end z2
end z1
end law
end
example : True := by w_top off; (try walk1); trivial
section
open PySem PySem.W PyProof.Rows PySem.Calls PySem.Spec
set_option Elab.async false
set_option maxRecDepth 100000
set_option maxHeartbeats 1000000
example : kdef.heap_1 = kdef.heap_1 ∧ PySem.Challenge.rw_xm0939_01 = PySem.Challenge.rw_xm0939_01 := by
  k_fill
  exact ⟨rfl, rfl⟩

theorem z_get {z : List (Int × Tok)} (hl : z.length = 8) (h0 : ∀ q ∈ z, 0 ≤ q.1) (k : Int) (hk0 : 0 ≤ k) (hk : k < 8) : ∃ c t, (z.map intV)[k.toNat]? = some (.int c t) ∧ 0 ≤ c ∧ (z.map Prod.fst)[k.toNat]? = some c := by
  have h : k.toNat < z.length := by exact (qtl8 hl hk0 hk)
  refine ⟨z[k.toNat].1, z[k.toNat].2, ?_, h0 _ (List.getElem_mem h), ?_⟩
  · rw [List.getElem?_map, List.getElem?_eq_getElem h]; rfl
  · rw [List.getElem?_map, List.getElem?_eq_getElem h]; rfl
theorem many_is (c : Int) : ∃ n : Nat, 2 + c.fmod 4 = (n : Int) ∧ 2 ≤ n ∧ n ≤ 5 := by
  rw [Int.fmod_eq_emod_of_nonneg _ (by decide)]
  exact ⟨(2 + c % 4).toNat, by omega, by omega, by omega⟩
def RulesInv (n : Nat) (led : List (Addr × Obj)) (i : Nat) (ys : List Value) (news : List (Addr × Obj)) : Prop :=
  ∃ rs : List RRec, ys = rs.map (fun r => .ref r.ad) ∧ rs.length = i ∧ (∀ r ∈ rs, RIn n news r) ∧ i ≤ n ∧ ∀ e ∈ led, e ∈ news
theorem RulesInv.snoc {n i : Nat} {led news : List (Addr × Obj)} {ys : List Value} {D9 : Addr} {l a b : Int} {t1 t2 t3 : Tok} (h : RulesInv n led i ys news) (hi : i < n) (a1 : l = 0 ∨ l = 1) (a2 : 0 ≤ a ∧ a < n) (a3 : 0 ≤ b ∧ b < n) :
    RulesInv n led (i + 1) (ys ++ [.ref D9]) ((D9, tup [.int l t1, .int a t2, .int b t3]) :: news) := by
  refine cps fun zG zk => ?_
  obtain ⟨rs, hr1, hr2, hr3, -, hnw⟩ := h
  refine zk ?_
  clear zk zG
  refine ⟨rs ++ [⟨D9, l, a, b, t1, t2, t3⟩], ?_, ?_, ?_, hi, fun e he => .tail _ (hnw e he)⟩
  · rw [hr1, List.map_append]; rfl
  · rw [List.length_append, hr2]; rfl
  · intro r hr
    rcases List.mem_append.mp hr with hr | hr
    · exact (hr3 r hr).mono fun e he => .tail _ he
    · rw [List.mem_singleton.mp hr]
      exact ⟨.head _, a1, a2, a3⟩
theorem rule_in (c : Int) (n : Nat) (hn : 2 ≤ n) : (c.fmod 2 = 0 ∨ c.fmod 2 = 1) ∧ (0 ≤ (c.fdiv 2).fmod n ∧ (c.fdiv 2).fmod n < n) ∧ (0 ≤ ((c.fdiv 2).fdiv n).fmod n ∧ ((c.fdiv 2).fdiv n).fmod n < n) := by
  have h := Int.fmod_eq_emod_of_nonneg c (b := 2) (by decide)
  refine ⟨by rw [h]; omega, ⟨Int.fmod_nonneg_of_pos _ (by exact (qcp (qpos2 hn))), Int.fmod_lt_of_pos _ (by exact (qcp (qpos2 hn)))⟩, Int.fmod_nonneg_of_pos _ (by exact (qcp (qpos2 hn))), Int.fmod_lt_of_pos _ (by exact (qcp (qpos2 hn)))⟩
def BitsInv (n : Nat) (led : List (Addr × Obj)) (i : Nat) (ys : List Value) (news : List (Addr × Obj)) : Prop :=
  ∃ zs : List (Int × Tok), ys = zs.map intV ∧ zs.length = i ∧ (∀ q ∈ zs, q.1 = 1 ∨ q.1 = 0) ∧ i ≤ n ∧ ∀ e ∈ led, e ∈ news
theorem BitsInv.snoc {n i : Nat} {led news : List (Addr × Obj)} {ys : List Value} {x : Int} {t : Tok} (h : BitsInv n led i ys news) (hi : i < n) (hx : x = 1 ∨ x = 0) : BitsInv n led (i + 1) (ys ++ [.int x t]) news := by
  refine cps fun zG zk => ?_
  obtain ⟨zs, rfl, h2, h3, -, h4⟩ := h
  refine zk ?_
  clear zk zG
  refine ⟨zs ++ [(x, t)], by rw [List.map_append]; rfl, by rw [List.length_append, h2]; rfl, fun q hq => ?_, hi, h4⟩
  rcases List.mem_append.mp hq with hq | hq
  · exact h3 q hq
  · rw [List.mem_singleton.mp hq]; exact hx
theorem fmod2 (c : Int) : c.fmod 2 = 1 ∨ c.fmod 2 = 0 := by
  have h := Int.fmod_eq_emod_of_nonneg c (b := 2) (by decide)
  rw [h]; omega
theorem rest_is (c : Int) (n : Nat) (hn : 2 ≤ n) : ∃ b : Nat, c.fmod n = (b : Int) ∧ b < n :=
  ⟨(c.fmod n).toNat, (Int.toNat_of_nonneg (Int.fmod_nonneg_of_pos _ (by exact (qcp (qpos2 hn))))).symm, by have := Int.fmod_lt_of_pos c (show (0 : Int) < n by exact (qcp (qpos2 hn))); exact (qtl0 (qpos2 hn) this)⟩
namespace law
namespace z1
namespace z2
namespace z3
namespace z200
noncomputable def zc := eps (α := (Addr) × (Addr) × (List Value) × (Addr) × (Heap) × (List (Int × Tok)) × (List (Addr × Obj))) ⟨default, default, default, default, {}, default, default⟩ (fun c => zpart3.1 c.1 c.2.1 c.2.2.1 c.2.2.2.1 c.2.2.2.2.1 c.2.2.2.2.2.1 c.2.2.2.2.2.2)
@[irreducible] noncomputable def z200_1 := zc.1.1
@[irreducible] noncomputable def D' := zc.1.2.1
@[irreducible] noncomputable def ws' := zc.1.2.2.1
@[irreducible] noncomputable def D3 := zc.1.2.2.2.1
@[irreducible] noncomputable def h6 := zc.1.2.2.2.2.1
@[irreducible] noncomputable def z := zc.1.2.2.2.2.2.1
@[irreducible] noncomputable def R1 := zc.1.2.2.2.2.2.2
end z200
end z3
end z2
end z1
end law

namespace law
namespace z1
namespace z2
namespace z3
namespace z200
noncomputable def zpart200 : { R : ((Int) → (Tok) → (Nat) → (Heap) → (Obj) → (Nat) → (Heap) → (Obj) → (Addr) → (Heap) → (List (Int × Tok)) → (List (Addr × Obj)) → (Heap) → Prop) // Hide (∀ c0 t0 n z12_1 o6' tk h8 o5' D4 h9 zs4 led9 g10, R c0 t0 n z12_1 o6' tk h8 o5' D4 h9 zs4 led9 g10) → zpart3.1 z200_1 D' ws' D3 h6 z R1 } := by
  refine' ⟨_, fun hP12 => ?main⟩
  case main =>
    intro hg e1 e2 e3 e4 e5 e6 X1 T1 K1 codeHd l0 hI' F6 hzl hz0 N7 mz j5 j6
    refine cps fun zG zk => ?_
    obtain ⟨c0, t0, z0, hc0, z0'⟩ := z_get hzl hz0 0 (by decide) (by decide)
    obtain ⟨n, hn, hn2, hn5⟩ := many_is c0
    refine zk ?_
    clear zk zG
    repeat' (first | (k_unfold; (try dsimp only)) | (k_end; kc_close) | (first | with_reducible ((with_reducible show wpAny _ _ (subscriptTail (Expr.Name ..) (Expr.Constant ..) (Value.ref _) (Value.int ..)) _ _ _); k_here; (with_reducible show wpAny _ _ (subscriptTail _ _ (Value.ref _) (Value.int _ _)) _ _ _); (with_unfolding_all refine' item_litK ?k1x93 ?k2x93 ?k3x93 ?k4x93 ?_ ?k6x93; (case k1x93 => refine News.isList (by k_asm) (by k_mem)); (case k4x93 => with_reducible assumption); (case k2x93 => decide); (case k3x93 => decide); (case k6x93 => with_unfolding_all rfl); k_whole)) | with_reducible ((with_reducible show wpAny _ _ (eval (Expr.ListComp ..) _) _ _ _); k_here; k_dflt (refine LCg.ListComp_U (F₀ := by k_asm) (by first | rfl | with_unfolding_all rfl) (by decide) (by rfl) (by decide) (by rfl) ?_)) | with_reducible ((with_reducible show wpAny _ _ (subscriptTail (Expr.Name ..) (Expr.Slice ..) (Value.ref _) (Value.ref _)) _ _ _); k_dflt (refine stop_ ?_)) | walk1) | (dsimp only; walk1) | (leave1; (try dsimp only)))
    unfold Stop
    rename_i o6' e6' h8 o5' F8 N8 e5'
    rw [hn]
    rw [hn] at e5'
    k_here
    refine' kmk_slice_ints (ns := z.map Prod.fst) (vs := z.map intV) ?sbF ?sbN ?sbl ?sbp ?sbq (ints_are z) (kmk_run (ints_are z) (by decide : (0 : Int) ≤ 3) ?sbx) rfl ?_ ?sbs ?sbt ?sbz
    case sbF => k_asm
    case sbN => k_asm
    case sbl => exact News.isList N8 (by k_mem)
    case sbp => kmk_part
    case sbq => kmk_part
    case sbx => exact q3n
    case sbs => with_unfolding_all rfl
    case sbt => kmk_pure
    case sbz => exact kmk_sz (ints_are z) (by rw [PySem.sizeLine_eq, List.length_map]; exact (qele hzl (by decide)))
    intro D4 us4 h9 F9 N9 l9 hU4 _ _
    k_lt l9
    repeat' (first | (k_unfold; (try dsimp only)) | (k_end; kc_close) | (first | with_reducible ((with_reducible show LCg.CompSrc ..); k_dflt (refine stop_ ?_)) | walk1) | (dsimp only; walk1) | (leave1; (try dsimp only)))
    unfold Stop
    refine cps fun zG zk => ?_
    obtain ⟨zs4, rfl, hz4⟩ := are_zs hU4
    have hl4 : zs4.length = n := by
      have := congrArg List.length hz4
      simp only [List.length_map, List.length_take, List.length_drop] at this
      omega
    obtain ⟨led9, hled9, N10⟩ := name_led N9
    refine zk ?_
    clear zk zG
    have m4 : (D4, W.listOf (zs4.map intV).toArray 0) ∈ led9 := by rw [hled9]; exact .head _
    have m5 : (L0 + 1 + 1, o5') ∈ led9 := by rw [hled9]; repeat (first | exact List.Mem.head _ | apply List.Mem.tail)
    refine LCg.CompSrc.ledger rfl F9 N10 m4 (by rw [List.size_toArray, List.length_map, PySem.sizeLine_eq]; exact (q16 (qele hl4 hn5) (by decide))) ?_
    intro g10
    rename_i z12_1 z12_2 z12_3 z12_4
    revert hg e1 e2 e3 e4 X1 T1 K1 codeHd l0 hI' hzl hz0 mz z0 hn2 hn5 e6' e5' hl4 hled9 m4 m5
    exact hP12.out c0 t0 n z12_1 o6' tk h8 o5' D4 h9 zs4 led9 g10
end z200
end z3
end z2
end z1
end law

namespace law
namespace z1
namespace z2
namespace z3
namespace z200
namespace z12
noncomputable def zc := eps (α := (Int) × (Tok) × (Nat) × (Heap) × (Obj) × (Nat) × (Heap) × (Obj) × (Addr) × (Heap) × (List (Int × Tok)) × (List (Addr × Obj)) × (Heap)) ⟨default, default, default, {}, default, default, {}, default, default, {}, default, default, {}⟩ (fun c => zpart200.1 c.1 c.2.1 c.2.2.1 c.2.2.2.1 c.2.2.2.2.1 c.2.2.2.2.2.1 c.2.2.2.2.2.2.1 c.2.2.2.2.2.2.2.1 c.2.2.2.2.2.2.2.2.1 c.2.2.2.2.2.2.2.2.2.1 c.2.2.2.2.2.2.2.2.2.2.1 c.2.2.2.2.2.2.2.2.2.2.2.1 c.2.2.2.2.2.2.2.2.2.2.2.2)
@[irreducible] noncomputable def c0 := zc.1.1
@[irreducible] noncomputable def t0 := zc.1.2.1
@[irreducible] noncomputable def n := zc.1.2.2.1
@[irreducible] noncomputable def z12_1 := zc.1.2.2.2.1
@[irreducible] noncomputable def o6' := zc.1.2.2.2.2.1
@[irreducible] noncomputable def tk := zc.1.2.2.2.2.2.1
@[irreducible] noncomputable def h8 := zc.1.2.2.2.2.2.2.1
@[irreducible] noncomputable def o5' := zc.1.2.2.2.2.2.2.2.1
@[irreducible] noncomputable def D4 := zc.1.2.2.2.2.2.2.2.2.1
@[irreducible] noncomputable def h9 := zc.1.2.2.2.2.2.2.2.2.2.1
@[irreducible] noncomputable def zs4 := zc.1.2.2.2.2.2.2.2.2.2.2.1
@[irreducible] noncomputable def led9 := zc.1.2.2.2.2.2.2.2.2.2.2.2.1
@[irreducible] noncomputable def g10 := zc.1.2.2.2.2.2.2.2.2.2.2.2.2
end z12
end z200
end z3
end z2
end z1
end law

namespace law
namespace z1
namespace z2
namespace z3
namespace z200
namespace z12
noncomputable def zpart12 : { R : ((List RRec) → (Addr) → (Heap) → (Nat) → (List (Addr × Obj)) → (Int) → (Tok) → (Nat) → Prop) // Hide (∀ rs D5 h12 tk12 R2 c1 t1 na, R rs D5 h12 tk12 R2 c1 t1 na) → zpart200.1 c0 t0 n z12_1 o6' tk h8 o5' D4 h9 zs4 led9 g10 } := by
  refine' ⟨_, fun hP13 => ?main⟩
  case main =>
    intro hg e1 e2 e3 e4 X1 T1 K1 codeHd l0 hI' hzl hz0 mz z0 hn2 hn5 e6' e5' hl4 hled9 m4 m5
    refine compRest_ind (RulesInv n led9) ?_ ?_ _ 0 [] _ (Nat.zero_add _) ⟨[], rfl, rfl, fun _ h => (nomatch h), Nat.zero_le _, fun _ h => h⟩
    · intro i ys news' hi hv v I oI C oC D m₂ h tk E' hP hC hx F₁ N₁ off ne
      rw [List.size_toArray, List.length_map, hl4] at hi
      rw [List.getElem?_toArray, List.getElem?_map, List.getElem?_eq_getElem (by exact (qlee hi hl4) : i < zs4.length)] at hP
      have hvv := (Option.some.inj hP).symm
      generalize zs4[i] = q4 at hvv
      refine cps fun zG zk => ?_
      obtain ⟨told, tt⟩ := q4
      refine zk ?_
      clear zk zG
      change v = .int told tt at hvv
      subst hvv
      have hnw : ∀ e ∈ led9, e ∈ news' := by obtain ⟨_, _, _, _, _, h⟩ := hv; exact h
      have c1 := hnw _ m5
      have hnz : (n : Int) ≠ 0 := by exact (qn0 (qpos2 hn2))
      repeat' (first | (k_unfold; (try dsimp only)) | (k_end; kc_close) | (first | with_reducible ((with_reducible show LCg.CompEnd ..); k_dflt (refine stop_ ?_)) | walk1) | (dsimp only; walk1) | (leave1; (try dsimp only)))
      unfold Stop
      rename_i D9 h11 F11 N11 hT11 l11
      refine cps fun zG zk => ?_
      obtain ⟨a1, a2, a3⟩ := rule_in told n hn2
      refine zk ?_
      clear zk zG
      exact comp_close1 F11 N11 ⟨l11.1, l11.2.1, l11.2.2.1⟩ off (.inr ⟨_, .tail _ (hnw _ m4), rfl, _, rfl⟩) (hv.snoc hi a1 a2 a3)
    · intro ys news' hv
      rw [List.size_toArray, List.length_map, hl4] at hv
      refine cps fun zG zk => ?_
      obtain ⟨rs, rfl, hr2, hr3, -, hnw⟩ := hv
      refine zk ?_
      clear zk zG
      unfold LCg.FinE
      intro D5 h12 tk12 F12 N12 o1''
      refine cps fun zG zk => ?_
      obtain ⟨R2, N13, i1, j1', j2', j3', j4', j5', j6', j7'⟩ := split7 N12 (fix7_mem (fun e he => .tail _ (hnw e (by rw [hled9]; exact .tail _ he)))) e1 e2 e3 e4 e5' e6' rfl
      refine zk ?_
      clear zk zG
      have mr : (D5, LCg.lst (rs.map fun r => .ref r.ad)) ∈ R2 := i1 _ (.head _) rfl
      have mz2 : (D3, W.listOf (z.map intV).toArray 0) ∈ R2 := i1 _ (.tail _ (hnw _ (by rw [hled9]; repeat (first | exact mz | apply List.Mem.tail)))) rfl
      have hR : ∀ r ∈ rs, RIn rs.length R2 r := fun r hr => by rw [hr2]; exact (hr3 r hr).seq fun e he => i1 e (.tail _ he)
      ((try clear m5); (try clear m4); (try clear mz); (try clear j7); (try clear j6); (try clear j5); (try clear j4); (try clear j3); (try clear j2); (try clear j1); (try clear N9); (try clear F9); (try clear N12); (try clear i1); (try clear hnw); (try clear hr3); (try clear N10); (try clear hled9))
      refine cps fun zG zk => ?_
      obtain ⟨c1, t1, z1, hc1, z1'⟩ := z_get hzl hz0 1 (by decide) (by decide)
      obtain ⟨na, hna, hna1, hna5⟩ : ∃ na : Nat, 1 + c1.fmod 5 = (na : Int) ∧ 1 ≤ na ∧ na ≤ 5 := by
        rw [Int.fmod_eq_emod_of_nonneg _ (by decide)]
        exact ⟨(1 + c1 % 5).toNat, by omega, by omega, by omega⟩
      refine zk ?_
      clear zk zG
      revert hg e1 e2 e3 e4 X1 T1 K1 codeHd l0 hI' hzl hz0 z0 hn2 hn5 e6' e5' hl4 hr2 F12 N13 j4' mr mz2 hR z1 hna hna1 hna5
      exact hP13.out rs D5 h12 tk12 R2 c1 t1 na
end z12
end z200
end z3
end z2
end z1
end law

namespace law
namespace z1
namespace z2
namespace z3
namespace z200
namespace z12
namespace z13
noncomputable def zc := eps (α := (List RRec) × (Addr) × (Heap) × (Nat) × (List (Addr × Obj)) × (Int) × (Tok) × (Nat)) ⟨default, default, {}, default, default, default, default, default⟩ (fun c => zpart12.1 c.1 c.2.1 c.2.2.1 c.2.2.2.1 c.2.2.2.2.1 c.2.2.2.2.2.1 c.2.2.2.2.2.2.1 c.2.2.2.2.2.2.2)
@[irreducible] noncomputable def rs := zc.1.1
@[irreducible] noncomputable def D5 := zc.1.2.1
@[irreducible] noncomputable def h12 := zc.1.2.2.1
@[irreducible] noncomputable def tk12 := zc.1.2.2.2.1
@[irreducible] noncomputable def R2 := zc.1.2.2.2.2.1
@[irreducible] noncomputable def c1 := zc.1.2.2.2.2.2.1
@[irreducible] noncomputable def t1 := zc.1.2.2.2.2.2.2.1
@[irreducible] noncomputable def na := zc.1.2.2.2.2.2.2.2
end z13
end z12
end z200
end z3
end z2
end z1
end law

namespace law
namespace z1
namespace z2
namespace z3
namespace z200
namespace z12
namespace z13
noncomputable def zpart13 : { R : ((Heap) → (Obj) → (Heap) → (Nat) → (List (Addr × Obj)) → (Heap) → Prop) // Hide (∀ z14_1 o4' h14 tk14 led14 g15, R z14_1 o4' h14 tk14 led14 g15) → zpart12.1 rs D5 h12 tk12 R2 c1 t1 na } := by
  refine' ⟨_, fun hP14 => ?main⟩
  case main =>
    intro hg e1 e2 e3 e4 X1 T1 K1 codeHd l0 hI' hzl hz0 z0 hn2 hn5 e6' e5' hl4 hr2 F12 N13 j4' mr mz2 hR z1 hna hna1 hna5
    repeat' (first | (k_unfold; (try dsimp only)) | (k_end; kc_close) | (first | with_reducible ((with_reducible show wpAny _ _ (subscriptTail (Expr.Name ..) (Expr.Constant ..) (Value.ref _) (Value.int ..)) _ _ _); k_here; (with_reducible show wpAny _ _ (subscriptTail _ _ (Value.ref _) (Value.int _ _)) _ _ _); (with_unfolding_all refine' item_litK ?k1x98 ?k2x98 ?k3x98 ?k4x98 ?_ ?k6x98; (case k1x98 => refine News.isList (by k_asm) (by k_mem)); (case k4x98 => with_reducible assumption); (case k2x98 => decide); (case k3x98 => decide); (case k6x98 => with_unfolding_all rfl); k_whole)) | with_reducible ((with_reducible show LCg.CompSrc ..); k_dflt (refine stop_ ?_)) | walk1) | (dsimp only; walk1) | (leave1; (try dsimp only)))
    unfold Stop
    rename_i o4' F13 N13 e4' h14 tk14 t14 u14 v14 hR14 F14 N14 hk14
    rw [hna] at hR14
    refine cps fun zG zk => ?_
    obtain ⟨led14, hled14, N15⟩ := name_led N14
    refine zk ?_
    clear zk zG
    have hfix : ∀ c ∈ fix7 L0 o1 o2 o3 o4' o5' o6' (tabObj #[]), c ∈ led14 := fix7_mem (fun e he => by rw [hled14]; exact he)
    have m6 : (L0 + 1, o6') ∈ led14 := hfix _ (by unfold fix7; simp)
    have m7 : (D3, W.listOf (z.map intV).toArray 0) ∈ led14 := by rw [hled14]; repeat (first | exact mz2 | apply List.Mem.tail)
    have m8 : ∀ e ∈ R2, e ∈ led14 := fun e he => by rw [hled14]; repeat (first | exact he | apply List.Mem.tail)
    refine LCg.CompSrc.range (n := na) rfl F14 N15 hR14 (small8 _ (by exact (Nat.lt_of_le_of_lt hna5 (by decide)))) (size8 _) (by rw [PySem.sizeLine_eq]; exact (q16 hna5 (by decide))) ?_
    intro g15
    rename_i z14_1
    revert hg e1 e2 e3 X1 T1 K1 codeHd l0 hI' hzl hz0 z0 hn2 hn5 e6' e5' hl4 hr2 mr mz2 hR z1 hna1 hna5 e4' hfix m6 m7 m8
    exact hP14.out z14_1 o4' h14 tk14 led14 g15
end z13
end z12
end z200
end z3
end z2
end z1
end law

namespace law
namespace z1
namespace z2
namespace z3
namespace z200
namespace z12
namespace z13
namespace z14
noncomputable def zc := eps (α := (Heap) × (Obj) × (Heap) × (Nat) × (List (Addr × Obj)) × (Heap)) ⟨{}, default, {}, default, default, {}⟩ (fun c => zpart13.1 c.1 c.2.1 c.2.2.1 c.2.2.2.1 c.2.2.2.2.1 c.2.2.2.2.2)
@[irreducible] noncomputable def z14_1 := zc.1.1
@[irreducible] noncomputable def o4' := zc.1.2.1
@[irreducible] noncomputable def h14 := zc.1.2.2.1
@[irreducible] noncomputable def tk14 := zc.1.2.2.2.1
@[irreducible] noncomputable def led14 := zc.1.2.2.2.2.1
@[irreducible] noncomputable def g15 := zc.1.2.2.2.2.2
end z14
end z13
end z12
end z200
end z3
end z2
end z1
end law

namespace law
namespace z1
namespace z2
namespace z3
namespace z200
namespace z12
namespace z13
namespace z14
noncomputable def zpart14 : { R : ((List (Int × Tok)) → (Addr) → (Heap) → (Nat) → (List (Addr × Obj)) → (Int) → (Tok) → Prop) // Hide (∀ as D6 h16 tk16 R3 c2 t2, R as D6 h16 tk16 R3 c2 t2) → zpart13.1 z14_1 o4' h14 tk14 led14 g15 } := by
  refine' ⟨_, fun hP15 => ?main⟩
  case main =>
    intro hg e1 e2 e3 X1 T1 K1 codeHd l0 hI' hzl hz0 z0 hn2 hn5 e6' e5' hl4 hr2 mr mz2 hR z1 hna1 hna5 e4' hfix m6 m7 m8
    refine compRest_ind (BitsInv na led14) ?_ ?_ _ 0 [] _ (Nat.zero_add _) ⟨[], rfl, rfl, fun _ h => (nomatch h), Nat.zero_le _, fun _ h => h⟩
    · intro i ys news hi hv v I oI C oC D m₂ h tk E' hP hC hx F₁ N₁ off ne
      refine cps fun zG zk => ?_
      obtain ⟨ti, rfl⟩ := hP
      refine zk ?_
      clear zk zG
      have hnw : ∀ e ∈ led14, e ∈ news := by obtain ⟨_, _, _, _, _, h⟩ := hv; exact h
      have x1 := hnw _ m6
      have x2 := hnw _ m7
      have hi0 : (0 : Int) ≤ 0 + (i : Int) := by exact qz0
      have hi5 : (0 : Int) + (i : Int) ≤ 5 := by exact (q05 hi hna5)
      repeat' (first | (k_unfold; (try dsimp only)) | (k_end; kc_close) | (first | with_reducible ((with_reducible show wpAny _ _ (subscriptTail (Expr.Name ..) (Expr.Constant ..) (Value.ref _) (Value.int ..)) _ _ _); k_here; (with_reducible show wpAny _ _ (subscriptTail _ _ (Value.ref _) (Value.int _ _)) _ _ _); (with_unfolding_all refine' item_litK ?k1x100 ?k2x100 ?k3x100 ?k4x100 ?_ ?k6x100; (case k1x100 => refine News.isList (by k_asm) (by k_mem)); (case k4x100 => with_reducible assumption); (case k2x100 => decide); (case k3x100 => decide); (case k6x100 => with_unfolding_all rfl); k_whole)) | with_reducible ((with_reducible show LCg.CompEnd ..); k_dflt (refine stop_ ?_)) | walk1) | (dsimp only; walk1) | (leave1; (try dsimp only)))
      unfold Stop
      exact LCg.CompEnd.intro F₁ N₁ news (fun e he => he) off trivial (hv.snoc hi (fmod2 _))
    · intro ys news hv
      refine cps fun zG zk => ?_
      obtain ⟨as, rfl, ha1, ha2, -, hnw⟩ := hv
      refine zk ?_
      clear zk zG
      unfold LCg.FinA
      intro D6 h16 tk16 F16 N16 o16
      refine cps fun zG zk => ?_
      obtain ⟨R3, N17, i1, j1, j2, j3, j4, j5, j6, j7⟩ := split7 N16 (fun c hc => .tail _ (hnw c (hfix c hc))) e1 e2 e3 e4' e5' e6' rfl
      have ma : (D6, LCg.lst (as.map intV)) ∈ R3 := i1 _ (.head _) rfl
      have hR2 : ∀ e ∈ R2, isSeq e.2 = true → e ∈ R3 := fun e he hs => i1 e (.tail _ (hnw e (m8 e he))) hs
      have mr3 := hR2 _ mr rfl
      have mz3 := hR2 _ mz2 rfl
      have hR3 : ∀ r ∈ rs, RIn rs.length R3 r := fun r hr => (hR r hr).seq hR2
      obtain ⟨c2, t2, z2, hc2, z2'⟩ := z_get hzl hz0 2 (by decide) (by decide)
      refine zk ?_
      clear zk zG
      have hnz : (n : Int) ≠ 0 := by exact (qn0 (qpos2 hn2))
      ((try clear j7'); (try clear j6'); (try clear j5'); (try clear j4'); (try clear j3'); (try clear j2'); (try clear j1'); (try clear mz2); (try clear mr); (try clear hR); (try clear hR2); (try clear hnw); (try clear i1); (try clear m8); (try clear m7); (try clear m6); (try clear hfix); (try clear F14); (try clear N16); (try clear N15); (try clear hled14); (try clear N13); (try clear F13))
      revert hg e1 e2 e3 X1 T1 K1 codeHd l0 hI' z0 hn2 hn5 e6' e5' hl4 hr2 hna1 hna5 e4' ha1 F16 N17 ma mr3 mz3 hR3 z2 hnz
      exact hP15.out as D6 h16 tk16 R3 c2 t2
end z14
end z13
end z12
end z200
end z3
end z2
end z1
end law

namespace law
namespace z1
namespace z2
namespace z3
namespace z200
namespace z12
namespace z13
namespace z14
namespace z15
noncomputable def zc := eps (α := (List (Int × Tok)) × (Addr) × (Heap) × (Nat) × (List (Addr × Obj)) × (Int) × (Tok)) ⟨default, default, {}, default, default, default, default⟩ (fun c => zpart14.1 c.1 c.2.1 c.2.2.1 c.2.2.2.1 c.2.2.2.2.1 c.2.2.2.2.2.1 c.2.2.2.2.2.2)
@[irreducible] noncomputable def as := zc.1.1
@[irreducible] noncomputable def D6 := zc.1.2.1
@[irreducible] noncomputable def h16 := zc.1.2.2.1
@[irreducible] noncomputable def tk16 := zc.1.2.2.2.1
@[irreducible] noncomputable def R3 := zc.1.2.2.2.2.1
@[irreducible] noncomputable def c2 := zc.1.2.2.2.2.2.1
@[irreducible] noncomputable def t2 := zc.1.2.2.2.2.2.2
end z15
end z14
end z13
end z12
end z200
end z3
end z2
end z1
end law

namespace law
namespace z1
namespace z2
namespace z3
namespace z200
namespace z12
namespace z13
namespace z14
namespace z15
noncomputable def zpart15 : { R : ((Addr) → (Nat) → (Nat) → (Nat) → (Heap) → (Nat) → (Addr) → (List (Int × Tok)) → (Nat) → (Nat) → (List (Addr × Obj)) → Prop) // Hide (∀ z201_1 bg fi se h20 tk20 D7 zl kk nl R4, R z201_1 bg fi se h20 tk20 D7 zl kk nl R4) → zpart14.1 as D6 h16 tk16 R3 c2 t2 } := by
  refine' ⟨_, fun hP201 => ?main⟩
  case main =>
    intro hg e1 e2 e3 X1 T1 K1 codeHd l0 hI' z0 hn2 hn5 e6' e5' hl4 hr2 hna1 hna5 e4' ha1 F16 N17 ma mr3 mz3 hR3 z2 hnz
    repeat' (first | (k_unfold; (try dsimp only)) | (k_end; kc_close) | (first | with_reducible ((with_reducible show wpAny _ _ (subscriptTail (Expr.Name ..) (Expr.Constant ..) (Value.ref _) (Value.int ..)) _ _ _); k_here; (with_reducible show wpAny _ _ (subscriptTail _ _ (Value.ref _) (Value.int _ _)) _ _ _); (with_unfolding_all refine' item_litK ?k1x102 ?k2x102 ?k3x102 ?k4x102 ?_ ?k6x102; (case k1x102 => refine News.isList (by k_asm) (by k_mem)); (case k4x102 => with_reducible assumption); (case k2x102 => decide); (case k3x102 => decide); (case k6x102 => with_unfolding_all rfl); k_whole)) | with_reducible (k_here; (with_reducible show wpAny _ _ (call (Value.ref 430) _) _ _ _); k_dflt (refine stop_ ?_)) | walk1) | (dsimp only; walk1) | (leave1; (try dsimp only)))
    unfold Stop
    rename Fr _ _ _ _ => F18
    rename News _ _ _ _ => N18
    refine cps fun zG zk => ?_
    obtain ⟨bg, hbg, hbgn⟩ := rest_is c2 n hn2
    obtain ⟨fi, hfi, hfin⟩ := rest_is (c2.fdiv n) n hn2
    obtain ⟨se, hse, hsen⟩ := rest_is ((c2.fdiv n).fdiv n) n hn2
    refine zk ?_
    clear zk zG
    rw [hbg, hfi, hse] at F18
    refine wp_le (d := 480) (u := 3800) ?_ (Nat.le_of_ble_eq_true rfl) (Nat.le_of_ble_eq_true rfl)
    refine cps fun zG zk => ?_
    obtain ⟨all, hall, N19⟩ := name_led N18
    refine zk ?_
    clear zk zG
    have q1 : ∀ c ∈ fix7 L0 o1 o2 o3 o4' o5' o6' (tabObj #[]), c ∈ all := fix7_mem (fun e he => by rw [hall]; exact .tail _ he)
    have q2 : ∀ e ∈ R3, e ∈ all := fun e he => by rw [hall]; repeat (first | exact he | apply List.Mem.tail)
    refine ltC w (CX.mk _ _ _ _ _ _ _ _) all rs D5 _ _ _ _ _ _ _ _ K1 F18 X1 T1 (fun e he => by
      rcases List.mem_cons.mp he with rfl | he
      · exact N19 _ (q2 _ mr3)
      · exact N19 e he) (fun r hr => (hR3 r hr).mono q2) (by exact (qele hr2 hn5)) ?_
    intro h20 tk20 D7 zl kk nl own' F20 N20 hsub hzl7 hfix hfst
    replace hsub : ∀ e ∈ all, e ∈ own' := fun e he => hsub e (.tail _ he)
    refine cps fun zG zk => ?_
    obtain ⟨R4, N21, i1, j1', j2', j3', j4', j5', j6', j7'⟩ := split7 N20 (fun c hc => .tail _ (hsub c (q1 c hc))) e1 e2 e3 e4' e5' e6' rfl
    refine zk ?_
    clear zk zG
    have hR34 : ∀ e ∈ R3, isSeq e.2 = true → e ∈ R4 := fun e he hs => i1 e (.tail _ (hsub e (q2 e he))) hs
    have ml4 : (D7, W.listOf (zl.map intV).toArray nl) ∈ R4 := i1 _ (.head _) rfl
    have ma4 := hR34 _ ma rfl
    have mr4 := hR34 _ mr3 rfl
    have mz4 := hR34 _ mz3 rfl
    have hR4 : ∀ r ∈ rs, RIn rs.length R4 r := fun r hr => (hR3 r hr).seq hR34
    ((try clear F18); (try clear j7); (try clear j6); (try clear j5); (try clear j4); (try clear j3); (try clear j2); (try clear j1); (try clear hR3); (try clear mz3); (try clear mr3); (try clear ma); (try clear hall); (try clear N18); (try clear N19); (try clear q2); (try clear q1); (try clear N20); (try clear hsub); (try clear hR34); (try clear i1))
    rw [hr2] at hzl7
    dsimp only
    rename_i z201_1 z201_2 z201_3 z201_4 z201_5 z201_6 z201_7 z201_8
    revert hg e1 e2 e3 X1 T1 K1 codeHd l0 hI' z0 hn2 hn5 e6' e5' hl4 hr2 hna1 hna5 e4' ha1 hbgn hfin hsen F20 hzl7 hfix hfst N21 j3' ml4 ma4 mr4 mz4 hR4
    exact hP201.out z201_1 bg fi se h20 tk20 D7 zl kk nl R4
end z15
end z14
end z13
end z12
end z200
end z3
end z2
end z1
end law
end
example : True := by w_top off; (try walk1); trivial
section
open PySem PySem.W PyProof.Rows PySem.Calls PySem.Spec
set_option Elab.async false
set_option maxRecDepth 100000
set_option maxHeartbeats 1000000
example : kdef.heap_1 = kdef.heap_1 ∧ PySem.Challenge.rw_xm0939_01 = PySem.Challenge.rw_xm0939_01 := by
  k_fill
  exact ⟨rfl, rfl⟩

local macro_rules | `(tactic| walk_at "CompSrcT") => `(tactic| (k_dflt (refine stop_ ?_)))
local macro_rules | `(tactic| walk_at "exec For Name Name cons nil") => `(tactic| (k_here; (rename Fr _ _ _ _ => lF'); (with_unfolding_all refine' For_turns lF' ?_; k_whole)))
def HeadsInv (f : Nat → Nat) (n : Nat) (led : List (Addr × Obj)) (i : Nat) (ys : List Value) (news : List (Addr × Obj)) : Prop :=
  ∃ hs : List (Int × Tok), ys = hs.map intV ∧ hs.map Prod.fst = ((List.range i).filter (fun j => f j == j)).map Int.ofNat ∧ i ≤ n ∧ ∀ e ∈ led, e ∈ news
theorem HeadsInv.keep {f : Nat → Nat} {n i : Nat} {led news : List (Addr × Obj)} {ys : List Value} {t : Tok} {k : Int} (h : HeadsInv f n led i ys news) (hi : i < n) (hf : f i = i) (hk : k = i) : HeadsInv f n led (i + 1) (ys ++ [.int k t]) news := by
  refine cps fun zG zk => ?_
  obtain ⟨hs, rfl, h2, -, h4⟩ := h
  refine zk ?_
  clear zk zG
  refine ⟨hs ++ [(k, t)], by rw [List.map_append]; rfl, ?_, hi, h4⟩
  rw [List.map_append, h2, List.range_succ, List.filter_append, List.map_append, hk]
  simp [hf]
theorem HeadsInv.pass {f : Nat → Nat} {n i : Nat} {led news : List (Addr × Obj)} {ys : List Value} (h : HeadsInv f n led i ys news) (hi : i < n) (hf : f i ≠ i) : HeadsInv f n led (i + 1) ys news := by
  refine cps fun zG zk => ?_
  obtain ⟨hs, rfl, h2, -, h4⟩ := h
  refine zk ?_
  clear zk zG
  refine ⟨hs, rfl, ?_, hi, h4⟩
  rw [h2, List.range_succ, List.filter_append]
  simp [hf]
namespace law
namespace z1
namespace z2
namespace z3
namespace z200
namespace z12
namespace z13
namespace z14
namespace z15
namespace z201
noncomputable def zc := eps (α := (Addr) × (Nat) × (Nat) × (Nat) × (Heap) × (Nat) × (Addr) × (List (Int × Tok)) × (Nat) × (Nat) × (List (Addr × Obj))) ⟨default, default, default, default, {}, default, default, default, default, default, default⟩ (fun c => zpart15.1 c.1 c.2.1 c.2.2.1 c.2.2.2.1 c.2.2.2.2.1 c.2.2.2.2.2.1 c.2.2.2.2.2.2.1 c.2.2.2.2.2.2.2.1 c.2.2.2.2.2.2.2.2.1 c.2.2.2.2.2.2.2.2.2.1 c.2.2.2.2.2.2.2.2.2.2)
@[irreducible] noncomputable def z201_1 := zc.1.1
@[irreducible] noncomputable def bg := zc.1.2.1
@[irreducible] noncomputable def fi := zc.1.2.2.1
@[irreducible] noncomputable def se := zc.1.2.2.2.1
@[irreducible] noncomputable def h20 := zc.1.2.2.2.2.1
@[irreducible] noncomputable def tk20 := zc.1.2.2.2.2.2.1
@[irreducible] noncomputable def D7 := zc.1.2.2.2.2.2.2.1
@[irreducible] noncomputable def zl := zc.1.2.2.2.2.2.2.2.1
@[irreducible] noncomputable def kk := zc.1.2.2.2.2.2.2.2.2.1
@[irreducible] noncomputable def nl := zc.1.2.2.2.2.2.2.2.2.2.1
@[irreducible] noncomputable def R4 := zc.1.2.2.2.2.2.2.2.2.2.2
end z201
end z15
end z14
end z13
end z12
end z200
end z3
end z2
end z1
end law

namespace law
namespace z1
namespace z2
namespace z3
namespace z200
namespace z12
namespace z13
namespace z14
namespace z15
namespace z201
noncomputable def zpart201 : { R : ((Nat → Nat) → (Heap) → (Obj) → (Nat) → (Heap) → (Nat) → (List (Addr × Obj)) → (Heap) → (Nat) → (List Value) → (List (Addr × Obj)) → (Addr) → (Obj) → (Addr) → (Obj) → (Addr) → (Str → Option Value) → (Heap) → (Nat) → (Value → Shared → Prop) → (Tok) → (Tok) → Prop) × ((Nat → Nat) → (Heap) → (Obj) → (Nat) → (Heap) → (Nat) → (Heap) → (List (Int × Tok)) → (Addr) → (Heap) → (Nat) → (List (Addr × Obj)) → Prop) // Hide (∀ ff h22 o3' z21_1 h23 tk23 led23 g24 i ys news I oI C oC D m₂ h tk E' ti y1, R.1 ff h22 o3' z21_1 h23 tk23 led23 g24 i ys news I oI C oC D m₂ h tk E' ti y1) → Hide (∀ ff h22 o3' tk h23 tk23 g24 hs D8 h25 tk25 R5, R.2 ff h22 o3' tk h23 tk23 g24 hs D8 h25 tk25 R5) → zpart15.1 z201_1 bg fi se h20 tk20 D7 zl kk nl R4 } := by
  refine' ⟨(_, _), fun hP21 hP22 => ?main⟩
  case main =>
    intro hg e1 e2 e3 X1 T1 K1 codeHd l0 hI' z0 hn2 hn5 e6' e5' hl4 hr2 hna1 hna5 e4' ha1 hbgn hfin hsen F20 hzl7 hfix hfst N21 j3' ml4 ma4 mr4 mz4 hR4
    change News g0 L0 h20 _ at N21
    change Fr g0 L0 h20 _ at F20
    generalize hff : (machR rs).iter kk = ff at *
    repeat' (first | (k_unfold; (try dsimp only)) | (k_end; kc_close) | (first | with_reducible ((with_reducible show wpAny _ _ (eval (Expr.ListComp ..) _) _ _ _); k_here; k_dflt (refine LCt.ListComp_T (F₀ := by k_asm) (by first | rfl | with_unfolding_all rfl) (by decide) (by rfl) (by decide) (by rfl) ?_)) | walk1) | (dsimp only; walk1) | (leave1; (try dsimp only)))
    unfold Stop
    rename_i h22 o3' F22 N22 e3' h23 tk23 t23 u23 v23 hR23 F23 N23 hk23
    refine cps fun zG zk => ?_
    obtain ⟨led23, hled23, N24⟩ := name_led N23
    refine zk ?_
    clear zk zG
    have hfix7 : ∀ c ∈ fix7 L0 o1 o2 o3' o4' o5' o6' (tabObj #[]), c ∈ led23 := fix7_mem (fun e he => by rw [hled23]; exact he)
    have m3 : (L0 + 1 + 1 + 1 + 1, o3') ∈ led23 := hfix7 _ (by unfold fix7; simp)
    have m8 : ∀ e ∈ R4, e ∈ led23 := fun e he => by rw [hled23]; repeat (first | exact he | apply List.Mem.tail)
    refine LCt.CompSrcT.range (n := n) rfl F23 N24 hR23 (small8 _ (by exact (Nat.lt_of_le_of_lt hn5 (by decide)))) (size8 _) (by rw [PySem.sizeLine_eq]; exact (q16 hn5 (by decide))) ?_
    intro g24
    refine compRestT_ind (HeadsInv ff n led23) ?_ ?_ _ 0 [] _ (Nat.zero_add _) ⟨[], rfl, rfl, Nat.zero_le _, fun _ h => h⟩
    · intro i ys news hi hv v I oI C oC D m₂ h tk E' hP hC hx F₁ N₁ off ne
      refine cps fun zG zk => ?_
      obtain ⟨ti, rfl⟩ := hP
      have hnw : ∀ e ∈ led23, e ∈ news := by obtain ⟨_, _, _, _, h⟩ := hv; exact h
      have x1 := hnw _ m3
      have x2 := hnw _ (m8 _ ml4)
      obtain ⟨y1, g2⟩ := ints_get hzl7 (k := (0 : Int) + (i : Int)) (by exact qz0) (by exact (qzl (qcl hi)))
      refine zk ?_
      clear zk zG
      rw [show ((0 : Int) + (i : Int)).toNat = i by exact qzi] at g2
      have g3 : (zl.map intV)[((0 : Int) + (i : Int)).toNat]? = some (.int (ff i) y1) := by rw [show ((0 : Int) + (i : Int)).toNat = i by exact qzi]; exact g2
      ((try clear g2))
      rename_i z21_1
      revert X1 codeHd hn2 hn5 hl4 hr2 e3' hi hv hC F₁ N₁ off hx x1 x2 g3
      exact hP21.out ff h22 o3' z21_1 h23 tk23 led23 g24 i ys news I oI C oC D m₂ h tk E' ti y1
    · intro ys news hv
      refine cps fun zG zk => ?_
      obtain ⟨hs, rfl, hs1, -, hnw⟩ := hv
      refine zk ?_
      clear zk zG
      unfold LCg.FinE
      intro D8 h25 tk25 F25 N25 o25
      refine cps fun zG zk => ?_
      obtain ⟨R5, N26, i1, j1, j2, j3, j4, j5, j6, j7⟩ := split7 N25 (fun c hc => .tail _ (hnw c (hfix7 c hc))) e1 e2 e3' e4' e5' e6' rfl
      refine zk ?_
      clear zk zG
      have mh : (D8, LCg.lst (hs.map intV)) ∈ R5 := i1 _ (.head _) rfl
      have hR45 : ∀ e ∈ R4, isSeq e.2 = true → e ∈ R5 := fun e he hs => i1 e (.tail _ (hnw e (m8 e he))) hs
      have ml5 := hR45 _ ml4 rfl
      have ma5 := hR45 _ ma4 rfl
      have mr5 := hR45 _ mr4 rfl
      have mz5 := hR45 _ mz4 rfl
      have hR5 : ∀ r ∈ rs, RIn rs.length R5 r := fun r hr => (hR4 r hr).seq hR45
      ((try clear j7'); (try clear j6'); (try clear j5'); (try clear j4'); (try clear j3'); (try clear j2'); (try clear j1'); (try clear hR4); (try clear mz4); (try clear mr4); (try clear ma4); (try clear ml4); (try clear F23); (try clear F22); (try clear N22); (try clear N23); (try clear N24); (try clear hled23); (try clear m8); (try clear m3); (try clear hfix7); (try clear hnw); (try clear hR45); (try clear i1))
      revert hg e1 e2 X1 T1 K1 codeHd l0 hI' z0 hn2 hn5 e6' e5' hl4 hr2 hna1 hna5 e4' ha1 hbgn hfin hsen hfst hff hzl7 hfix e3' hs1 F25 N26 j1 j2 mh ml5 ma5 mr5 mz5 hR5
      exact hP22.out ff h22 o3' tk h23 tk23 g24 hs D8 h25 tk25 R5
end z201
end z15
end z14
end z13
end z12
end z200
end z3
end z2
end z1
end law

namespace law
namespace z1
namespace z2
namespace z3
namespace z200
namespace z12
namespace z13
namespace z14
namespace z15
namespace z201
namespace z21
noncomputable def zc := eps (α := (Nat → Nat) × (Heap) × (Obj) × (Nat) × (Heap) × (Nat) × (List (Addr × Obj)) × (Heap) × (Nat) × (List Value) × (List (Addr × Obj)) × (Addr) × (Obj) × (Addr) × (Obj) × (Addr) × (Str → Option Value) × (Heap) × (Nat) × (Value → Shared → Prop) × (Tok) × (Tok)) ⟨(fun _ => default), {}, default, default, {}, default, default, {}, default, default, default, default, default, default, default, default, (fun _ => default), {}, default, (fun _ _ => True), default, default⟩ (fun c => zpart201.1.1 c.1 c.2.1 c.2.2.1 c.2.2.2.1 c.2.2.2.2.1 c.2.2.2.2.2.1 c.2.2.2.2.2.2.1 c.2.2.2.2.2.2.2.1 c.2.2.2.2.2.2.2.2.1 c.2.2.2.2.2.2.2.2.2.1 c.2.2.2.2.2.2.2.2.2.2.1 c.2.2.2.2.2.2.2.2.2.2.2.1 c.2.2.2.2.2.2.2.2.2.2.2.2.1 c.2.2.2.2.2.2.2.2.2.2.2.2.2.1 c.2.2.2.2.2.2.2.2.2.2.2.2.2.2.1 c.2.2.2.2.2.2.2.2.2.2.2.2.2.2.2.1 c.2.2.2.2.2.2.2.2.2.2.2.2.2.2.2.2.1 c.2.2.2.2.2.2.2.2.2.2.2.2.2.2.2.2.2.1 c.2.2.2.2.2.2.2.2.2.2.2.2.2.2.2.2.2.2.1 c.2.2.2.2.2.2.2.2.2.2.2.2.2.2.2.2.2.2.2.1 c.2.2.2.2.2.2.2.2.2.2.2.2.2.2.2.2.2.2.2.2.1 c.2.2.2.2.2.2.2.2.2.2.2.2.2.2.2.2.2.2.2.2.2)
@[irreducible] noncomputable def ff := zc.1.1
@[irreducible] noncomputable def h22 := zc.1.2.1
@[irreducible] noncomputable def o3' := zc.1.2.2.1
@[irreducible] noncomputable def z21_1 := zc.1.2.2.2.1
@[irreducible] noncomputable def h23 := zc.1.2.2.2.2.1
@[irreducible] noncomputable def tk23 := zc.1.2.2.2.2.2.1
@[irreducible] noncomputable def led23 := zc.1.2.2.2.2.2.2.1
@[irreducible] noncomputable def g24 := zc.1.2.2.2.2.2.2.2.1
@[irreducible] noncomputable def i := zc.1.2.2.2.2.2.2.2.2.1
@[irreducible] noncomputable def ys := zc.1.2.2.2.2.2.2.2.2.2.1
@[irreducible] noncomputable def news := zc.1.2.2.2.2.2.2.2.2.2.2.1
@[irreducible] noncomputable def I := zc.1.2.2.2.2.2.2.2.2.2.2.2.1
@[irreducible] noncomputable def oI := zc.1.2.2.2.2.2.2.2.2.2.2.2.2.1
@[irreducible] noncomputable def C := zc.1.2.2.2.2.2.2.2.2.2.2.2.2.2.1
@[irreducible] noncomputable def oC := zc.1.2.2.2.2.2.2.2.2.2.2.2.2.2.2.1
@[irreducible] noncomputable def D := zc.1.2.2.2.2.2.2.2.2.2.2.2.2.2.2.2.1
@[irreducible] noncomputable def m₂ := zc.1.2.2.2.2.2.2.2.2.2.2.2.2.2.2.2.2.1
@[irreducible] noncomputable def h := zc.1.2.2.2.2.2.2.2.2.2.2.2.2.2.2.2.2.2.1
@[irreducible] noncomputable def tk := zc.1.2.2.2.2.2.2.2.2.2.2.2.2.2.2.2.2.2.2.1
@[irreducible] noncomputable def E' := zc.1.2.2.2.2.2.2.2.2.2.2.2.2.2.2.2.2.2.2.2.1
@[irreducible] noncomputable def ti := zc.1.2.2.2.2.2.2.2.2.2.2.2.2.2.2.2.2.2.2.2.2.1
@[irreducible] noncomputable def y1 := zc.1.2.2.2.2.2.2.2.2.2.2.2.2.2.2.2.2.2.2.2.2.2
end z21
end z201
end z15
end z14
end z13
end z12
end z200
end z3
end z2
end z1
end law

namespace law
namespace z1
namespace z2
namespace z3
namespace z200
namespace z12
namespace z13
namespace z14
namespace z15
namespace z201
namespace z21
theorem zat : zpart201.1.1 ff h22 o3' z21_1 h23 tk23 led23 g24 i ys news I oI C oC D m₂ h tk E' ti y1 := by
  intro X1 codeHd hn2 hn5 hl4 hr2 e3' hi hv hC F₁ N₁ off hx x1 x2 g3
  repeat' (first | (k_unfold; (try dsimp only)) | (k_end; kc_close) | (first | with_reducible ((with_reducible show wpAny _ _ (subscriptTail (Expr.Name ..) (Expr.Name ..) (Value.ref _) (Value.int ..)) _ _ _); k_here; (with_reducible show wpAny _ _ (subscriptTail _ _ (Value.ref _) (Value.int _ _)) _ _ _); (with_unfolding_all refine' item_litK ?k1x105 ?k2x105 ?k3x105 ?k4x105 ?_ ?k6x105; (case k1x105 => refine News.isList (by k_asm) (by k_mem)); (case k4x105 => with_reducible assumption); (case k2x105 => exact qz0); (case k3x105 => exact (qzl (qib (Nat.le_of_lt hi) (q1k hn5 (by decide))))); (case k6x105 => with_unfolding_all rfl); k_whole)) | with_reducible ((with_reducible show LCg.CompEnd ..); k_dflt (refine stop_ ?_)) | walk1) | (dsimp only; walk1) | (leave1; (try dsimp only)))
  · unfold Stop
    rename (_ : Int) = 0 + (_ : Int) => hq
    exact LCg.CompEnd.intro F₁ N₁ news (fun e he => he) off trivial (hv.keep hi (by exact (qze hq)) (by exact qzz))
  · unfold Stop
    rename (_ : Int) ≠ 0 + (_ : Int) => hq
    exact LCg.CompEnd.intro F₁ N₁ news (fun e he => he) off trivial (hv.pass hi (by exact (qzn hq)))
end z21
end z201
end z15
end z14
end z13
end z12
end z200
end z3
end z2
end z1
end law

namespace law
namespace z1
namespace z2
namespace z3
namespace z200
namespace z12
namespace z13
namespace z14
namespace z15
namespace z201
namespace z21
theorem zall : ∀ ff h22 o3' z21_1 h23 tk23 led23 g24 i ys news I oI C oC D m₂ h tk E' ti y1, zpart201.1.1 ff h22 o3' z21_1 h23 tk23 led23 g24 i ys news I oI C oC D m₂ h tk E' ti y1 := fun ff h22 o3' z21_1 h23 tk23 led23 g24 i ys news I oI C oC D m₂ h tk E' ti y1 => @epsH _ _ zc (by with_unfolding_all exact zat) (ff, h22, o3', z21_1, h23, tk23, led23, g24, i, ys, news, I, oI, C, oC, D, m₂, h, tk, E', ti, y1)
end z21
end z201
end z15
end z14
end z13
end z12
end z200
end z3
end z2
end z1
end law

namespace law
namespace z1
namespace z2
namespace z3
namespace z200
namespace z12
namespace z13
namespace z14
namespace z15
namespace z201
namespace z22
noncomputable def zc := eps (α := (Nat → Nat) × (Heap) × (Obj) × (Nat) × (Heap) × (Nat) × (Heap) × (List (Int × Tok)) × (Addr) × (Heap) × (Nat) × (List (Addr × Obj))) ⟨(fun _ => default), {}, default, default, {}, default, {}, default, default, {}, default, default⟩ (fun c => zpart201.1.2 c.1 c.2.1 c.2.2.1 c.2.2.2.1 c.2.2.2.2.1 c.2.2.2.2.2.1 c.2.2.2.2.2.2.1 c.2.2.2.2.2.2.2.1 c.2.2.2.2.2.2.2.2.1 c.2.2.2.2.2.2.2.2.2.1 c.2.2.2.2.2.2.2.2.2.2.1 c.2.2.2.2.2.2.2.2.2.2.2)
@[irreducible] noncomputable def ff := zc.1.1
@[irreducible] noncomputable def h22 := zc.1.2.1
@[irreducible] noncomputable def o3' := zc.1.2.2.1
@[irreducible] noncomputable def tk := zc.1.2.2.2.1
@[irreducible] noncomputable def h23 := zc.1.2.2.2.2.1
@[irreducible] noncomputable def tk23 := zc.1.2.2.2.2.2.1
@[irreducible] noncomputable def g24 := zc.1.2.2.2.2.2.2.1
@[irreducible] noncomputable def hs := zc.1.2.2.2.2.2.2.2.1
@[irreducible] noncomputable def D8 := zc.1.2.2.2.2.2.2.2.2.1
@[irreducible] noncomputable def h25 := zc.1.2.2.2.2.2.2.2.2.2.1
@[irreducible] noncomputable def tk25 := zc.1.2.2.2.2.2.2.2.2.2.2.1
@[irreducible] noncomputable def R5 := zc.1.2.2.2.2.2.2.2.2.2.2.2
end z22
end z201
end z15
end z14
end z13
end z12
end z200
end z3
end z2
end z1
end law

namespace law
namespace z1
namespace z2
namespace z3
namespace z200
namespace z12
namespace z13
namespace z14
namespace z15
namespace z201
namespace z22
noncomputable def zpart22 : { R : ((Addr) → (Addr) → (Obj) → (Heap) → (Nat) → (List (Addr × Obj)) → Prop) // Hide (∀ ll Dt o2' h31 tk rest6, R ll Dt o2' h31 tk rest6) → zpart201.1.2 ff h22 o3' tk h23 tk23 g24 hs D8 h25 tk25 R5 } := by
  refine' ⟨_, fun hP202 => ?main⟩
  case main =>
    intro hg e1 e2 X1 T1 K1 codeHd l0 hI' z0 hn2 hn5 e6' e5' hl4 hr2 hna1 hna5 e4' ha1 hbgn hfin hsen hfst hff hzl7 hfix e3' hs1 F25 N26 j1 j2 mh ml5 ma5 mr5 mz5 hR5
    repeat' (first | (k_unfold; (try dsimp only)) | (k_end; kc_close) | (first | with_reducible ((with_reducible show wpAny _ _ (pyIter (Value.ref _)) _ _ _); k_dflt (refine stop_ ?_)) | walk1) | (dsimp only; walk1) | (leave1; (try dsimp only)))
    unfold Stop
    rename_i ll h27 hT27 l27 Dt h28 hT28 l28 h29 h30 o2' e2' h31 F31 N31
    have ofl : ∀ e ∈ R5, @Ne Nat e.1 ll := fun e he => Nat.ne_of_lt (Lts.at hT27 he)
    refine cps fun zG zk => ?_
    obtain ⟨rest6, hrest6⟩ : ∃ r : List (Addr × Obj), r = (L0 + 1 + 1 + 1 + 1 + 1, o2') :: (L0 + 1 + 1 + 1 + 1, o3') :: (L0 + 1 + 1 + 1, o4') :: (L0 + 1 + 1, o5') :: (L0 + 1, o6') :: (422, tabObj #[]) :: R5 := ⟨_, rfl⟩
    refine zk ?_
    clear zk zG
    have N32 : News g0 L0 h31 ((ll, W.listOf #[] 0) :: (L0 + 1 + 1 + 1 + 1 + 1 + 1, o1) :: rest6) := news_sub N31 fun e he => by
      rw [hrest6] at he
      simp only [List.mem_cons] at he ⊢
      grind
    have of1 : ∀ e ∈ rest6, @Ne Nat e.1 ll := by
      rw [hrest6]
      simp only [List.forall_mem_cons]
      refine ⟨?_, ?_, ?_, ?_, ?_, ?_, ofl⟩ <;> (first | exact (qne (And.left (And.right l27))) | exact (qne (And.left (And.right (And.right l27)))) | exact (qne (And.left (And.right (And.right (And.right l27))))) | exact (qne (And.left (And.right (And.right (And.right (And.right l27)))))) | exact (qne (And.left (And.right (And.right (And.right (And.right (And.right l27))))))) | exact (qne (And.left (And.right (And.right (And.right (And.right (And.right (And.right l27)))))))) | omega)
    have of2 : ∀ e ∈ rest6, @Ne Nat e.1 (L0 + 1 + 1 + 1 + 1 + 1 + 1) := by
      rw [hrest6]
      simp only [List.forall_mem_cons]
      refine ⟨?_, ?_, ?_, ?_, ?_, ?_, j1⟩ <;> (first | exact qn1 | exact qn2 | exact qn3 | exact qn4 | exact qn5 | exact (qne (ql3 (ql3 l0))) | omega)
    have of3 : @Ne Nat (L0 + 1 + 1 + 1 + 1 + 1 + 1) ll := by exact (qne (And.left l27))
    have hR56 : ∀ e ∈ R5, e ∈ rest6 := fun e he => by rw [hrest6]; repeat (first | exact he | apply List.Mem.tail)
    have x2 : (L0 + 1 + 1 + 1 + 1 + 1, o2') ∈ rest6 := by rw [hrest6]; repeat (first | exact List.Mem.head _ | apply List.Mem.tail)
    have x3 : (L0 + 1 + 1 + 1 + 1, o3') ∈ rest6 := by rw [hrest6]; repeat (first | exact List.Mem.head _ | apply List.Mem.tail)
    have x4 : (L0 + 1 + 1 + 1, o4') ∈ rest6 := by rw [hrest6]; repeat (first | exact List.Mem.head _ | apply List.Mem.tail)
    have x5 : (L0 + 1 + 1, o5') ∈ rest6 := by rw [hrest6]; repeat (first | exact List.Mem.head _ | apply List.Mem.tail)
    have x6 : (L0 + 1, o6') ∈ rest6 := by rw [hrest6]; repeat (first | exact List.Mem.head _ | apply List.Mem.tail)
    have x7 : (422, tabObj #[]) ∈ rest6 := by rw [hrest6]; repeat (first | exact List.Mem.head _ | apply List.Mem.tail)
    have y1 := hR56 _ mh
    have y2 := hR56 _ ml5
    have y3 := hR56 _ ma5
    have y4 := hR56 _ mr5
    have y5 := hR56 _ mz5
    have hR6 : ∀ r ∈ rs, RIn rs.length rest6 r := fun r hr => (hR5 r hr).mono hR56
    ((try clear j7); (try clear j6); (try clear j5); (try clear j4); (try clear j3); (try clear j2); (try clear j1); (try clear ofl); (try clear mz5); (try clear mr5); (try clear ma5); (try clear ml5); (try clear mh); (try clear N31); (try clear hrest6); (try clear hR5); (try clear hR56))
    replace F31 := fr_name (fr_name (fr_name (fr_name (fr_name F31 (x := Str.ofString "second") (v := .int se _) rfl) (x := Str.ofString "first") (v := .int fi _) rfl) (x := Str.ofString "begin") (v := .int bg _) rfl) (x := Str.ofString "answers") (v := .ref D6) rfl) (x := Str.ofString "less") (v := .ref ll) rfl


    revert hg e1 X1 T1 K1 codeHd l0 hI' z0 hn2 hn5 e6' e5' hl4 hr2 hna1 hna5 e4' ha1 hbgn hfin hsen hfst hff hzl7 hfix e3' hs1 l27 e2' N32 of1 of2 of3 x2 x3 x4 x5 x6 x7 y1
      y2 y3 y4 y5 hR6 F31
    exact hP202.out ll Dt o2' h31 tk rest6
end z22
end z201
end z15
end z14
end z13
end z12
end z200
end z3
end z2
end z1
end law
end
example : True := by w_top off; (try walk1); trivial
section
open PySem PySem.W PyProof.Rows PySem.Calls PySem.Spec
set_option Elab.async false
set_option maxRecDepth 100000
set_option maxHeartbeats 1000000
example : kdef.heap_1 = kdef.heap_1 ∧ PySem.Challenge.rw_xm0939_01 = PySem.Challenge.rw_xm0939_01 := by
  k_fill
  exact ⟨rfl, rfl⟩

local macro_rules | `(tactic| walk_at "CompSrcT") => `(tactic| (k_dflt (refine stop_ ?_)))
/-- what stands between two turns of the law's for -/
structure LessAt (rs : List RRec) (ff : Nat → Nat) (hds : List Nat) (qs : List RRec) : Prop where
  at' : ∀ (j : Nat) (q : RRec), qs[j]? = some q → ∃ (c : Nat) (u : RRec) (x : Nat), hds[j]? = some x ∧ c < rs.length ∧ ff c = x ∧ rs[c]? = some u ∧ q.l = u.l ∧ q.a = (hds.idxOf (ff u.a.toNat) : Nat) ∧ q.b = (hds.idxOf (ff u.b.toNat) : Nat)
theorem LessAt.nil {rs : List RRec} {ff : Nat → Nat} {hds : List Nat} : LessAt rs ff hds [] := ⟨fun j q h => by simp at h⟩
theorem LessAt.snoc {rs : List RRec} {ff : Nat → Nat} {hds : List Nat} {qs : List RRec} (h : LessAt rs ff hds qs) {q : RRec} (x : ∃ (c : Nat) (u : RRec) (x : Nat), hds[qs.length]? = some x ∧ c < rs.length ∧ ff c = x ∧ rs[c]? = some u ∧ q.l = u.l ∧ q.a = (hds.idxOf (ff u.a.toNat) : Nat) ∧ q.b = (hds.idxOf (ff u.b.toNat) : Nat)) : LessAt rs ff hds (qs ++ [q]) := ⟨fun j q' e => by
  rcases Nat.lt_trichotomy j qs.length with hk | hk | hk
  · rw [List.getElem?_append_left hk] at e; exact h.at' j q' e
  · subst hk
    rw [List.getElem?_append_right (Nat.le_refl _), Nat.sub_self] at e
    cases e; exact x
  · rw [List.getElem?_eq_none (by rw [List.length_append, List.length_singleton]; exact hk)] at e; cases e⟩
def ForInv (L0 ll D6 I : Addr) (vb vf vs : Value) (rs : List RRec) (ff : Nat → Nat) (hds : List Nat) (rest : List (Addr × Obj)) (i : Nat) (m : Str → Option Value) (n : List (Addr × Obj)) : Prop :=
  ∃ (qs : List RRec) (k : Nat) (oh : Obj) (vh : Option Value) (rest' : List (Addr × Obj)), n = (ll, W.listOf (qs.map fun r => Value.ref r.ad).toArray k) :: (L0 + 1 + 1 + 1 + 1 + 1 + 1, oh) :: rest' ∧ qs.length = i ∧ oh.data = .cell vh ∧ LessAt rs ff hds qs ∧ (∀ r ∈ qs, RIn hds.length rest' r) ∧
    (∀ e ∈ rest, e ∈ rest') ∧ (∀ e ∈ rest', @Ne Nat e.1 ll) ∧ (∀ e ∈ rest', @Ne Nat e.1 (L0 + 1 + 1 + 1 + 1 + 1 + 1)) ∧ (∀ e ∈ rest', @Ne Nat e.1 I) ∧ m (Str.ofString "less") = some (.ref ll) ∧ m (Str.ofString "answers") = some (.ref D6) ∧ m (Str.ofString "begin") = some vb ∧ m (Str.ofString "first") = some vf ∧ m (Str.ofString "second") = some vs
def OwnInv (rs : List RRec) (ff : Nat → Nat) (n hd : Nat) (led : List (Addr × Obj)) (i : Nat) (ys : List Value) (news : List (Addr × Obj)) : Prop :=
  ∃ us : List RRec, ys = us.map (fun r => .ref r.ad) ∧ (∀ u ∈ us, ∃ c, c < n ∧ ff c = hd ∧ rs[c]? = some u) ∧ (hd < i → us ≠ []) ∧ us.length ≤ i ∧ i ≤ n ∧ ∀ e ∈ led, e ∈ news
theorem OwnInv.keep {rs : List RRec} {ff : Nat → Nat} {n hd i : Nat} {led news : List (Addr × Obj)} {ys : List Value} {u : RRec} (h : OwnInv rs ff n hd led i ys news) (hi : i < n) (hf : ff i = hd) (hu : rs[i]? = some u) : OwnInv rs ff n hd led (i + 1) (ys ++ [.ref u.ad]) news := by
  refine cps fun zG zk => ?_
  obtain ⟨us, rfl, h2, h3, h5, -, h4⟩ := h
  refine zk ?_
  clear zk zG
  refine ⟨us ++ [u], by rw [List.map_append]; rfl, fun w hw => ?_, fun _ => by simp, by rw [List.length_append, List.length_singleton]; exact (qp1 h5), hi, h4⟩
  rcases List.mem_append.mp hw with hw | hw
  · exact h2 w hw
  · rw [List.mem_singleton.mp hw]; exact ⟨i, hi, hf, hu⟩
theorem OwnInv.pass {rs : List RRec} {ff : Nat → Nat} {n hd i : Nat} {led news : List (Addr × Obj)} {ys : List Value} (h : OwnInv rs ff n hd led i ys news) (hi : i < n) (hf : ff i ≠ hd) (hid : ff hd = hd) : OwnInv rs ff n hd led (i + 1) ys news := by
  refine cps fun zG zk => ?_
  obtain ⟨us, rfl, h2, h3, h5, -, h4⟩ := h
  refine zk ?_
  clear zk zG
  refine ⟨us, rfl, h2, fun hlt => h3 ?_, by exact (qles h5), hi, h4⟩
  rcases Nat.lt_or_ge hd i with h | h
  · exact h
  · have : hd = i := by exact (Nat.le_antisymm (qs3 hlt) h)
    subst this; exact absurd hid hf
theorem resplitA {g h : Heap} {L : Addr} {all : List (Addr × Obj)} (cs : List (Addr × Obj)) (N : News g L h all) (hc : ∀ c ∈ cs, c ∈ all) :
    ∃ R, News g L h (cs ++ R) ∧ (∀ e ∈ all, (∀ c ∈ cs, @Ne Nat e.1 c.1) → e ∈ R) ∧ ∀ c ∈ cs, ∀ e ∈ R, @Ne Nat e.1 c.1 := by
  refine ⟨all.filter (fun e => cs.all (fun c => e.1 != c.1)), fun e he => ?_, fun e he hn => List.mem_filter.mpr ⟨he, List.all_eq_true.mpr fun c hcs => by simpa using hn c hcs⟩, fun c hcs e he e1 => ?_⟩
  · rcases List.mem_append.mp he with he | he
    · exact N _ (hc e he)
    · exact N _ (List.mem_filter.mp he).1
  · have := List.all_eq_true.mp (List.mem_filter.mp he).2 c hcs
    simp only [bne_iff_ne, ne_eq] at this
    exact this e1
theorem idxOf_ofNat (x : Nat) : ∀ (l : List Nat), (l.map Int.ofNat).idxOf (x : Int) = l.idxOf x
  | [] => rfl
  | a :: l => by
    rw [List.map_cons, List.idxOf_cons, List.idxOf_cons, idxOf_ofNat x l]
    have : (Int.ofNat a == (x : Int)) = (a == x) := by
      by_cases h : a = x
      · subst h; simp
      · have : ¬ (Int.ofNat a = (x : Int)) := fun e => h (Int.ofNat.inj e)
        rw [beq_eq_false_iff_ne.mpr this, beq_eq_false_iff_ne.mpr h]
    rw [this]
theorem less_made {g h : Heap} {L T ll L6 I : Addr} {l i1 i2 : Int} {t1 t2 t3 : Tok} {qs : List RRec} {k : Nat} {oh oI : Obj} {R : List (Addr × Obj)}
    (N : News g L h ((T, tup [.int l t1, .int i1 t2, .int i2 t3]) :: (ll, W.listOf (qs.map (fun r => Value.ref r.ad) ++ [Value.ref T]).toArray k) :: (L6, oh) :: (I, oI) :: R)) (h1 : @LT.lt Nat _ ll T) (h2 : @LT.lt Nat _ L6 T) (h3 : @LT.lt Nat _ I T) :
    ∃ (q : RRec) (new : List (Addr × Obj)), q.l = l ∧ q.a = i1 ∧ q.b = i2 ∧ (q.ad, tup [.int q.l q.t1, .int q.a q.t2, .int q.b q.t3]) ∈ new ∧
      News g L h ([(I, oI)] ++ ((ll, W.listOf ((qs ++ [q]).map fun r => Value.ref r.ad).toArray k) :: (L6, oh) :: (new ++ R))) ∧ ∀ e ∈ new, @Ne Nat e.1 ll ∧ @Ne Nat e.1 L6 ∧ @Ne Nat e.1 I := by
  refine ⟨⟨T, l, i1, i2, t1, t2, t3⟩, [(T, tup [.int l t1, .int i1 t2, .int i2 t3])], rfl, rfl, rfl, .head _, news_sub N ?_, ?_⟩
  · rw [List.map_append]
    intro e he
    simp only [List.cons_append, List.nil_append, List.map_cons, List.map_nil, List.mem_cons] at he ⊢
    grind
  · simp only [List.forall_mem_cons, List.not_mem_nil, false_implies, implies_true, and_true]
    exact ⟨Nat.ne_of_gt h1, Nat.ne_of_gt h2, Nat.ne_of_gt h3⟩
namespace law
namespace z1
namespace z2
namespace z3
namespace z200
namespace z12
namespace z13
namespace z14
namespace z15
namespace z201
namespace z22
namespace z202
noncomputable def zc := eps (α := (Addr) × (Addr) × (Obj) × (Heap) × (Nat) × (List (Addr × Obj))) ⟨default, default, default, {}, default, default⟩ (fun c => zpart22.1 c.1 c.2.1 c.2.2.1 c.2.2.2.1 c.2.2.2.2.1 c.2.2.2.2.2)
@[irreducible] noncomputable def ll := zc.1.1
@[irreducible] noncomputable def Dt := zc.1.2.1
@[irreducible] noncomputable def o2' := zc.1.2.2.1
@[irreducible] noncomputable def h31 := zc.1.2.2.2.1
@[irreducible] noncomputable def tk := zc.1.2.2.2.2.1
@[irreducible] noncomputable def rest6 := zc.1.2.2.2.2.2
end z202
end z22
end z201
end z15
end z14
end z13
end z12
end z200
end z3
end z2
end z1
end law

namespace law
namespace z1
namespace z2
namespace z3
namespace z200
namespace z12
namespace z13
namespace z14
namespace z15
namespace z201
namespace z22
namespace z202
noncomputable def zpart202 : { R : ((Addr) → Prop) // Hide (∀ I, R I) → zpart22.1 ll Dt o2' h31 tk rest6 } := by
  refine' ⟨_, fun hP31 => ?main⟩
  case main =>
    intro hg e1 X1 T1 K1 codeHd l0 hI' z0 hn2 hn5 e6' e5' hl4 hr2 hna1 hna5 e4' ha1 hbgn hfin hsen hfst hff hzl7 hfix e3' hs1 l27 e2' N32 of1 of2 of3 x2 x3 x4 x5 x6 x7 y1
      y2 y3 y4 y5 hR6 F31
    have hcan : (machR rs).Canon ff := by rw [← hff]; exact (machR rs).iter_canon kk
    refine iter_listTurns (by rfl) F31 N32 (.tail _ (.tail _ y1)) rfl rfl ?_
    intro I lI
    k_lt lI
    rename_i z31_1
    revert hg e1 X1 T1 K1 codeHd l0 hI' z0 hn2 hn5 e6' e5' hl4 hr2 hna1 hna5 e4' ha1 hbgn hfin hsen hfst hff hzl7 hfix e3' hs1 l27 e2' of1 of2 of3 x2 x3 x4 x5 x6 x7 y1 y2
      y3 y4 y5 hR6 hcan z31_1 lI
    exact hP31.out I
end z202
end z22
end z201
end z15
end z14
end z13
end z12
end z200
end z3
end z2
end z1
end law

namespace law
namespace z1
namespace z2
namespace z3
namespace z200
namespace z12
namespace z13
namespace z14
namespace z15
namespace z201
namespace z22
namespace z202
namespace z31
noncomputable def zc := eps (α := (Addr)) ⟨default⟩ zpart202.1
@[irreducible] noncomputable def I := zc.1
end z31
end z202
end z22
end z201
end z15
end z14
end z13
end z12
end z200
end z3
end z2
end z1
end law

namespace law
namespace z1
namespace z2
namespace z3
namespace z200
namespace z12
namespace z13
namespace z14
namespace z15
namespace z201
namespace z22
namespace z202
namespace z31
noncomputable def zpart31 : { R : ((Nat) → (Str → Option Value) → (Heap) → (Nat) → (List RRec) → (Nat) → (Obj) → (Option Value) → (List (Addr × Obj)) → (Tok) → (Nat) → (Obj) → Prop) × ((Str → Option Value) → (Heap) → (Nat) → (List RRec) → (Nat) → (Obj) → (List (Addr × Obj)) → Prop) // Hide (∀ i m₁ h₁ tk₁ qs k oh vh rest' th hd oI, R.1 i m₁ h₁ tk₁ qs k oh vh rest' th hd oI) → Hide (∀ m₁ h₁ tk₁ qs k oh rest', R.2 m₁ h₁ tk₁ qs k oh rest') → zpart202.1 I } := by
  refine' ⟨(_, _), fun hP32 hP35 => ?main⟩
  case main =>
    intro hg e1 X1 T1 K1 codeHd l0 hI' z0 hn2 hn5 e6' e5' hl4 hr2 hna1 hna5 e4' ha1 hbgn hfin hsen hfst hff hzl7 hfix e3' hs1 l27 e2' of1 of2 of3 x2 x3 x4 x5 x6 x7 y1 y2
      y3 y4 y5 hR6 hcan z31_1 lI
    refine itemsRest_ind (ForInv L0 ll D6 I _ _ _ rs ff ((List.range n).filter fun j => ff j == j) rest6) ?_ ?_ _ 0 _ _ rfl ⟨[], 0, o1, v1, rest6, rfl, rfl, e1, LessAt.nil, fun _ h => (nomatch h), fun e he => he, of1, of2, fun e he => Nat.ne_of_lt (Lts.at (by assumption) he), rfl, rfl, rfl, rfl, rfl⟩ (Nat.zero_le _)
    · intro i a m₁ n₁ hx hv v h₁ tk₁ hav F₁
      refine cps fun zG zk => ?_
      obtain ⟨qs, k, oh, vh, rest', rfl, hq1, hoh, hless, hqin, hsub, of1', of2', of3', p1, p2, p3, p4, p5⟩ := hv
      refine zk ?_
      clear zk zG
      change Fr g0 L0 h₁ m₁ at F₁
      have hhs : (List.range n).filter (fun j => ff j == j) = (List.range n).filter (fun j => ff j == j) := rfl
      have hil : i < (hs.map intV).length := by
        have := (List.getElem?_eq_some_iff.mp hx).1
        simpa using this
      rw [List.length_map] at hil
      rw [List.getElem?_map, List.getElem?_map, List.getElem?_eq_getElem hil] at hx
      have hsi : (hs.map Prod.fst)[i]? = some hs[i].1 := by rw [List.getElem?_map, List.getElem?_eq_getElem hil]; rfl
      generalize hs[i] = hq at hx hsi
      refine cps fun zG zk => ?_
      obtain ⟨hd0, th⟩ := hq
      refine zk ?_
      clear zk zG
      rw [hs1, List.getElem?_map] at hsi
      refine cps fun zG zk => ?_
      obtain ⟨hd, hhd, hhde⟩ : ∃ hd, ((List.range n).filter fun j => ff j == j)[i]? = some hd ∧ hd0 = (hd : Int) := by
        cases hh : ((List.range n).filter fun j => ff j == j)[i]? with
        | none => rw [hh] at hsi; cases hsi
        | some x => rw [hh] at hsi; cases hsi; exact ⟨x, rfl, rfl⟩
      refine zk ?_
      clear zk zG
      subst hhde
      have hdm := List.mem_filter.mp (List.mem_of_getElem? hhd)
      have hdn : hd < n := List.mem_range.mp hdm.1
      have hdf : ff hd = hd := by simpa using hdm.2
      cases hx
      change v = .int hd th at hav
      subst hav
      refine AllObj.cons fun oI hoI => AllObj.nil fun N₁ => ?_
      have F₂ := fr_name F₁ p5
      have F₃ := fr_name (x := Str.ofString "first") F₂ p4
      have F₄ := fr_name (x := Str.ofString "begin") F₃ p3
      have F₅ := fr_name (x := Str.ofString "answers") F₄ p2
      have F₆ := fr_name (x := Str.ofString "less") F₅ p1
      ((try clear F₅); (try clear F₄); (try clear F₃); (try clear F₂); (try clear F₁))
      simp only [List.cons_append, List.nil_append] at N₁
      have z2 := hsub _ x2
      have z3 := hsub _ x3
      have z4 := hsub _ x4
      have z5 := hsub _ x5
      have z6 := hsub _ x6
      have w1 := hsub _ y1
      have w2 := hsub _ y2
      have w4 := hsub _ y4
      have w5 := hsub _ y5
      revert X1 T1 codeHd z0 hn2 hn5 e6' e5' hl4 hr2 e4' hzl7 e3' hs1 l27 e2' of3 hR6 hcan lI hq1 hoh hless hqin hsub of1' of2' of3' hhd hdn hdf N₁ F₆ z2 z3 z4 z5 z6 w1 w2
        w4 w5
      exact hP32.out i m₁ h₁ tk₁ qs k oh vh rest' th hd oI
    · intro m₁ n₁ hv h₁ tk₁ F₁ N₁
      refine cps fun zG zk => ?_
      obtain ⟨qs, k, oh, vh, rest', rfl, hq1, hoh, hless, hqin, hsub, of1', of2', of3', p1, p2, p3, p4, p5⟩ := hv
      refine zk ?_
      clear zk zG
      change Fr g0 L0 h₁ m₁ at F₁
      have F₂ := fr_name F₁ p5
      have F₃ := fr_name (x := Str.ofString "first") F₂ p4
      have F₄ := fr_name (x := Str.ofString "begin") F₃ p3
      have F₅ := fr_name (x := Str.ofString "answers") F₄ p2
      have F₆ := fr_name (x := Str.ofString "less") F₅ p1
      ((try clear p5); (try clear p4); (try clear p3); (try clear p2); (try clear p1); (try clear F₅); (try clear F₄); (try clear F₃); (try clear F₂); (try clear F₁))
      replace hq1 : qs.length = ((List.range n).filter fun j => ff j == j).length := by
        rw [hq1, List.length_map, List.length_map]
        have := congrArg List.length hs1
        simpa using this
      replace x2 := hsub _ x2
      replace x3 := hsub _ x3
      replace x4 := hsub _ x4
      replace x5 := hsub _ x5
      replace x6 := hsub _ x6
      replace x7 := hsub _ x7
      replace y1 := hsub _ y1
      replace y2 := hsub _ y2
      replace y3 := hsub _ y3
      replace y4 := hsub _ y4
      replace y5 := hsub _ y5
      have hR7 : ∀ r ∈ rs, RIn rs.length rest' r := fun r hr => (hR6 r hr).mono hsub
      ((try clear N32); (try clear of2); (try clear of1); (try clear hR6); (try clear hsub))
      dsimp only
      revert hg X1 T1 K1 codeHd l0 hI' hn2 hn5 e5' hr2 hna1 hna5 e4' ha1 hbgn hfin hsen hfst hff hzl7 hfix e3' hs1 e2' hcan N₁ hless hqin F₆ hq1 x2 x3 x4 x5 x7 y1 y2 y3 y4
        y5 hR7
      exact hP35.out m₁ h₁ tk₁ qs k oh rest'
end z31
end z202
end z22
end z201
end z15
end z14
end z13
end z12
end z200
end z3
end z2
end z1
end law

namespace law
namespace z1
namespace z2
namespace z3
namespace z200
namespace z12
namespace z13
namespace z14
namespace z15
namespace z201
namespace z22
namespace z202
namespace z31
namespace z32
noncomputable def zc := eps (α := (Nat) × (Str → Option Value) × (Heap) × (Nat) × (List RRec) × (Nat) × (Obj) × (Option Value) × (List (Addr × Obj)) × (Tok) × (Nat) × (Obj)) ⟨default, (fun _ => default), {}, default, default, default, default, default, default, default, default, default⟩ (fun c => zpart31.1.1 c.1 c.2.1 c.2.2.1 c.2.2.2.1 c.2.2.2.2.1 c.2.2.2.2.2.1 c.2.2.2.2.2.2.1 c.2.2.2.2.2.2.2.1 c.2.2.2.2.2.2.2.2.1 c.2.2.2.2.2.2.2.2.2.1 c.2.2.2.2.2.2.2.2.2.2.1 c.2.2.2.2.2.2.2.2.2.2.2)
@[irreducible] noncomputable def i := zc.1.1
@[irreducible] noncomputable def m₁ := zc.1.2.1
@[irreducible] noncomputable def h₁ := zc.1.2.2.1
@[irreducible] noncomputable def tk₁ := zc.1.2.2.2.1
@[irreducible] noncomputable def qs := zc.1.2.2.2.2.1
@[irreducible] noncomputable def k := zc.1.2.2.2.2.2.1
@[irreducible] noncomputable def oh := zc.1.2.2.2.2.2.2.1
@[irreducible] noncomputable def vh := zc.1.2.2.2.2.2.2.2.1
@[irreducible] noncomputable def rest' := zc.1.2.2.2.2.2.2.2.2.1
@[irreducible] noncomputable def th := zc.1.2.2.2.2.2.2.2.2.2.1
@[irreducible] noncomputable def hd := zc.1.2.2.2.2.2.2.2.2.2.2.1
@[irreducible] noncomputable def oI := zc.1.2.2.2.2.2.2.2.2.2.2.2
end z32
end z31
end z202
end z22
end z201
end z15
end z14
end z13
end z12
end z200
end z3
end z2
end z1
end law

namespace law
namespace z1
namespace z2
namespace z3
namespace z200
namespace z12
namespace z13
namespace z14
namespace z15
namespace z201
namespace z22
namespace z202
namespace z31
namespace z32
noncomputable def zpart32 : { R : ((Heap) → (Obj) → (Nat) → (Heap) → (Nat) → (List (Addr × Obj)) → (Heap) → (Nat) → (List Value) → (List (Addr × Obj)) → (Addr) → (Obj) → (Addr) → (Obj) → (Addr) → (Str → Option Value) → (Heap) → (Nat) → (Value → Shared → Prop) → (Tok) → (RRec) → (Tok) → Prop) × ((Heap) → (Obj) → (Nat) → (Heap) → (Nat) → (Heap) → (List RRec) → (Addr) → (Heap) → (Nat) → (List (Addr × Obj)) → (RRec) → (Nat) → (Tok) → (Tok) → Prop) // Hide (∀ h32 oh' z33_1 h33 tk33 led33 g34 j ys news I2 oI2 C oC D m₂ h tk E' ti rj y1', R.1 h32 oh' z33_1 h33 tk33 led33 g34 j ys news I2 oI2 C oC D m₂ h tk E' ti rj y1') → Hide (∀ h32 oh' tk h33 tk33 g34 us D9 h35 tk35 R7 u c t91 t92, R.2 h32 oh' tk h33 tk33 g34 us D9 h35 tk35 R7 u c t91 t92) → zpart31.1.1 i m₁ h₁ tk₁ qs k oh vh rest' th hd oI } := by
  refine' ⟨(_, _), fun hP33 hP34 => ?main⟩
  case main =>
    intro X1 T1 codeHd z0 hn2 hn5 e6' e5' hl4 hr2 e4' hzl7 e3' hs1 l27 e2' of3 hR6 hcan lI hq1 hoh hless hqin hsub of1' of2' of3' hhd hdn hdf N₁ F₆ z2 z3 z4 z5 z6 w1 w2
      w4 w5
    k_steps
    unfold Stop
    rename_i h32 oh' F32 N32' eh' h33 tk33 t33 u33 v33 hR33 F33 N33 hk33
    refine cps fun zG zk => ?_
    obtain ⟨led33, hled33, N34⟩ := name_led N33
    refine zk ?_
    clear zk zG
    have q1 : ∀ e ∈ rest', e ∈ led33 := fun e he => by rw [hled33]; exact .tail _ (.tail _ (.tail _ he))
    have q2 : (L0 + 1 + 1 + 1 + 1 + 1 + 1, oh') ∈ led33 := by rw [hled33]; exact .tail _ (.tail _ (.head _))
    have q3 : (ll, W.listOf (qs.map fun r => Value.ref r.ad).toArray k) ∈ led33 := by rw [hled33]; exact .tail _ (.head _)
    have q4 : (I, oI) ∈ led33 := by rw [hled33]; exact .head _
    refine LCt.CompSrcT.range (n := n) rfl F33 N34 hR33 (small8 _ (by exact (Nat.lt_of_le_of_lt hn5 (by decide)))) (size8 _) (by rw [PySem.sizeLine_eq]; exact (q16 hn5 (by decide))) ?_
    intro g34
    refine compRestT_ind (OwnInv rs ff n hd led33) ?_ ?_ _ 0 [] _ (Nat.zero_add _) ⟨[], rfl, fun _ h => (nomatch h), fun h => absurd h (Nat.not_lt_zero _), Nat.le_refl _, Nat.zero_le _, fun _ h => h⟩
    · intro j ys news hj hv v I2 oI2 C oC D m₂ h tk E' hP hC hx F₁ N₁' off ne
      refine cps fun zG zk => ?_
      obtain ⟨ti, rfl⟩ := hP
      refine zk ?_
      clear zk zG
      have hnw : ∀ e ∈ led33, e ∈ news := by obtain ⟨_, _, _, _, _, _, h⟩ := hv; exact h
      have b1 := hnw _ q2
      have b2 := hnw _ (q1 _ z3)
      have b3 := hnw _ (q1 _ w2)
      have b4 := hnw _ (q1 _ z4)
      have b5 := hnw _ (q1 _ w4)
      have hjr : rs[j]? = some rs[j] := List.getElem?_eq_getElem (by exact (qlee hj hr2))
      generalize rs[j] = rj at hjr
      have e9 : ((0 : Int) + (j : Int)).toNat = j := by exact qzi
      refine cps fun zG zk => ?_
      obtain ⟨y1', g2⟩ := ints_get hzl7 (k := (0 : Int) + (j : Int)) (by exact qz0) (by exact (qzl (qcl hj)))
      refine zk ?_
      clear zk zG
      have g3 : (zl.map intV)[((0 : Int) + (j : Int)).toNat]? = some (.int (ff j) y1') := by rw [g2, e9]
      have g4 : (rs.map fun r => Value.ref r.ad)[((0 : Int) + (j : Int)).toNat]? = some (.ref rj.ad) := by rw [e9, List.getElem?_map, hjr]; rfl
      ((try clear g2))
      rename_i z33_1
      revert X1 codeHd hn2 hn5 hl4 hr2 e4' e3' hdf eh' hj hv hC F₁ N₁' off hx b1 b2 b3 b4 b5 hjr e9 g3 g4
      exact hP33.out h32 oh' z33_1 h33 tk33 led33 g34 j ys news I2 oI2 C oC D m₂ h tk E' ti rj y1'
    · intro ys news hv
      refine cps fun zG zk => ?_
      obtain ⟨us, rfl, hu1, hu2, hu3, -, hnw⟩ := hv
      refine zk ?_
      clear zk zG
      have hune : us ≠ [] := hu2 hdn
      unfold LCg.FinA
      intro D9 h35 tk35 F35 N35 o35
      have o35' := off1_ne o35
      refine cps fun zG zk => ?_
      obtain ⟨R7, N36, i1, i2⟩ := resplitA [(ll, W.listOf (qs.map fun r => Value.ref r.ad).toArray k), (L0 + 1 + 1 + 1 + 1 + 1 + 1, oh'), (I, oI)] N35 (by
        intro c hc
        simp only [List.mem_cons, List.not_mem_nil, or_false] at hc
        rcases hc with rfl | rfl | rfl
        · exact .tail _ (hnw _ q3)
        · exact .tail _ (hnw _ q2)
        · exact .tail _ (hnw _ q4))
      refine zk ?_
      clear zk zG
      have m9 : (D9, LCg.lst (us.map fun r => Value.ref r.ad)) ∈ R7 := i1 _ (.head _) (by
        intro c hc
        simp only [List.mem_cons, List.not_mem_nil, or_false] at hc
        rcases hc with rfl | rfl | rfl
        · exact Ne.symm (o35' _ (hnw _ q3))
        · exact Ne.symm (o35' _ (hnw _ q2))
        · exact Ne.symm (o35' _ (hnw _ q4)))
      have hr7 : ∀ e ∈ rest', e ∈ R7 := fun e he => i1 _ (.tail _ (hnw _ (q1 e he))) (by
        intro c hc
        simp only [List.mem_cons, List.not_mem_nil, or_false] at hc
        rcases hc with rfl | rfl | rfl
        · exact of1' e he
        · exact of2' e he
        · exact of3' e he)
      have k1 : ∀ e ∈ R7, @Ne Nat e.1 ll := i2 _ (.head _)
      have k2 : ∀ e ∈ R7, @Ne Nat e.1 (L0 + 1 + 1 + 1 + 1 + 1 + 1) := i2 _ (.tail _ (.head _))
      have k3 : ∀ e ∈ R7, @Ne Nat e.1 I := i2 _ (.tail _ (.tail _ (.head _)))
      simp only [List.cons_append, List.nil_append] at N36
      replace z2 := hr7 _ z2
      replace z3 := hr7 _ z3
      replace z6 := hr7 _ z6
      replace w1 := hr7 _ w1
      replace w2 := hr7 _ w2
      replace w5 := hr7 _ w5
      have hul : 0 < us.length := List.length_pos_iff.mpr hune
      have hu5 : us.length ≤ 5 := by exact (Nat.le_trans hu3 hn5)
      have hunz : (us.length : Int) ≠ 0 := by exact (qn0 hul)
      have hx0 : 0 ≤ (c0.fdiv 4).fmod (us.length : Int) := Int.fmod_nonneg_of_pos _ (by exact (qcp hul))
      have hx1 : (c0.fdiv 4).fmod (us.length : Int) < us.length := Int.fmod_lt_of_pos _ (by exact (qcp hul))
      refine cps fun zG zk => ?_
      obtain ⟨u, hug⟩ : ∃ u, us[((c0.fdiv 4).fmod (us.length : Int)).toNat]? = some u := ⟨_, List.getElem?_eq_getElem (by exact (qtl hx0 hx1))⟩
      have g5 : (us.map fun r => Value.ref r.ad)[((c0.fdiv 4).fmod (us.length : Int)).toNat]? = some (.ref u.ad) := by rw [List.getElem?_map, hug]; rfl
      obtain ⟨c, hcn, hfc, huc⟩ := hu1 u (List.mem_of_getElem? hug)
      obtain ⟨u1, u2, ⟨u3, u4⟩, u5, u6⟩ := hR6 u (List.mem_of_getElem? huc)
      refine zk ?_
      clear zk zG
      replace u1 := hr7 _ (hsub _ u1)
      rw [hr2] at u4 u6
      refine cps fun zG zk => ?_
      obtain ⟨t91, g6⟩ := ints_get hzl7 u3 u4
      obtain ⟨t92, g7⟩ := ints_get hzl7 u5 u6
      refine zk ?_
      clear zk zG
      have hmem : ∀ x, x < n → (ff x : Int) ∈ hs.map Prod.fst := fun x hxn => by
        have hxr : x < (machR rs).n := by show x < rs.length; exact (qlee hxn hr2)
        have h1 := hcan.le x hxr
        have h2 := hcan.idem x hxr
        rw [hs1]
        exact List.mem_map.mpr ⟨ff x, List.mem_filter.mpr ⟨List.mem_range.mpr (by exact (Nat.lt_of_le_of_lt h1 hxn)), by simpa using h2⟩, rfl⟩
      have hm91 := hmem u.a.toNat (by exact (qtl u3 u4))
      have hm92 := hmem u.b.toNat (by exact (qtl u5 u6))
      have hsl : hs.length ≤ 1000 := by
        have h1 := congrArg List.length hs1
        have h2 := List.length_filter_le (fun j => ff j == j) (List.range n)
        simp only [List.length_map, List.length_range] at h1 h2
        (first | exact (q1k (qele h1 h2) (q1k hn5 (by decide))) | exact (qele hq1 (Nat.le_of_lt (Nat.lt_of_lt_of_le h3 (Nat.le_trans h2 hn5)))) | omega)
      have hqn : qs.length ≤ 5 := by
        have h2 := List.length_filter_le (fun j => ff j == j) (List.range n)
        have h3 := (List.getElem?_eq_some_iff.mp hhd).1
        simp only [List.length_range] at h2
        (first | exact (q1k (qele h1 h2) (q1k hn5 (by decide))) | exact (qele hq1 (Nat.le_of_lt (Nat.lt_of_lt_of_le h3 (Nat.le_trans h2 hn5)))) | omega)
      ((try clear N₁); (try clear hnw); (try clear i2); (try clear i1); (try clear F33); (try clear N33); (try clear N34); (try clear N35))
      revert X1 T1 codeHd z0 hn2 hn5 e6' hl4 hr2 e3' hs1 e2' of3 hcan lI hq1 hless hqin hsub hhd eh' F35 N36 m9 hr7 k1 k2 k3 z2 z3 z6 w1 w2 w5 hul hu5 hunz hx0 hx1 g5 hcn
        hfc huc u2 u3 u4 u5 u6 u1 g6 g7 hm91 hm92 hsl hqn
      exact hP34.out h32 oh' tk h33 tk33 g34 us D9 h35 tk35 R7 u c t91 t92
end z32
end z31
end z202
end z22
end z201
end z15
end z14
end z13
end z12
end z200
end z3
end z2
end z1
end law

namespace law
namespace z1
namespace z2
namespace z3
namespace z200
namespace z12
namespace z13
namespace z14
namespace z15
namespace z201
namespace z22
namespace z202
namespace z31
namespace z32
namespace z33
noncomputable def zc := eps (α := (Heap) × (Obj) × (Nat) × (Heap) × (Nat) × (List (Addr × Obj)) × (Heap) × (Nat) × (List Value) × (List (Addr × Obj)) × (Addr) × (Obj) × (Addr) × (Obj) × (Addr) × (Str → Option Value) × (Heap) × (Nat) × (Value → Shared → Prop) × (Tok) × (RRec) × (Tok)) ⟨{}, default, default, {}, default, default, {}, default, default, default, default, default, default, default, default, (fun _ => default), {}, default, (fun _ _ => True), default, by constructor <;> exact default, default⟩ (fun c => zpart32.1.1 c.1 c.2.1 c.2.2.1 c.2.2.2.1 c.2.2.2.2.1 c.2.2.2.2.2.1 c.2.2.2.2.2.2.1 c.2.2.2.2.2.2.2.1 c.2.2.2.2.2.2.2.2.1 c.2.2.2.2.2.2.2.2.2.1 c.2.2.2.2.2.2.2.2.2.2.1 c.2.2.2.2.2.2.2.2.2.2.2.1 c.2.2.2.2.2.2.2.2.2.2.2.2.1 c.2.2.2.2.2.2.2.2.2.2.2.2.2.1 c.2.2.2.2.2.2.2.2.2.2.2.2.2.2.1 c.2.2.2.2.2.2.2.2.2.2.2.2.2.2.2.1 c.2.2.2.2.2.2.2.2.2.2.2.2.2.2.2.2.1 c.2.2.2.2.2.2.2.2.2.2.2.2.2.2.2.2.2.1 c.2.2.2.2.2.2.2.2.2.2.2.2.2.2.2.2.2.2.1 c.2.2.2.2.2.2.2.2.2.2.2.2.2.2.2.2.2.2.2.1 c.2.2.2.2.2.2.2.2.2.2.2.2.2.2.2.2.2.2.2.2.1 c.2.2.2.2.2.2.2.2.2.2.2.2.2.2.2.2.2.2.2.2.2)
@[irreducible] noncomputable def h32 := zc.1.1
@[irreducible] noncomputable def oh' := zc.1.2.1
@[irreducible] noncomputable def z33_1 := zc.1.2.2.1
@[irreducible] noncomputable def h33 := zc.1.2.2.2.1
@[irreducible] noncomputable def tk33 := zc.1.2.2.2.2.1
@[irreducible] noncomputable def led33 := zc.1.2.2.2.2.2.1
@[irreducible] noncomputable def g34 := zc.1.2.2.2.2.2.2.1
@[irreducible] noncomputable def j := zc.1.2.2.2.2.2.2.2.1
@[irreducible] noncomputable def ys := zc.1.2.2.2.2.2.2.2.2.1
@[irreducible] noncomputable def news := zc.1.2.2.2.2.2.2.2.2.2.1
@[irreducible] noncomputable def I2 := zc.1.2.2.2.2.2.2.2.2.2.2.1
@[irreducible] noncomputable def oI2 := zc.1.2.2.2.2.2.2.2.2.2.2.2.1
@[irreducible] noncomputable def C := zc.1.2.2.2.2.2.2.2.2.2.2.2.2.1
@[irreducible] noncomputable def oC := zc.1.2.2.2.2.2.2.2.2.2.2.2.2.2.1
@[irreducible] noncomputable def D := zc.1.2.2.2.2.2.2.2.2.2.2.2.2.2.2.1
@[irreducible] noncomputable def m₂ := zc.1.2.2.2.2.2.2.2.2.2.2.2.2.2.2.2.1
@[irreducible] noncomputable def h := zc.1.2.2.2.2.2.2.2.2.2.2.2.2.2.2.2.2.1
@[irreducible] noncomputable def tk := zc.1.2.2.2.2.2.2.2.2.2.2.2.2.2.2.2.2.2.1
@[irreducible] noncomputable def E' := zc.1.2.2.2.2.2.2.2.2.2.2.2.2.2.2.2.2.2.2.1
@[irreducible] noncomputable def ti := zc.1.2.2.2.2.2.2.2.2.2.2.2.2.2.2.2.2.2.2.2.1
@[irreducible] noncomputable def rj := zc.1.2.2.2.2.2.2.2.2.2.2.2.2.2.2.2.2.2.2.2.2.1
@[irreducible] noncomputable def y1' := zc.1.2.2.2.2.2.2.2.2.2.2.2.2.2.2.2.2.2.2.2.2.2
end z33
end z32
end z31
end z202
end z22
end z201
end z15
end z14
end z13
end z12
end z200
end z3
end z2
end z1
end law

namespace law
namespace z1
namespace z2
namespace z3
namespace z200
namespace z12
namespace z13
namespace z14
namespace z15
namespace z201
namespace z22
namespace z202
namespace z31
namespace z32
namespace z33
theorem zat : zpart32.1.1 h32 oh' z33_1 h33 tk33 led33 g34 j ys news I2 oI2 C oC D m₂ h tk E' ti rj y1' := by
  intro X1 codeHd hn2 hn5 hl4 hr2 e4' e3' hdf eh' hj hv hC F₁ N₁' off hx b1 b2 b3 b4 b5 hjr e9 g3 g4
  repeat' (first | (k_unfold; (try dsimp only)) | (k_end; kc_close) | (first | with_reducible ((with_reducible show wpAny _ _ (subscriptTail (Expr.Name ..) (Expr.Name ..) (Value.ref _) (Value.int ..)) _ _ _); k_here; (with_reducible show wpAny _ _ (subscriptTail _ _ (Value.ref _) (Value.int _ _)) _ _ _); (with_unfolding_all refine' item_litK ?k1x108 ?k2x108 ?k3x108 ?k4x108 ?_ ?k6x108; (case k1x108 => refine News.isList (by k_asm) (by k_mem)); (case k4x108 => with_reducible assumption); (case k2x108 => exact qz0); (case k3x108 => exact (qzl (qib (Nat.le_of_lt hj) (q1k hn5 (by decide))))); (case k6x108 => with_unfolding_all rfl); k_whole)) | with_reducible ((with_reducible show LCg.CompEnd ..); k_dflt (refine stop_ ?_)) | walk1) | (dsimp only; walk1) | (leave1; (try dsimp only)))
  · unfold Stop
    rename (_ : Int) = (hd : Int) => hq
    exact LCg.CompEnd.intro F₁ N₁' news (fun e he => he) off trivial (hv.keep hj (by exact (qci hq)) hjr)
  · unfold Stop
    rename (_ : Int) ≠ (hd : Int) => hq
    exact LCg.CompEnd.intro F₁ N₁' news (fun e he => he) off trivial (hv.pass hj (by exact (qcn hq)) hdf)
end z33
end z32
end z31
end z202
end z22
end z201
end z15
end z14
end z13
end z12
end z200
end z3
end z2
end z1
end law

namespace law
namespace z1
namespace z2
namespace z3
namespace z200
namespace z12
namespace z13
namespace z14
namespace z15
namespace z201
namespace z22
namespace z202
namespace z31
namespace z32
namespace z33
theorem zall : ∀ h32 oh' z33_1 h33 tk33 led33 g34 j ys news I2 oI2 C oC D m₂ h tk E' ti rj y1', zpart32.1.1 h32 oh' z33_1 h33 tk33 led33 g34 j ys news I2 oI2 C oC D m₂ h tk E' ti rj y1' := fun h32 oh' z33_1 h33 tk33 led33 g34 j ys news I2 oI2 C oC D m₂ h tk E' ti rj y1' => @epsH _ _ zc (by with_unfolding_all exact zat) (h32, oh', z33_1, h33, tk33, led33, g34, j, ys, news, I2, oI2, C, oC, D, m₂, h, tk, E', ti, rj, y1')
end z33
end z32
end z31
end z202
end z22
end z201
end z15
end z14
end z13
end z12
end z200
end z3
end z2
end z1
end law

namespace law
namespace z1
namespace z2
namespace z3
namespace z200
namespace z12
namespace z13
namespace z14
namespace z15
namespace z201
namespace z22
namespace z202
namespace z31
namespace z32
namespace z34
noncomputable def zc := eps (α := (Heap) × (Obj) × (Nat) × (Heap) × (Nat) × (Heap) × (List RRec) × (Addr) × (Heap) × (Nat) × (List (Addr × Obj)) × (RRec) × (Nat) × (Tok) × (Tok)) ⟨{}, default, default, {}, default, {}, default, default, {}, default, default, by constructor <;> exact default, default, default, default⟩ (fun c => zpart32.1.2 c.1 c.2.1 c.2.2.1 c.2.2.2.1 c.2.2.2.2.1 c.2.2.2.2.2.1 c.2.2.2.2.2.2.1 c.2.2.2.2.2.2.2.1 c.2.2.2.2.2.2.2.2.1 c.2.2.2.2.2.2.2.2.2.1 c.2.2.2.2.2.2.2.2.2.2.1 c.2.2.2.2.2.2.2.2.2.2.2.1 c.2.2.2.2.2.2.2.2.2.2.2.2.1 c.2.2.2.2.2.2.2.2.2.2.2.2.2.1 c.2.2.2.2.2.2.2.2.2.2.2.2.2.2)
@[irreducible] noncomputable def h32 := zc.1.1
@[irreducible] noncomputable def oh' := zc.1.2.1
@[irreducible] noncomputable def tk := zc.1.2.2.1
@[irreducible] noncomputable def h33 := zc.1.2.2.2.1
@[irreducible] noncomputable def tk33 := zc.1.2.2.2.2.1
@[irreducible] noncomputable def g34 := zc.1.2.2.2.2.2.1
@[irreducible] noncomputable def us := zc.1.2.2.2.2.2.2.1
@[irreducible] noncomputable def D9 := zc.1.2.2.2.2.2.2.2.1
@[irreducible] noncomputable def h35 := zc.1.2.2.2.2.2.2.2.2.1
@[irreducible] noncomputable def tk35 := zc.1.2.2.2.2.2.2.2.2.2.1
@[irreducible] noncomputable def R7 := zc.1.2.2.2.2.2.2.2.2.2.2.1
@[irreducible] noncomputable def u := zc.1.2.2.2.2.2.2.2.2.2.2.2.1
@[irreducible] noncomputable def c := zc.1.2.2.2.2.2.2.2.2.2.2.2.2.1
@[irreducible] noncomputable def t91 := zc.1.2.2.2.2.2.2.2.2.2.2.2.2.2.1
@[irreducible] noncomputable def t92 := zc.1.2.2.2.2.2.2.2.2.2.2.2.2.2.2
end z34
end z32
end z31
end z202
end z22
end z201
end z15
end z14
end z13
end z12
end z200
end z3
end z2
end z1
end law

namespace law
namespace z1
namespace z2
namespace z3
namespace z200
namespace z12
namespace z13
namespace z14
namespace z15
namespace z201
namespace z22
namespace z202
namespace z31
namespace z32
namespace z34
theorem zat : zpart32.1.2 h32 oh' tk h33 tk33 g34 us D9 h35 tk35 R7 u c t91 t92 := by
  intro X1 T1 codeHd z0 hn2 hn5 e6' hl4 hr2 e3' hs1 e2' of3 hcan lI hq1 hless hqin hsub hhd eh' F35 N36 m9 hr7 k1 k2 k3 z2 z3 z6 w1 w2 w5 hul hu5 hunz hx0 hx1 g5 hcn hfc
    huc u2 u3 u4 u5 u6 u1 g6 g7 hm91 hm92 hsl hqn
  repeat' (first | (k_unfold; (try dsimp only)) | (k_end; kc_close) | (first | with_reducible ((with_reducible show wpAny _ _ (subscriptTail (Expr.Name ..) (Expr.Constant ..) (Value.ref _) (Value.int ..)) _ _ _); k_here; (with_reducible show wpAny _ _ (subscriptTail _ _ (Value.ref _) (Value.int _ _)) _ _ _); (with_unfolding_all refine' item_litK ?k1x110 ?k2x110 ?k3x110 ?k4x110 ?_ ?k6x110; (case k1x110 => refine News.isList (by k_asm) (by k_mem)); (case k4x110 => with_reducible assumption); (case k2x110 => decide); (case k3x110 => decide); (case k6x110 => with_unfolding_all rfl); k_whole)) | with_reducible (k_here; (with_reducible show wpAny _ _ (call (Value.builtin _) [Value.ref _]) _ _ _); k_dflt (refine' len_list ?ln1x111 ?ln2x111 ?_; (case ln1x111 => exact News.isList (by k_asm) (by k_mem)); (case ln2x111 => (simp only [List.size_toArray, List.length_map]; exact (qib hu5 (by decide)))); (simp only [List.size_toArray, List.length_map]))) | with_reducible ((with_reducible show wpAny _ _ (subscriptTail (Expr.Name ..) (Expr.BinOp ..) _ _) _ _ _); k_here; (with_reducible show wpAny _ _ (subscriptTail _ _ (Value.ref _) (Value.int _ _)) _ _ _); (with_unfolding_all refine' item_litK ?k1x112 ?k2x112 ?k3x112 ?k4x112 ?_ ?k6x112; (case k1x112 => refine News.isList (by k_asm) (by k_mem)); (case k4x112 => with_reducible assumption); (case k2x112 => exact hx0); (case k3x112 => exact (qiB hx1 (q1k hu5 (by decide)))); (case k6x112 => with_unfolding_all rfl); k_whole)) | with_reducible ((with_reducible show wpAny _ _ (subscriptTail (Expr.Name ..) (Expr.Subscript ..) _ _) _ _ _); k_here; (with_reducible show wpAny _ _ (subscriptTail _ _ (Value.ref _) (Value.int _ _)) _ _ _); (with_unfolding_all refine' item_litK ?k1x113 ?k2x113 ?k3x113 ?k4x113 ?_ ?k6x113; (case k1x113 => refine News.isList (by k_asm) (by k_mem)); (case k4x113 => with_reducible assumption); (case k2x113 => (first | exact u3 | exact u5 | omega)); (case k3x113 => (first | exact (qiB u4 (q1k hn5 (by decide))) | exact (qiB u6 (q1k hn5 (by decide))) | omega)); (case k6x113 => with_unfolding_all rfl); k_whole)) | with_reducible ((with_reducible show wpAny _ _ (call (Value.builtin _) _) _ _ _); k_here; k_dflt (refine' index_ints ?ixNx114 ?ixmx114 ?ixix114 ?ixzx114 ?_; (case ixNx114 => k_asm); (case ixmx114 => k_mem); (case ixix114 => first | exact hm91 | exact hm92); (case ixzx114 => exact hsl))) | with_reducible ((with_reducible show wpAny _ _ (call (Value.builtin _) _) _ _ _); k_here; k_dflt (refine' append_K ?k1x115 ?k2x115 ?k3x115 ?_ ?zx115; (case k1x115 => k_asm); (case k2x115 => k_asm); (case k3x115 => k_upd); (case zx115 => (simp only [PySem.sizeLine_eq, List.size_toArray, Array.size_push, List.length_map, List.length_append, List.length_cons, List.length_nil]; exact (q16 hqn (by decide)))); k_whole); intro _ _ _) | walk1) | (dsimp only; walk1) | (leave1; (try dsimp only)))
  rename News _ _ _ _ => N40
  rename Fr _ _ _ _ => F40
  simp only [List.push_toArray] at N40
  have e91 : (hs.map Prod.fst).idxOf (ff u.a.toNat : Int) = ((List.range n).filter fun j => ff j == j).idxOf (ff u.a.toNat) := by rw [hs1]; exact idxOf_ofNat _ _
  have e92 : (hs.map Prod.fst).idxOf (ff u.b.toNat : Int) = ((List.range n).filter fun j => ff j == j).idxOf (ff u.b.toNat) := by rw [hs1]; exact idxOf_ofNat _ _
  have hlt : ∀ x, x < n → ((List.range n).filter fun j => ff j == j).idxOf (ff x) < ((List.range n).filter fun j => ff j == j).length := fun x hxn => by
    have hxr : x < (machR rs).n := by show x < rs.length; exact (qlee hxn hr2)
    have h1 := hcan.le x hxr
    have h2 := hcan.idem x hxr
    exact List.idxOf_lt_length_iff.mpr (List.mem_filter.mpr ⟨List.mem_range.mpr (by exact (Nat.lt_of_le_of_lt h1 hxn)), by simpa using h2⟩)
  have l91 := hlt u.a.toNat (by exact (qtl0 (qpos2 hn2) u4))
  have l92 := hlt u.b.toNat (by exact (qtl0 (qpos2 hn2) u6))
  rw [e91, e92] at N40
  refine cps fun zG zk => ?_
  obtain ⟨q, new, qa, qb, qc, qm, N41, qn⟩ := less_made N40 (by exact (And.left (by assumption))) (by exact (And.left (And.right (by assumption)))) (by exact (And.left (And.right (And.right (by assumption)))))
  refine zk ?_
  clear zk zG
  refine ⟨_, _, _, (ll, W.listOf ((qs ++ [q]).map fun r => Value.ref r.ad).toArray (k + 1)) :: (L0 + 1 + 1 + 1 + 1 + 1 + 1, oh') :: (new ++ R7), rfl, F40, N41, ?off, ⟨?keep, trivial⟩, qs ++ [q], k + 1, oh', _, new ++ R7, rfl, ?len, eh', ?less, ?rin, ?sub, ?f1, ?f2, ?f3, rfl, rfl, rfl, rfl, rfl⟩
  case off =>
    intro e he f hf
    rw [List.mem_singleton.mp hf]
    rcases List.mem_cons.mp he with rfl | he
    · refine neN ?_; dsimp only; (first | exact (qne (And.left lI)) | exact (qne (And.left (And.right lI))) | omega)
    rcases List.mem_cons.mp he with rfl | he
    · refine neN ?_; dsimp only; (first | exact (qne (And.left lI)) | exact (qne (And.left (And.right lI))) | omega)
    rcases List.mem_append.mp he with he | he
    · exact (qn e he).2.2
    · exact k3 e he
  case keep => exact .tail _ (.tail _ (List.mem_append_right _ w1))
  case len => rw [List.length_append, hq1]; rfl
  case less =>
    refine hless.snoc ⟨c, u, hd, by rw [hq1]; exact hhd, by exact (qlee hcn hr2), hfc, huc, qa, qb, qc⟩
  case rin =>
    intro r hr
    rcases List.mem_append.mp hr with hr | hr
    · exact (hqin r hr).mono fun e he => List.mem_append_right _ (hr7 e he)
    · rw [List.mem_singleton.mp hr]
      exact ⟨List.mem_append_left _ qm, by rw [qa]; exact u2, by rw [qb]; exact (And.intro (Int.natCast_nonneg _) (qcl l91)), by rw [qc]; exact (And.intro (Int.natCast_nonneg _) (qcl l92))⟩
  case sub => exact fun e he => List.mem_append_right _ (hr7 e (hsub e he))
  case f1 =>
    intro e he
    rcases List.mem_append.mp he with he | he
    · exact (qn e he).1
    · exact k1 e he
  case f2 =>
    intro e he
    rcases List.mem_append.mp he with he | he
    · exact (qn e he).2.1
    · exact k2 e he
  case f3 =>
    intro e he
    rcases List.mem_append.mp he with he | he
    · exact (qn e he).2.2
    · exact k3 e he
end z34
end z32
end z31
end z202
end z22
end z201
end z15
end z14
end z13
end z12
end z200
end z3
end z2
end z1
end law

namespace law
namespace z1
namespace z2
namespace z3
namespace z200
namespace z12
namespace z13
namespace z14
namespace z15
namespace z201
namespace z22
namespace z202
namespace z31
namespace z32
namespace z34
theorem zall : ∀ h32 oh' tk h33 tk33 g34 us D9 h35 tk35 R7 u c t91 t92, zpart32.1.2 h32 oh' tk h33 tk33 g34 us D9 h35 tk35 R7 u c t91 t92 := fun h32 oh' tk h33 tk33 g34 us D9 h35 tk35 R7 u c t91 t92 => @epsH _ _ zc (by with_unfolding_all exact zat) (h32, oh', tk, h33, tk33, g34, us, D9, h35, tk35, R7, u, c, t91, t92)
end z34
end z32
end z31
end z202
end z22
end z201
end z15
end z14
end z13
end z12
end z200
end z3
end z2
end z1
end law

namespace law
namespace z1
namespace z2
namespace z3
namespace z200
namespace z12
namespace z13
namespace z14
namespace z15
namespace z201
namespace z22
namespace z202
namespace z31
namespace z32
theorem zat : zpart31.1.1 i m₁ h₁ tk₁ qs k oh vh rest' th hd oI := zpart32.2 ⟨z33.zall⟩ ⟨z34.zall⟩
end z32
end z31
end z202
end z22
end z201
end z15
end z14
end z13
end z12
end z200
end z3
end z2
end z1
end law

namespace law
namespace z1
namespace z2
namespace z3
namespace z200
namespace z12
namespace z13
namespace z14
namespace z15
namespace z201
namespace z22
namespace z202
namespace z31
namespace z32
theorem zall : ∀ i m₁ h₁ tk₁ qs k oh vh rest' th hd oI, zpart31.1.1 i m₁ h₁ tk₁ qs k oh vh rest' th hd oI := fun i m₁ h₁ tk₁ qs k oh vh rest' th hd oI => @epsH _ _ zc (by with_unfolding_all exact zat) (i, m₁, h₁, tk₁, qs, k, oh, vh, rest', th, hd, oI)
end z32
end z31
end z202
end z22
end z201
end z15
end z14
end z13
end z12
end z200
end z3
end z2
end z1
end law

namespace law
namespace z1
namespace z2
namespace z3
namespace z200
namespace z12
namespace z13
namespace z14
namespace z15
namespace z201
namespace z22
namespace z202
namespace z31
namespace z35
noncomputable def zc := eps (α := (Str → Option Value) × (Heap) × (Nat) × (List RRec) × (Nat) × (Obj) × (List (Addr × Obj))) ⟨(fun _ => default), {}, default, default, default, default, default⟩ (fun c => zpart31.1.2 c.1 c.2.1 c.2.2.1 c.2.2.2.1 c.2.2.2.2.1 c.2.2.2.2.2.1 c.2.2.2.2.2.2)
@[irreducible] noncomputable def m₁ := zc.1.1
@[irreducible] noncomputable def h₁ := zc.1.2.1
@[irreducible] noncomputable def tk₁ := zc.1.2.2.1
@[irreducible] noncomputable def qs := zc.1.2.2.2.1
@[irreducible] noncomputable def k := zc.1.2.2.2.2.1
@[irreducible] noncomputable def oh := zc.1.2.2.2.2.2.1
@[irreducible] noncomputable def rest' := zc.1.2.2.2.2.2.2
end z35
end z31
end z202
end z22
end z201
end z15
end z14
end z13
end z12
end z200
end z3
end z2
end z1
end law

namespace law
namespace z1
namespace z2
namespace z3
namespace z200
namespace z12
namespace z13
namespace z14
namespace z15
namespace z201
namespace z22
namespace z202
namespace z31
namespace z35
noncomputable def zpart35 : { R : (Prop) // Hide (R) → zpart31.1.2 m₁ h₁ tk₁ qs k oh rest' } := by
  refine' ⟨_, fun hP203 => ?main⟩
  case main =>
    intro hg X1 T1 K1 codeHd l0 hI' hn2 hn5 e5' hr2 hna1 hna5 e4' ha1 hbgn hfin hsen hfst hff hzl7 hfix e3' hs1 e2' hcan N₁ hless hqin F₆ hq1 x2 x3 x4 x5 x7 y1 y2 y3 y4
      y5 hR7
    repeat' (first | (k_unfold; (try dsimp only)) | (k_end; kc_close) | (first | with_reducible (k_here; (with_reducible show wpAny _ _ (call (Value.ref 425) _) _ _ _); k_dflt (refine stop_ ?_)) | walk1) | (dsimp only; walk1) | (leave1; (try dsimp only)))
    unfold Stop
    revert hg X1 T1 K1 codeHd l0 hI' hn2 hn5 e5' hr2 hna1 hna5 e4' ha1 hbgn hfin hsen hfst hff hzl7 hfix e3' hs1 e2' hcan N₁ hless hqin F₆ hq1 x2 x3 x4 x5 x7 y1 y2 y3 y4 y5
      hR7
    exact hP203.out
end z35
end z31
end z202
end z22
end z201
end z15
end z14
end z13
end z12
end z200
end z3
end z2
end z1
end law
end
section
open PySem PySem.W PyProof.Rows PySem.Calls PySem.Spec
set_option Elab.async false
set_option maxRecDepth 100000
set_option maxHeartbeats 1000000
theorem less_quot {rs qs : List RRec} {ff : Nat → Nat} (L : (machR rs).Lots ff) (hless : LessAt rs ff ((machR rs).heads ff) qs) (hlen : qs.length = ((machR rs).heads ff).length) :
    Mach.Quot (machR rs) (machR qs) (fun i => ((machR rs).heads ff).idxOf (ff i)) := by
  have : ∀ j, ∃ c, ∀ x, ((machR rs).heads ff)[j]? = some x → c < (machR rs).n ∧ ff c = x ∧ (machR qs).lt j = (machR rs).lt c ∧ (machR qs).n1 j = ((machR rs).heads ff).idxOf (ff ((machR rs).n1 c)) ∧ (machR qs).n0 j = ((machR rs).heads ff).idxOf (ff ((machR rs).n0 c)) := fun j => by
    by_cases hj : j < qs.length
    · obtain ⟨c, u, x, h1, h2, h3, h4, h5, h6, h7⟩ := hless.at' j qs[j] (List.getElem?_eq_getElem hj)
      refine ⟨c, fun x' hx' => ?_⟩
      rw [h1] at hx'
      cases hx'
      refine ⟨h2, h3, ?_, ?_, ?_⟩
      · show (qs[j]?.map (·.l)).getD 0 = (rs[c]?.map (·.l)).getD 0
        rw [List.getElem?_eq_getElem hj, h4]; exact h5
      · show (qs[j]?.map (·.a.toNat)).getD 0 = ((machR rs).heads ff).idxOf (ff ((rs[c]?.map (·.a.toNat)).getD 0))
        rw [List.getElem?_eq_getElem hj, h4]
        show qs[j].a.toNat = _
        rw [h6]; rfl
      · show (qs[j]?.map (·.b.toNat)).getD 0 = ((machR rs).heads ff).idxOf (ff ((rs[c]?.map (·.b.toNat)).getD 0))
        rw [List.getElem?_eq_getElem hj, h4]
        show qs[j].b.toNat = _
        rw [h7]; rfl
    · exact ⟨0, fun x hx => absurd (List.getElem?_eq_some_iff.mp hx).1 (by omega)⟩
  obtain ⟨c, hc⟩ := Classical.axiomOfChoice this
  exact Mach.quot_of (c := c) L hc
/-- what both programs ask and where they stand -/
theorem quot_run {rs qs : List RRec} {o1 o2 : List (Addr × Obj)} {ff : Nat → Nat} (R : ∀ r ∈ rs, RIn rs.length o1 r) (R2 : ∀ r ∈ qs, RIn qs.length o2 r) (L : (machR rs).Lots ff) (hless : LessAt rs ff ((machR rs).heads ff) qs) (hlen : qs.length = ((machR rs).heads ff).length)
    {b : Nat} (hb : b < rs.length) (hb2 : ((machR rs).heads ff).idxOf (ff b) < qs.length) (w : List Int) :
    (pathR qs (((machR rs).heads ff).idxOf (ff b)) w).map (letR qs) = (pathR rs b w).map (letR rs) ∧ pathR qs (((machR rs).heads ff).idxOf (ff b)) w = (pathR rs b w).map fun p => ((machR rs).heads ff).idxOf (ff p) := by
  obtain ⟨h1, h2⟩ := (less_quot L hless hlen).path (machR_ok R) w hb
  refine ⟨?_, ?_⟩
  · rw [letters R2 hb2, letters R hb]
    exact congrArg _ h2
  · rw [pathR_path, pathR_path]; exact h1
theorem path_size (rs : List RRec) (w : List Int) (b : Nat) : (pathR rs b w).length = w.length + 1 := by rw [pathR_path]; exact Mach.path_len b w
theorem asks_ok {rs : List RRec} {own : List (Addr × Obj)} (R : ∀ r ∈ rs, RIn rs.length own r) {b : Nat} (hb : b < rs.length) (w : List Int) : ∀ x ∈ (pathR rs b w).map (letR rs), PyData.strOk x = true := by
  rw [letters R hb]
  intro x hx
  obtain ⟨l, hl, rfl⟩ := List.mem_map.mp hx
  obtain ⟨i, hi, rfl⟩ := List.mem_map.mp hl
  exact letZ_ok (lt_01 R (path_lt (machR_ok R) w b hb i hi))
end
example : True := by w_top off; (try walk1); trivial
section
open PySem PySem.W PyProof.Rows PySem.Calls PySem.Spec
set_option Elab.async false
set_option maxRecDepth 100000
set_option maxHeartbeats 1000000
example : kdef.heap_1 = kdef.heap_1 ∧ PySem.Challenge.rw_xm0939_01 = PySem.Challenge.rw_xm0939_01 := by
  k_fill
  exact ⟨rfl, rfl⟩

namespace law
namespace z1
namespace z2
namespace z3
namespace z200
namespace z12
namespace z13
namespace z14
namespace z15
namespace z201
namespace z22
namespace z202
namespace z31
namespace z35
namespace z203

end z203
end z35
end z31
end z202
end z22
end z201
end z15
end z14
end z13
end z12
end z200
end z3
end z2
end z1
end law

namespace law
namespace z1
namespace z2
namespace z3
namespace z200
namespace z12
namespace z13
namespace z14
namespace z15
namespace z201
namespace z22
namespace z202
namespace z31
namespace z35
namespace z203
noncomputable def zpart203 : { R : ((List (Addr × Obj)) → (Addr) → (Addr) → (Addr) → (List (Str × Tok)) → (List (Int × Tok)) → (Nat) → (Nat) → (Nat) → (Heap) → (Nat) → (Addr) → (Addr) → (Addr) → (List (Str × Tok)) → (List (Int × Tok)) → (Nat) → (Nat) → (Nat) → (Array Value) → (List (Addr × Obj)) → Prop) // Hide (∀ R8 T51 ak51 nl51 asked1 notes1 na51 nb51 nc51 h53 tk53 T53 ak53 nl53 asked2 notes2 na53 nb53 nc53 pt2 R10, R R8 T51 ak51 nl51 asked1 notes1 na51 nb51 nc51 h53 tk53 T53 ak53 nl53 asked2 notes2 na53 nb53 nc53 pt2 R10) → zpart35.1 } := by
  refine' ⟨_, fun hP41 => ?main⟩
  case main =>
    intro hg X1 T1 K1 codeHd l0 hI' hn2 hn5 e5' hr2 hna1 hna5 e4' ha1 hbgn hfin hsen hfst hff hzl7 hfix e3' hs1 e2' hcan N₁ hless hqin F₆ hq1 x2 x3 x4 x5 x7 y1 y2 y3 y4
      y5 hR7
    ((try clear e6); (try clear e5); (try clear e4); (try clear e3); (try clear e2); (try clear e1); (try clear hcl); (try clear hT28); (try clear hT27); (try clear hT1); (try clear l2); (try clear hT2); (try clear hL2); (try clear hC2); (try clear hI2); (try clear hUI); (try clear m2); (try clear mU); (try clear o1'); (try clear l6); (try clear hl4); (try clear hz4); (try clear hU4); (try clear l9); (try clear o1''); (try clear o16); (try clear o25); (try clear l28); (try clear l27); (try clear lI); (try clear F31); (try clear hk14); (try clear hR14); (try clear hk23); (try clear hR23))
    change News g0 L0 h₁ _ at N₁
    refine cps fun zG zk => ?_
    obtain ⟨R8, N50, i1, i2⟩ := resplitA [(422, tabObj #[])] N₁ (by
      intro c hc
      rw [List.mem_singleton.mp hc]
      exact .tail _ (.tail _ x7))
    refine zk ?_
    clear zk zG
    have n4 : ∀ e ∈ R8, @Ne Nat e.1 422 := i2 _ (.head _)
    have in8 : ∀ e ∈ rest', @Ne Nat e.1 422 → e ∈ R8 := fun e he hne => i1 e (.tail _ (.tail _ he)) fun c hc => by rw [List.mem_singleton.mp hc]; exact hne
    have tabne : ∀ a o, (a, o) ∈ rest' → o ≠ tabObj #[] → @Ne Nat a 422 := fun a o ha ho => news_ne N₁ (.tail _ (.tail _ ha)) (.tail _ (.tail _ x7)) ho
    replace y1 := in8 _ y1 (tabne _ _ y1 (fun e => nomatch congrArg Obj.data e))
    replace y2 := in8 _ y2 (tabne _ _ y2 (fun e => nomatch congrArg Obj.data e))
    replace y3 := in8 _ y3 (tabne _ _ y3 (fun e => nomatch congrArg Obj.data e))
    replace y4 := in8 _ y4 (tabne _ _ y4 (fun e => nomatch congrArg Obj.data e))
    replace y5 := in8 _ y5 (tabne _ _ y5 (fun e => nomatch congrArg Obj.data e))
    replace x2 := in8 _ x2 (by refine neN ?_; dsimp only; (first | exact (qng (ql1 (ql1 (ql3 l0)))) | exact (qng (ql1 (ql3 l0))) | exact (qng (ql3 l0)) | exact (qng (ql1 (ql1 l0))) | omega))
    replace x3 := in8 _ x3 (by refine neN ?_; dsimp only; (first | exact (qng (ql1 (ql1 (ql3 l0)))) | exact (qng (ql1 (ql3 l0))) | exact (qng (ql3 l0)) | exact (qng (ql1 (ql1 l0))) | omega))
    replace x4 := in8 _ x4 (by refine neN ?_; dsimp only; (first | exact (qng (ql1 (ql1 (ql3 l0)))) | exact (qng (ql1 (ql3 l0))) | exact (qng (ql3 l0)) | exact (qng (ql1 (ql1 l0))) | omega))
    replace x5 := in8 _ x5 (by refine neN ?_; dsimp only; (first | exact (qng (ql1 (ql1 (ql3 l0)))) | exact (qng (ql1 (ql3 l0))) | exact (qng (ql3 l0)) | exact (qng (ql1 (ql1 l0))) | omega))
    have y6 : (ll, W.listOf (qs.map fun r => Value.ref r.ad).toArray k) ∈ R8 := i1 _ (.head _) fun c hc => by rw [List.mem_singleton.mp hc]; exact news_ne N₁ (.head _) (.tail _ (.tail _ x7)) (fun e => nomatch congrArg Obj.data e)
    have hR8 : ∀ r ∈ rs, RIn rs.length R8 r := fun r hr => ⟨in8 _ (hR7 r hr).m (tabne _ _ (hR7 r hr).m (fun e => nomatch congrArg Obj.data e)), (hR7 r hr).hl, (hR7 r hr).ha, (hR7 r hr).hb⟩
    have hQ8 : ∀ r ∈ qs, RIn qs.length R8 r := fun r hr => by
      rw [hq1]
      exact ⟨in8 _ (hqin r hr).m (tabne _ _ (hqin r hr).m (fun e => nomatch congrArg Obj.data e)), (hqin r hr).hl, (hqin r hr).ha, (hqin r hr).hb⟩
    simp only [List.cons_append, List.nil_append] at N50
    ((try clear x7); (try clear x6); (try clear of3'); (try clear of2'); (try clear of1'); (try clear hqin); (try clear hR7); (try clear N₁); (try clear i2); (try clear i1); (try clear tabne); (try clear in8))
    refine wp_le (d := 480) (u := 3800) ?_ (Nat.le_of_ble_eq_true rfl) (Nat.le_of_ble_eq_true rfl)
    refine heard w (CX.mk _ _ _ _ _ _ _ _) R8 rs as D5 D6 _ _ bg _ _ _ _ _ _ _ _ K1 F₆ X1 T1 #[] codeHd (.inl rfl) n4 N50 y4 y3 hR8 (by exact (qele hr2 hn5)) (by exact (qele ha1 (Nat.le_trans hna5 (by decide)))) (by exact (qlee hbgn hr2)) rfl X1 T1 ?_
    intro h51 tk51 T51 ak51 nl51 asked1 notes1 na51 nb51 nc51 pt1 R9 F51 N51 n4' hs9 m51 m52 m53 ts1 hA1 hN1
    change News g0 L0 h51 _ at N51
    change Fr g0 L0 h51 _ at F51
    have hb1 : (bg : Int) < n := by exact (qcl hbgn)
    refine cps fun zG zk => ?_
    obtain ⟨tb1, gb1⟩ := ints_get hzl7 (k := (bg : Int)) (by exact (Int.natCast_nonneg _)) hb1
    refine zk ?_
    clear zk zG
    have hmem : ∀ x, x < n → (ff x : Int) ∈ hs.map Prod.fst := fun x hxn => by
      have hxr : x < (machR rs).n := by show x < rs.length; exact (qlee hxn hr2)
      have h1 := hcan.le x hxr
      have h2 := hcan.idem x hxr
      rw [hs1]
      exact List.mem_map.mpr ⟨ff x, List.mem_filter.mpr ⟨List.mem_range.mpr (by exact (Nat.lt_of_le_of_lt h1 hxn)), by simpa using h2⟩, rfl⟩
    have hmb := hmem ((bg : Int).toNat) (by exact (qtl (Int.natCast_nonneg _) (qcl hbgn)))
    have hsl : hs.length ≤ 1000 := by
      have h1 := congrArg List.length hs1
      have h2 := List.length_filter_le (fun j => ff j == j) (List.range n)
      simp only [List.length_map, List.length_range] at h1 h2
      (first | exact (q1k (qele h1 h2) (q1k hn5 (by decide))) | exact (qele hq1 (Nat.le_trans h2 hn5)) | omega)
    have u2 := hs9 _ x2
    have u3 := hs9 _ x3
    have u4 := hs9 _ y1
    have u5 := hs9 _ y2
    have u6 := hs9 _ x4
    have u7 := hs9 _ x5
    dsimp only
    repeat' (first | (k_unfold; (try dsimp only)) | (k_end; kc_close) | (first | with_reducible ((with_reducible show wpAny _ _ (subscriptTail (Expr.Name ..) (Expr.Name ..) (Value.ref _) (Value.int ..)) _ _ _); k_here; (with_reducible show wpAny _ _ (subscriptTail _ _ (Value.ref _) (Value.int _ _)) _ _ _); (with_unfolding_all refine' item_litK ?k1x117 ?k2x117 ?k3x117 ?k4x117 ?_ ?k6x117; (case k1x117 => refine News.isList (by k_asm) (by k_mem)); (case k4x117 => with_reducible assumption); (case k2x117 => exact (Int.natCast_nonneg _)); (case k3x117 => exact (qib (Nat.le_of_lt hbgn) (q1k hn5 (by decide)))); (case k6x117 => with_unfolding_all rfl); k_whole)) | with_reducible ((with_reducible show wpAny _ _ (call (Value.builtin _) _) _ _ _); k_here; k_dflt (refine' index_ints ?ixNx118 ?ixmx118 ?ixix118 ?ixzx118 ?_; (case ixNx118 => k_asm); (case ixmx118 => k_mem); (case ixix118 => exact hmb); (case ixzx118 => exact hsl))) | with_reducible (k_here; (with_reducible show wpAny _ _ (call (Value.ref 425) _) _ _ _); k_dflt (refine stop_ ?_)) | walk1) | (dsimp only; walk1) | (leave1; (try dsimp only)))
    unfold Stop
    have hidx : ∀ x, x < n → ((List.range n).filter fun j => ff j == j).idxOf (ff x) < qs.length := fun x hxn => by
      have hxr : x < (machR rs).n := by show x < rs.length; exact (qlee hxn hr2)
      have h1 := hcan.le x hxr
      have h2 := hcan.idem x hxr
      rw [hq1]
      exact List.idxOf_lt_length_iff.mpr (List.mem_filter.mpr ⟨List.mem_range.mpr (by exact (Nat.lt_of_le_of_lt h1 hxn)), by simpa using h2⟩)
    have ei : (hs.map Prod.fst).idxOf (ff ((bg : Int).toNat) : Int) = ((List.range n).filter fun j => ff j == j).idxOf (ff bg) := by rw [hs1, Int.toNat_natCast]; exact idxOf_ofNat _ _
    rw [ei]
    have hqs5 : qs.length ≤ 5 := by
      have h2 := List.length_filter_le (fun j => ff j == j) (List.range n)
      rw [List.length_range] at h2
      (first | exact (q1k (qele h1 h2) (q1k hn5 (by decide))) | exact (qele hq1 (Nat.le_trans h2 hn5)) | omega)
    rename News _ _ _ _ => N52
    rename Fr _ _ _ _ => F52
    refine wp_le (d := 480) (u := 3800) ?_ (Nat.le_of_ble_eq_true rfl) (Nat.le_of_ble_eq_true rfl)
    refine heard w (CX.mk _ _ _ _ _ _ _ _) R9 qs as ll D6 _ _ (((List.range n).filter fun j => ff j == j).idxOf (ff bg)) _ _ _ _ _ _ _ _ K1 F52 X1 T1 pt1 codeHd ts1 n4' N52 (hs9 _ y6) (hs9 _ y3) (fun r hr => (hQ8 r hr).mono hs9) hqs5 (by exact (qele ha1 (Nat.le_trans hna5 (by decide)))) (hidx bg hbgn) rfl X1 T1 ?_
    intro h53 tk53 T53 ak53 nl53 asked2 notes2 na53 nb53 nc53 pt2 R10 F53 N53 n4'' hs10 m61 m62 m63 ts2 hA2 hN2
    change News g0 L0 h53 _ at N53
    change Fr g0 L0 h53 _ at F53
    replace u2 := hs10 _ u2
    replace u3 := hs10 _ u3
    replace u4 := hs10 _ u4
    replace u5 := hs10 _ u5
    replace u6 := hs10 _ u6
    replace u7 := hs10 _ u7
    replace m51 := hs10 _ m51
    replace m52 := hs10 _ m52
    replace m53 := hs10 _ m53
    replace y3 := hs10 _ (hs9 _ y3)
    replace y4 := hs10 _ (hs9 _ y4)
    replace y5 := hs10 _ (hs9 _ y5)
    replace hR8 : ∀ r ∈ rs, RIn rs.length R10 r := fun r hr => (hR8 r hr).mono fun e he => hs10 e (hs9 e he)
    ((try clear ts1); (try clear n4'); (try clear n4); (try clear x5); (try clear x4); (try clear x3); (try clear x2); (try clear y6); (try clear y2); (try clear y1); (try clear F52); (try clear N52); (try clear hs10); (try clear hs9))
    dsimp only
    rename_i z41_1 z41_2 z41_3
    revert hg X1 T1 K1 codeHd hI' hn2 hn5 e5' hr2 hna1 hna5 e4' ha1 hbgn hfin hsen hfst hff hzl7 hfix e3' hs1 e2' hless hq1 hQ8 hA1 hN1 hmem hsl hidx n4'' m61 m62 m63 ts2
      hA2 hN2 N53 F53 u2 u3 u4 u5 u6 u7 m51 m52 m53 y3 y4 hR8
    exact hP41.out R8 T51 ak51 nl51 asked1 notes1 na51 nb51 nc51 h53 tk53 T53 ak53 nl53 asked2 notes2 na53 nb53 nc53 pt2 R10
end z203
end z35
end z31
end z202
end z22
end z201
end z15
end z14
end z13
end z12
end z200
end z3
end z2
end z1
end law

namespace law
namespace z1
namespace z2
namespace z3
namespace z200
namespace z12
namespace z13
namespace z14
namespace z15
namespace z201
namespace z22
namespace z202
namespace z31
namespace z35
namespace z203
namespace z41
noncomputable def zc := eps (α := (List (Addr × Obj)) × (Addr) × (Addr) × (Addr) × (List (Str × Tok)) × (List (Int × Tok)) × (Nat) × (Nat) × (Nat) × (Heap) × (Nat) × (Addr) × (Addr) × (Addr) × (List (Str × Tok)) × (List (Int × Tok)) × (Nat) × (Nat) × (Nat) × (Array Value) × (List (Addr × Obj))) ⟨default, default, default, default, default, default, default, default, default, {}, default, default, default, default, default, default, default, default, default, default, default⟩ (fun c => zpart203.1 c.1 c.2.1 c.2.2.1 c.2.2.2.1 c.2.2.2.2.1 c.2.2.2.2.2.1 c.2.2.2.2.2.2.1 c.2.2.2.2.2.2.2.1 c.2.2.2.2.2.2.2.2.1 c.2.2.2.2.2.2.2.2.2.1 c.2.2.2.2.2.2.2.2.2.2.1 c.2.2.2.2.2.2.2.2.2.2.2.1 c.2.2.2.2.2.2.2.2.2.2.2.2.1 c.2.2.2.2.2.2.2.2.2.2.2.2.2.1 c.2.2.2.2.2.2.2.2.2.2.2.2.2.2.1 c.2.2.2.2.2.2.2.2.2.2.2.2.2.2.2.1 c.2.2.2.2.2.2.2.2.2.2.2.2.2.2.2.2.1 c.2.2.2.2.2.2.2.2.2.2.2.2.2.2.2.2.2.1 c.2.2.2.2.2.2.2.2.2.2.2.2.2.2.2.2.2.2.1 c.2.2.2.2.2.2.2.2.2.2.2.2.2.2.2.2.2.2.2.1 c.2.2.2.2.2.2.2.2.2.2.2.2.2.2.2.2.2.2.2.2)
@[irreducible] noncomputable def R8 := zc.1.1
@[irreducible] noncomputable def T51 := zc.1.2.1
@[irreducible] noncomputable def ak51 := zc.1.2.2.1
@[irreducible] noncomputable def nl51 := zc.1.2.2.2.1
@[irreducible] noncomputable def asked1 := zc.1.2.2.2.2.1
@[irreducible] noncomputable def notes1 := zc.1.2.2.2.2.2.1
@[irreducible] noncomputable def na51 := zc.1.2.2.2.2.2.2.1
@[irreducible] noncomputable def nb51 := zc.1.2.2.2.2.2.2.2.1
@[irreducible] noncomputable def nc51 := zc.1.2.2.2.2.2.2.2.2.1
@[irreducible] noncomputable def h53 := zc.1.2.2.2.2.2.2.2.2.2.1
@[irreducible] noncomputable def tk53 := zc.1.2.2.2.2.2.2.2.2.2.2.1
@[irreducible] noncomputable def T53 := zc.1.2.2.2.2.2.2.2.2.2.2.2.1
@[irreducible] noncomputable def ak53 := zc.1.2.2.2.2.2.2.2.2.2.2.2.2.1
@[irreducible] noncomputable def nl53 := zc.1.2.2.2.2.2.2.2.2.2.2.2.2.2.1
@[irreducible] noncomputable def asked2 := zc.1.2.2.2.2.2.2.2.2.2.2.2.2.2.2.1
@[irreducible] noncomputable def notes2 := zc.1.2.2.2.2.2.2.2.2.2.2.2.2.2.2.2.1
@[irreducible] noncomputable def na53 := zc.1.2.2.2.2.2.2.2.2.2.2.2.2.2.2.2.2.1
@[irreducible] noncomputable def nb53 := zc.1.2.2.2.2.2.2.2.2.2.2.2.2.2.2.2.2.2.1
@[irreducible] noncomputable def nc53 := zc.1.2.2.2.2.2.2.2.2.2.2.2.2.2.2.2.2.2.2.1
@[irreducible] noncomputable def pt2 := zc.1.2.2.2.2.2.2.2.2.2.2.2.2.2.2.2.2.2.2.2.1
@[irreducible] noncomputable def R10 := zc.1.2.2.2.2.2.2.2.2.2.2.2.2.2.2.2.2.2.2.2.2
end z41
end z203
end z35
end z31
end z202
end z22
end z201
end z15
end z14
end z13
end z12
end z200
end z3
end z2
end z1
end law

namespace law
namespace z1
namespace z2
namespace z3
namespace z200
namespace z12
namespace z13
namespace z14
namespace z15
namespace z201
namespace z22
namespace z202
namespace z31
namespace z35
namespace z203
namespace z41
noncomputable def zpart41 : { R : (Prop) // Hide (R) → zpart203.1 R8 T51 ak51 nl51 asked1 notes1 na51 nb51 nc51 h53 tk53 T53 ak53 nl53 asked2 notes2 na53 nb53 nc53 pt2 R10 } := by
  refine' ⟨_, fun hP204 => ?main⟩
  case main =>
    intro hg X1 T1 K1 codeHd hI' hn2 hn5 e5' hr2 hna1 hna5 e4' ha1 hbgn hfin hsen hfst hff hzl7 hfix e3' hs1 e2' hless hq1 hQ8 hA1 hN1 hmem hsl hidx n4'' m61 m62 m63 ts2
      hA2 hN2 N53 F53 u2 u3 u4 u5 u6 u7 m51 m52 m53 y3 y4 hR8
    repeat' (first | (k_unfold; (try dsimp only)) | (k_end; kc_close) | (first | with_reducible ((with_reducible show wpAny _ _ (eval (Expr.ListComp ..) _) _ _ _); k_here; k_dflt (refine LCg.ListComp_U (F₀ := by k_asm) (by first | rfl | with_unfolding_all rfl) (by decide) (by rfl) (by decide) (by rfl) ?_)) | with_reducible ((with_reducible show LCg.CompSrc ..); k_dflt (refine stop_ ?_)) | walk1) | (dsimp only; walk1) | (leave1; (try dsimp only)))
    unfold Stop
    revert hg X1 T1 K1 codeHd hI' hn2 hn5 e5' hr2 hna1 hna5 e4' ha1 hbgn hfin hsen hfst hff hzl7 hfix e3' hs1 e2' hless hq1 hQ8 hA1 hN1 hmem hsl hidx n4'' m61 m62 m63 ts2
      hA2 hN2 N53 F53 u2 u3 u4 u5 u6 u7 m51 m52 m53 y3 y4 hR8
    exact hP204.out
end z41
end z203
end z35
end z31
end z202
end z22
end z201
end z15
end z14
end z13
end z12
end z200
end z3
end z2
end z1
end law
end
example : True := by w_top off; (try walk1); trivial
section
open PySem PySem.W PyProof.Rows PySem.Calls PySem.Spec
set_option Elab.async false
set_option maxRecDepth 100000
set_option maxHeartbeats 1000000
example : kdef.heap_1 = kdef.heap_1 ∧ PySem.Challenge.rw_xm0939_01 = PySem.Challenge.rw_xm0939_01 := by
  k_fill
  exact ⟨rfl, rfl⟩

theorem ne_int_same {prog : Program} {w : World} {A : Around} {E : Value → Shared → Prop} {s : Shared} {Q : Value → Shared → Prop} {a b : Int} {t u : Tok} (hab : a = b) (h : Q (.bool false) s) : wpAny (model prog w) A (compareOp .NotEq (.int a t) (.int b u)) Q E s := by
  subst hab
  exact PyProof.Rows.ne_int (by simpa using h)
local macro_rules | `(tactic| walk_at "compareOp NotEq int int") => `(tactic| (k_here; k_dflt (refine' ne_int_same ?nz1 ?_; (case nz1 => omega))))
namespace law
namespace z1
namespace z2
namespace z3
namespace z200
namespace z12
namespace z13
namespace z14
namespace z15
namespace z201
namespace z22
namespace z202
namespace z31
namespace z35
namespace z203
namespace z41
namespace z204

end z204
end z41
end z203
end z35
end z31
end z202
end z22
end z201
end z15
end z14
end z13
end z12
end z200
end z3
end z2
end z1
end law

namespace law
namespace z1
namespace z2
namespace z3
namespace z200
namespace z12
namespace z13
namespace z14
namespace z15
namespace z201
namespace z22
namespace z202
namespace z31
namespace z35
namespace z203
namespace z41
namespace z204
noncomputable def zpart204 : { R : ((List Nat) → (List (Addr × Obj)) → (Heap) → (List (Addr × Obj)) → (List (Int × Tok)) → (Addr) → (Heap) → (Nat) → Prop) // Hide (∀ P led54 g54 news zs9 D54 h55 tk55, R P led54 g54 news zs9 D54 h55 tk55) → zpart41.1 } := by
  refine' ⟨_, fun hP51 => ?main⟩
  case main =>
    intro hg X1 T1 K1 codeHd hI' hn2 hn5 e5' hr2 hna1 hna5 e4' ha1 hbgn hfin hsen hfst hff hzl7 hfix e3' hs1 e2' hless hq1 hQ8 hA1 hN1 hmem hsl hidx n4'' m61 m62 m63 ts2
      hA2 hN2 N53 F53 u2 u3 u4 u5 u6 u7 m51 m52 m53 y3 y4 hR8
    have hL : (machR rs).Lots ff := by
      rw [← hff]
      rw [← hff] at hfix
      exact Mach.lots_of (machR_ok hR8) hfix hfst
    have hds : (List.range n).filter (fun j => ff j == j) = (machR rs).heads ff := by unfold Mach.heads; show _ = List.filter _ (List.range rs.length); rw [hr2]
    have hbr : bg < rs.length := by exact (qlee hbgn hr2)
    have hPn := path_size rs (as.map Prod.fst) bg
    have hPl := path_lt (machR_ok hR8) (as.map Prod.fst) bg hbr
    rw [← pathR_path] at hPl
    refine cps fun zG zk => ?_
    obtain ⟨P, hP0⟩ : ∃ P, P = pathR rs bg (as.map Prod.fst) := ⟨_, rfl⟩
    refine zk ?_
    clear zk zG
    rw [← hP0] at hPn hPl hN1
    have hnl : notes1.length = as.length + 1 := by
      have := congrArg List.length hN1
      simp only [List.length_map] at this hPn
      exact (Eq.trans this hPn)
    refine cps fun zG zk => ?_
    obtain ⟨led54, hled54, N54⟩ := name_led N53
    refine zk ?_
    clear zk zG
    have in10 : ∀ e ∈ R10, e ∈ led54 := fun e he => by rw [hled54]; exact .tail _ he
    refine LCg.CompSrc.ledger rfl F53 N54 (in10 _ m53) (by rw [List.size_toArray, List.length_map, PySem.sizeLine_eq]; exact (qele hnl (qp1 (qele ha1 (Nat.le_trans hna5 (by decide)))))) ?_
    intro g54
    refine compRest_ind (IntsInv notes1.length led54 fun i => ((machR rs).heads ff).idxOf (ff (P.getD i 0))) ?_ ?_ _ 0 [] _ (Nat.zero_add _) IntsInv.start
    · intro i ys news hi hv v I2 oI C oC D m₂ h tk E' hP hC hx F₁ N₁ off ne
      rw [List.size_toArray, List.length_map] at hi
      rw [List.getElem?_toArray] at hP
      refine cps fun zG zk => ?_
      obtain ⟨t9, rfl⟩ := are_get (ints_are notes1) hP
      refine zk ?_
      clear zk zG
      have hpi : P[i]? = some (P.getD i 0) := by
        have : i < P.length := by have := hPn; simp only [List.length_map] at this; exact (qlee hi (Eq.trans this (Eq.symm hnl)))
        rw [List.getD_eq_getElem?_getD, List.getElem?_eq_getElem this]; rfl
      have hpn : P.getD i 0 < n := by rw [← hr2]; exact hPl _ (List.mem_of_getElem? hpi)
      have ev : (notes1.map Prod.fst).getD i 0 = ((P.getD i 0 : Nat) : Int) := by rw [hN1, List.getD_eq_getElem?_getD, List.getElem?_map, hpi]; rfl
      rw [ev] at hx
      generalize hpp : P.getD i 0 = pp at *
      have hnw : ∀ e ∈ led54, e ∈ news := by obtain ⟨_, _, _, _, h⟩ := hv; exact h
      have b1 := hnw _ (in10 _ u2)
      have b2 := hnw _ (in10 _ u3)
      have b3 := hnw _ (in10 _ u4)
      have b4 := hnw _ (in10 _ u5)
      refine cps fun zG zk => ?_
      obtain ⟨y1', g9⟩ := ints_get hzl7 (k := (pp : Int)) (by exact (Int.natCast_nonneg _)) (by exact (qcl hpn))
      refine zk ?_
      clear zk zG
      have hmb9 := hmem ((pp : Int).toNat) (by exact (qtl (Int.natCast_nonneg _) (qcl hpn)))
      repeat' (first | (k_unfold; (try dsimp only)) | (k_end; kc_close) | (first | with_reducible ((with_reducible show wpAny _ _ (subscriptTail (Expr.Name ..) (Expr.Name ..) (Value.ref _) (Value.int ..)) _ _ _); k_here; (with_reducible show wpAny _ _ (subscriptTail _ _ (Value.ref _) (Value.int _ _)) _ _ _); (with_unfolding_all refine' item_litK ?k1x122 ?k2x122 ?k3x122 ?k4x122 ?_ ?k6x122; (case k1x122 => refine News.isList (by k_asm) (by k_mem)); (case k4x122 => with_reducible assumption); (case k2x122 => exact (Int.natCast_nonneg _)); (case k3x122 => exact (qib (Nat.le_of_lt hpn) (q1k hn5 (by decide)))); (case k6x122 => with_unfolding_all rfl); k_whole)) | with_reducible ((with_reducible show wpAny _ _ (call (Value.builtin _) _) _ _ _); k_here; k_dflt (refine' index_ints ?ixNx123 ?ixmx123 ?ixix123 ?ixzx123 ?_; (case ixNx123 => k_asm); (case ixmx123 => k_mem); (case ixix123 => exact hmb9); (case ixzx123 => exact hsl))) | with_reducible ((with_reducible show LCg.CompEnd ..); k_dflt (refine stop_ ?_)) | walk1) | (dsimp only; walk1) | (leave1; (try dsimp only)))
      unfold Stop
      refine LCg.CompEnd.intro F₁ N₁ news (fun e he => he) off (.inr ⟨_, hnw _ (in10 _ m53), rfl, _, rfl⟩) (hv.snoc hi ?_ hnw)
      rw [hs1, idxOf_ofNat, hds, Int.toNat_natCast]
      show _ = ((((machR rs).heads ff).idxOf (ff (P.getD i 0)) : Nat) : Int)
      rw [hpp]
    · intro ys news hv
      rw [List.size_toArray, List.length_map] at hv
      refine cps fun zG zk => ?_
      obtain ⟨zs9, rfl, hz9, -, hnw⟩ := hv
      refine zk ?_
      clear zk zG
      unfold LCg.FinE
      intro D54 h55 tk55 F55 N55 o55
      have o55' := off1_ne o55
      have v1' := fun e he => hnw e (in10 e he)
      have n1 := v1' _ m51
      have n2 := v1' _ m52
      have n3 := v1' _ m53
      have n5 := v1' _ y3
      have hquot := quot_run hR8 hQ8 hL (by rw [← hds]; exact hless) (by rw [← hds]; exact hq1) hbr (by rw [← hds]; exact hidx bg hbgn) (as.map Prod.fst)
      rw [← hds] at hquot
      revert hg X1 T1 K1 codeHd hI' hn2 hn5 e5' hr2 hna1 hna5 e4' ha1 hfin hsen hzl7 e3' hA1 n4'' m61 m62 m63 ts2 hA2 hN2 u3 u5 u6 u7 m52 m53 y3 y4 hR8 hL hds hbr hPn hP0
        hnl hled54 hz9 hnw F55 N55 v1' n2 hquot
      exact hP51.out P led54 g54 news zs9 D54 h55 tk55
end z204
end z41
end z203
end z35
end z31
end z202
end z22
end z201
end z15
end z14
end z13
end z12
end z200
end z3
end z2
end z1
end law

namespace law
namespace z1
namespace z2
namespace z3
namespace z200
namespace z12
namespace z13
namespace z14
namespace z15
namespace z201
namespace z22
namespace z202
namespace z31
namespace z35
namespace z203
namespace z41
namespace z204
namespace z51
noncomputable def zc := eps (α := (List Nat) × (List (Addr × Obj)) × (Heap) × (List (Addr × Obj)) × (List (Int × Tok)) × (Addr) × (Heap) × (Nat)) ⟨default, default, {}, default, default, default, {}, default⟩ (fun c => zpart204.1 c.1 c.2.1 c.2.2.1 c.2.2.2.1 c.2.2.2.2.1 c.2.2.2.2.2.1 c.2.2.2.2.2.2.1 c.2.2.2.2.2.2.2)
@[irreducible] noncomputable def P := zc.1.1
@[irreducible] noncomputable def led54 := zc.1.2.1
@[irreducible] noncomputable def g54 := zc.1.2.2.1
@[irreducible] noncomputable def news := zc.1.2.2.2.1
@[irreducible] noncomputable def zs9 := zc.1.2.2.2.2.1
@[irreducible] noncomputable def D54 := zc.1.2.2.2.2.2.1
@[irreducible] noncomputable def h55 := zc.1.2.2.2.2.2.2.1
@[irreducible] noncomputable def tk55 := zc.1.2.2.2.2.2.2.2
end z51
end z204
end z41
end z203
end z35
end z31
end z202
end z22
end z201
end z15
end z14
end z13
end z12
end z200
end z3
end z2
end z1
end law

namespace law
namespace z1
namespace z2
namespace z3
namespace z200
namespace z12
namespace z13
namespace z14
namespace z15
namespace z201
namespace z22
namespace z202
namespace z31
namespace z35
namespace z203
namespace z41
namespace z204
namespace z51
noncomputable def zpart51 : { R : ((Addr) → (Heap) → (List (Addr × Obj)) → Prop) // Hide (∀ z52_1 z52_2 R11, R z52_1 z52_2 R11) → zpart204.1 P led54 g54 news zs9 D54 h55 tk55 } := by
  refine' ⟨_, fun hP52 => ?main⟩
  case main =>
    intro hg X1 T1 K1 codeHd hI' hn2 hn5 e5' hr2 hna1 hna5 e4' ha1 hfin hsen hzl7 e3' hA1 n4'' m61 m62 m63 ts2 hA2 hN2 u3 u5 u6 u7 m52 m53 y3 y4 hR8 hL hds hbr hPn hP0
      hnl hled54 hz9 hnw F55 N55 v1' n2 hquot
    repeat' (first | (k_unfold; (try dsimp only)) | (k_end; kc_close) | (first | with_reducible ((with_reducible show wpAny _ _ (compareOp CmpOp.NotEq (Value.ref _) (Value.ref _)) _ _ _); k_dflt (refine stop_ ?_)) | walk1) | (dsimp only; walk1) | (leave1; (try dsimp only)))
    unfold Stop
    rename News _ _ _ _ => N56
    rename Fr _ _ _ _ => F56
    refine ne_same_pair N56 (.tail _ (.tail _ (v1' _ m61))) (.tail _ (.tail _ (v1' _ m62))) (.tail _ (.tail _ (v1' _ m63))) (.head _) (.tail _ (.tail _ n2)) (.tail _ (.head _)) ?ha ?hb ?hs (by ke_room) ?_
    case ha => rw [hA2, hA1]; exact hquot.1
    case hb =>
      rw [hN2, hquot.2, ← hP0, hz9]
      refine List.ext_getElem? fun j => ?_
      have hPn' : P.length = notes1.length := by simp only [List.length_map] at hPn; exact (Eq.trans hPn (Eq.symm hnl))
      rw [List.getElem?_map, List.getElem?_map, List.getElem?_map]
      rcases Nat.lt_or_ge j P.length with hj | hj
      · rw [List.getElem?_eq_getElem hj, List.getElem?_range (by exact (qlef hj hPn'))]
        simp only [Option.map_some]
        rw [hds, List.getD_eq_getElem?_getD, List.getElem?_eq_getElem hj]
        rfl
      · rw [List.getElem?_eq_none (by exact hj), List.getElem?_eq_none (by rw [List.length_range]; exact (qelf hPn' hj))]
        rfl
    case hs => rw [hA1]; exact asks_ok hR8 hbr _
    have hal : asked1.length = as.length + 1 := by
      have := congrArg List.length hA1
      simp only [List.length_map] at this
      rw [this, ← hP0]; simpa using hPn
    refine cps fun zG zk => ?_
    obtain ⟨R11, N57, i1, i2⟩ := resplitA [(422, tabObj pt2)] N56 (by
      intro c hc
      rw [List.mem_singleton.mp hc]
      exact .tail _ (.tail _ (hnw _ (by rw [hled54]; exact .head _))))
    refine zk ?_
    clear zk zG
    have n4b : ∀ e ∈ R11, @Ne Nat e.1 422 := i2 _ (.head _)
    have hs11 : ∀ e ∈ R10, e ∈ R11 := fun e he => i1 e (.tail _ (.tail _ (v1' e he))) fun c hc => by rw [List.mem_singleton.mp hc]; exact n4'' e he
    replace u3 := hs11 _ u3
    replace u5 := hs11 _ u5
    replace u6 := hs11 _ u6
    replace u7 := hs11 _ u7
    replace m52 := hs11 _ m52
    replace m53 := hs11 _ m53
    replace y3 := hs11 _ y3
    replace y4 := hs11 _ y4
    replace hR8 : ∀ r ∈ rs, RIn rs.length R11 r := fun r hr => (hR8 r hr).mono hs11
    replace ts2 := TabS.mono ts2 (fun e he _ _ => hs11 e he)
    simp only [List.cons_append, List.nil_append] at N57
    ((try clear hsl); (try clear hmem); (try clear hquot); (try clear o55'); (try clear o55); (try clear u4); (try clear u2); (try clear m63); (try clear m62); (try clear m61); (try clear m51); (try clear hled54); (try clear in10); (try clear hnw); (try clear n5); (try clear n3); (try clear n2); (try clear n1); (try clear v1'); (try clear n4''); (try clear hs11); (try clear i2); (try clear i1); (try clear N56))
    rename_i z52_1 z52_2 z52_3 z52_4
    revert hg X1 T1 K1 codeHd hI' hn2 hn5 e5' hr2 hna1 hna5 e4' ha1 hfin hsen hzl7 e3' hL hnl F56 hal N57 n4b u3 u5 u6 u7 m52 m53 y3 y4 hR8 ts2
    exact hP52.out z52_1 z52_2 R11
end z51
end z204
end z41
end z203
end z35
end z31
end z202
end z22
end z201
end z15
end z14
end z13
end z12
end z200
end z3
end z2
end z1
end law

namespace law
namespace z1
namespace z2
namespace z3
namespace z200
namespace z12
namespace z13
namespace z14
namespace z15
namespace z201
namespace z22
namespace z202
namespace z31
namespace z35
namespace z203
namespace z41
namespace z204
namespace z51
namespace z52
noncomputable def zc := eps (α := (Addr) × (Heap) × (List (Addr × Obj))) ⟨default, {}, default⟩ (fun c => zpart51.1 c.1 c.2.1 c.2.2)
@[irreducible] noncomputable def z52_1 := zc.1.1
@[irreducible] noncomputable def z52_2 := zc.1.2.1
@[irreducible] noncomputable def R11 := zc.1.2.2
end z52
end z51
end z204
end z41
end z203
end z35
end z31
end z202
end z22
end z201
end z15
end z14
end z13
end z12
end z200
end z3
end z2
end z1
end law

namespace law
namespace z1
namespace z2
namespace z3
namespace z200
namespace z12
namespace z13
namespace z14
namespace z15
namespace z201
namespace z22
namespace z202
namespace z31
namespace z35
namespace z203
namespace z41
namespace z204
namespace z51
namespace z52
noncomputable def zpart52 : { R : ((Nat) → Prop) // Hide (∀ tk, R tk) → zpart51.1 z52_1 z52_2 R11 } := by
  refine' ⟨_, fun hP205 => ?main⟩
  case main =>
    intro hg X1 T1 K1 codeHd hI' hn2 hn5 e5' hr2 hna1 hna5 e4' ha1 hfin hsen hzl7 e3' hL hnl F56 hal N57 n4b u3 u5 u6 u7 m52 m53 y3 y4 hR8 ts2
    repeat' (first | (k_unfold; (try dsimp only)) | (k_end; kc_close) | (first | with_reducible (k_here; (with_reducible show wpAny _ _ (call (Value.builtin _) [Value.ref _]) _ _ _); k_dflt (refine' len_list ?ln1x126 ?ln2x126 ?_; (case ln1x126 => exact News.isList (by k_asm) (by k_mem)); (case ln2x126 => (simp only [List.size_toArray, List.length_map]; (first | exact (qib (Nat.le_of_eq hal) (qp1 (qele ha1 (Nat.le_trans hna5 (by decide))))) | exact (qib (qele ha1 hna5) (by decide)) | exact (qib (Nat.le_of_eq hnl) (qp1 (qele ha1 (Nat.le_trans hna5 (by decide))))) | omega))); (simp only [List.size_toArray, List.length_map]))) | with_reducible (k_here; (with_reducible show wpAny _ _ (call (Value.ref 437) _) _ _ _); k_dflt (refine stop_ ?_)) | walk1) | (dsimp only; walk1) | (leave1; (try dsimp only)))
    unfold Stop
    rename_i z205_1
    revert hg X1 T1 K1 codeHd hI' hn2 hn5 e5' hr2 hna1 hna5 e4' ha1 hfin hsen hzl7 e3' hL hnl F56 hal N57 n4b u3 u5 u6 u7 y3 y4 hR8 ts2
    exact hP205.out tk
end z52
end z51
end z204
end z41
end z203
end z35
end z31
end z202
end z22
end z201
end z15
end z14
end z13
end z12
end z200
end z3
end z2
end z1
end law
end
example : True := by w_top off; (try walk1); trivial
section
open PySem PySem.W PyProof.Rows PySem.Calls PySem.Spec
set_option Elab.async false
set_option maxRecDepth 100000
set_option maxHeartbeats 1000000
example : kdef.heap_1 = kdef.heap_1 ∧ PySem.Challenge.rw_xm0939_01 = PySem.Challenge.rw_xm0939_01 := by
  k_fill
  exact ⟨rfl, rfl⟩

section
variable {prog : Program} {w : World} {A : Around} {E : Value → Shared → Prop} {s : Shared} {Q : Value → Shared → Prop}
theorem eq_int_same {a b : Int} {t u : Tok} (hab : a = b) (h : Q (.bool true) s) : wpAny (model prog w) A (compareOp .Eq (.int a t) (.int b u)) Q E s := by
  subst hab
  exact PyProof.Rows.eq_int (by simpa using h)
theorem eq_int_diff {a b : Int} {t u : Tok} (hab : a ≠ b) (h : Q (.bool false) s) : wpAny (model prog w) A (compareOp .Eq (.int a t) (.int b u)) Q E s :=
  PyProof.Rows.eq_int (by rw [beq_eq_false_iff_ne.mpr hab]; exact h)
end
namespace law
namespace z1
namespace z2
namespace z3
namespace z200
namespace z12
namespace z13
namespace z14
namespace z15
namespace z201
namespace z22
namespace z202
namespace z31
namespace z35
namespace z203
namespace z41
namespace z204
namespace z51
namespace z52
namespace z205
noncomputable def zc := eps (α := (Nat)) ⟨default⟩ zpart52.1
@[irreducible] noncomputable def tk := zc.1
end z205
end z52
end z51
end z204
end z41
end z203
end z35
end z31
end z202
end z22
end z201
end z15
end z14
end z13
end z12
end z200
end z3
end z2
end z1
end law

namespace law
namespace z1
namespace z2
namespace z3
namespace z200
namespace z12
namespace z13
namespace z14
namespace z15
namespace z201
namespace z22
namespace z202
namespace z31
namespace z35
namespace z203
namespace z41
namespace z204
namespace z51
namespace z52
namespace z205
noncomputable def zpart205 : { R : ((Heap) → (Nat) → (Addr) → (Addr) → (Addr) → (List (Str × Tok)) → (Nat) → (Nat) → (Array Value) → (List (Addr × Obj)) → Prop) × ((Tok) → (Tok) → (Heap) → (Nat) → (Addr) → (List (Int × Tok)) → (Nat) → (List (Addr × Obj)) → Prop) // Hide (∀ h63 tk63 T63 ak63 nl63 asked3 na63 nc63 pt3 R13, R.1 h63 tk63 T63 ak63 nl63 asked3 na63 nc63 pt3 R13) → Hide (∀ tf tse h60 tk60 D60 zs60 nn60 own', R.2 tf tse h60 tk60 D60 zs60 nn60 own') → zpart52.1 tk } := by
  refine' ⟨(_, _), fun hP61 hP206 => ?main⟩
  case main =>
    intro hg X1 T1 K1 codeHd hI' hn2 hn5 e5' hr2 hna1 hna5 e4' ha1 hfin hsen hzl7 e3' hL hnl F56 hal N57 n4b u3 u5 u6 u7 y3 y4 hR8 ts2
    rename Fr _ _ _ _ => F57
    have hfr : fi < rs.length := by exact (qlee hfin hr2)
    have hsr : se < rs.length := by exact (qlee hsen hr2)
    refine cps fun zG zk => ?_
    obtain ⟨tf, gf⟩ := ints_get hzl7 (k := (fi : Int)) (by exact (Int.natCast_nonneg _)) (by exact (qcl hfin))
    obtain ⟨tse, gse⟩ := ints_get hzl7 (k := (se : Int)) (by exact (Int.natCast_nonneg _)) (by exact (qcl hsen))
    refine zk ?_
    clear zk zG
    rw [Int.toNat_natCast] at gf gse
    have gf' : (zl.map intV)[((fi : Nat) : Int).toNat]? = some (.int (ff fi) tf) := by rw [Int.toNat_natCast]; exact gf
    have gse' : (zl.map intV)[((se : Nat) : Int).toNat]? = some (.int (ff se) tse) := by rw [Int.toNat_natCast]; exact gse
    ((try clear gse); (try clear gf))
    refine wp_le (d := 480) (u := 3800) ?_ (Nat.le_of_ble_eq_true rfl) (Nat.le_of_ble_eq_true rfl)
    refine apC w (CX.mk _ _ _ _ _ _ _ _) ((422, tabObj pt2) :: R11) rs D5 _ fi se _ _ _ _ _ _ _ _ _ K1 F57 X1 T1 (fun e he => by
          rcases List.mem_cons.mp he with rfl | he
          · exact N57 _ (.tail _ y4)
          · exact N57 e he) (fun r hr => (hR8 r hr).mono fun e he => .tail _ he) (by exact (qele hr2 hn5)) hfr hsr ?_ ?_
    · intro h60 tk60 V own' F60 N60 hsub hbv
      have hsame : ff fi = ff se := hL.none (machR_ok hR8) hfr hsr hbv
      change News g0 L0 h60 _ at N60
      change Fr g0 L0 h60 _ at F60
      refine cps fun zG zk => ?_
      obtain ⟨R12, N61, i1, i2⟩ := resplitA [(422, tabObj pt2)] N60 (by
        intro c hc
        rw [List.mem_singleton.mp hc]
        exact hsub _ (.tail _ (.head _)))
      refine zk ?_
      clear zk zG
      have n4c : ∀ e ∈ R12, @Ne Nat e.1 422 := i2 _ (.head _)
      have hs12 : ∀ e ∈ R11, e ∈ R12 := fun e he => i1 e (hsub _ (.tail _ (.tail _ he))) fun c hc => by rw [List.mem_singleton.mp hc]; exact n4b e he
      replace u3 := hs12 _ u3
      replace u5 := hs12 _ u5
      replace y3 := hs12 _ y3
      replace y4 := hs12 _ y4
      replace u6 := hs12 _ u6
      replace hR8 : ∀ r ∈ rs, RIn rs.length R12 r := fun r hr => (hR8 r hr).mono hs12
      replace ts2 := TabS.mono ts2 (fun e he _ _ => hs12 e he)
      simp only [List.cons_append, List.nil_append] at N61
      ((try clear m53); (try clear m52); (try clear u7); (try clear n4b); (try clear N57); (try clear N60); (try clear hsub); (try clear hs12); (try clear i2); (try clear i1))
      dsimp only
      repeat' (first | (k_unfold; (try dsimp only)) | (k_end; kc_close) | (first | with_reducible ((with_reducible show wpAny _ _ (subscriptTail (Expr.Name ..) (Expr.Name ..) (Value.ref _) (Value.int ..)) _ _ _); k_here; (with_reducible show wpAny _ _ (subscriptTail _ _ (Value.ref _) (Value.int _ _)) _ _ _); (with_unfolding_all refine' item_litK ?k1x128 ?k2x128 ?k3x128 ?k4x128 ?_ ?k6x128; (case k1x128 => refine News.isList (by k_asm) (by k_mem)); (case k4x128 => with_reducible assumption); (case k2x128 => exact (Int.natCast_nonneg _)); (case k3x128 => (first | exact (qib (Nat.le_of_lt hfin) (q1k hn5 (by decide))) | exact (qib (Nat.le_of_lt hsen) (q1k hn5 (by decide))) | omega)); (case k6x128 => with_unfolding_all rfl); k_whole)) | with_reducible ((with_reducible show wpAny _ _ (compareOp CmpOp.Eq (Value.int ..) (Value.int ..)) _ _ _); k_here; k_dflt (first | (refine' eq_int_same ?nz1x129 ?_; (case nz1x129 => exact (qcj hsame))) | (refine' eq_int_diff ?nz1x129 ?_; (case nz1x129 => omega)))) | with_reducible (k_here; (with_reducible show wpAny _ _ (call (Value.ref 425) _) _ _ _); k_dflt (refine stop_ ?_)) | walk1) | (dsimp only; walk1) | (leave1; (try dsimp only)))
      unfold Stop
      rename News _ _ _ _ => N62
      rename Fr _ _ _ _ => F62
      refine wp_le (d := 480) (u := 3800) ?_ (Nat.le_of_ble_eq_true rfl) (Nat.le_of_ble_eq_true rfl)
      refine heard w (CX.mk _ _ _ _ _ _ _ _) R12 rs as D5 D6 _ _ fi _ _ _ _ _ _ _ _ K1 F62 X1 T1 pt2 codeHd ts2 n4c N62 y4 y3 hR8 (by exact (qele hr2 hn5)) (by exact (qele ha1 (Nat.le_trans hna5 (by decide)))) hfr rfl X1 T1 ?_
      intro h63 tk63 T63 ak63 nl63 asked3 notes3 na63 nb63 nc63 pt3 R13 F63 N63 n4d hs13 m71 m72 m73 ts3 hA3 hN3
      change News g0 L0 h63 _ at N63
      change Fr g0 L0 h63 _ at F63
      replace y3 := hs13 _ y3
      replace y4 := hs13 _ y4
      replace u6 := hs13 _ u6
      replace hR8 : ∀ r ∈ rs, RIn rs.length R13 r := fun r hr => (hR8 r hr).mono hs13
      ((try clear m73); (try clear F62); (try clear N62); (try clear hs13))
      dsimp only
      rename_i z61_1 z61_2
      revert hg X1 T1 K1 codeHd hn2 hn5 hr2 hna1 hna5 e4' ha1 hL hnl hal hfr hsr hsame n4d m71 m72 ts3 hA3 N63 F63 y3 y4 u6 hR8
      exact hP61.out h63 tk63 T63 ak63 nl63 asked3 na63 nc63 pt3 R13
    · intro h60 tk60 D60 zs60 nn60 own' F60 N60 hsub hz25 hap
      revert hg X1 T1 K1 codeHd hI' hn2 hn5 e5' hr2 e4' hfin hsen e3' hL n4b u3 u5 u6 u7 y4 hR8 ts2 hfr hsr gf' gse' F60 N60 hsub hz25 hap
      exact hP206.out tf tse h60 tk60 D60 zs60 nn60 own'
end z205
end z52
end z51
end z204
end z41
end z203
end z35
end z31
end z202
end z22
end z201
end z15
end z14
end z13
end z12
end z200
end z3
end z2
end z1
end law

namespace law
namespace z1
namespace z2
namespace z3
namespace z200
namespace z12
namespace z13
namespace z14
namespace z15
namespace z201
namespace z22
namespace z202
namespace z31
namespace z35
namespace z203
namespace z41
namespace z204
namespace z51
namespace z52
namespace z205
namespace z61
noncomputable def zc := eps (α := (Heap) × (Nat) × (Addr) × (Addr) × (Addr) × (List (Str × Tok)) × (Nat) × (Nat) × (Array Value) × (List (Addr × Obj))) ⟨{}, default, default, default, default, default, default, default, default, default⟩ (fun c => zpart205.1.1 c.1 c.2.1 c.2.2.1 c.2.2.2.1 c.2.2.2.2.1 c.2.2.2.2.2.1 c.2.2.2.2.2.2.1 c.2.2.2.2.2.2.2.1 c.2.2.2.2.2.2.2.2.1 c.2.2.2.2.2.2.2.2.2)
@[irreducible] noncomputable def h63 := zc.1.1
@[irreducible] noncomputable def tk63 := zc.1.2.1
@[irreducible] noncomputable def T63 := zc.1.2.2.1
@[irreducible] noncomputable def ak63 := zc.1.2.2.2.1
@[irreducible] noncomputable def nl63 := zc.1.2.2.2.2.1
@[irreducible] noncomputable def asked3 := zc.1.2.2.2.2.2.1
@[irreducible] noncomputable def na63 := zc.1.2.2.2.2.2.2.1
@[irreducible] noncomputable def nc63 := zc.1.2.2.2.2.2.2.2.1
@[irreducible] noncomputable def pt3 := zc.1.2.2.2.2.2.2.2.2.1
@[irreducible] noncomputable def R13 := zc.1.2.2.2.2.2.2.2.2.2
end z61
end z205
end z52
end z51
end z204
end z41
end z203
end z35
end z31
end z202
end z22
end z201
end z15
end z14
end z13
end z12
end z200
end z3
end z2
end z1
end law

namespace law
namespace z1
namespace z2
namespace z3
namespace z200
namespace z12
namespace z13
namespace z14
namespace z15
namespace z201
namespace z22
namespace z202
namespace z31
namespace z35
namespace z203
namespace z41
namespace z204
namespace z51
namespace z52
namespace z205
namespace z61
noncomputable def zpart61 : { R : ((Addr) → (Array Value) → (List (Addr × Obj)) → (Addr) → (Heap) → (Nat) → Prop) // Hide (∀ ak65 pt4 R14 z62_1 z62_7 tk, R ak65 pt4 R14 z62_1 z62_7 tk) → zpart205.1.1 h63 tk63 T63 ak63 nl63 asked3 na63 nc63 pt3 R13 } := by
  refine' ⟨_, fun hP62 => ?main⟩
  case main =>
    intro hg X1 T1 K1 codeHd hn2 hn5 hr2 hna1 hna5 e4' ha1 hL hnl hal hfr hsr hsame n4d m71 m72 ts3 hA3 N63 F63 y3 y4 u6 hR8
    repeat' (first | (k_unfold; (try dsimp only)) | (k_end; kc_close) | (first | with_reducible (k_here; (with_reducible show wpAny _ _ (call (Value.ref 425) _) _ _ _); k_dflt (refine stop_ ?_)) | walk1) | (dsimp only; walk1) | (leave1; (try dsimp only)))
    unfold Stop
    rename News _ _ _ _ => N64
    rename Fr _ _ _ _ => F64
    refine wp_le (d := 480) (u := 3800) ?_ (Nat.le_of_ble_eq_true rfl) (Nat.le_of_ble_eq_true rfl)
    refine heard w (CX.mk _ _ _ _ _ _ _ _) R13 rs as D5 D6 _ _ se _ _ _ _ _ _ _ _ K1 F64 X1 T1 pt3 codeHd ts3 n4d N64 y4 y3 hR8 (by exact (qele hr2 hn5)) (by exact (qele ha1 (Nat.le_trans hna5 (by decide)))) hsr rfl X1 T1 ?_
    intro h65 tk65 T65 ak65 nl65 asked4 notes4 na65 nb65 nc65 pt4 R14 F65 N65 n4e hs14 m81 m82 m83 ts4 hA4 hN4
    change News g0 L0 h65 _ at N65
    change Fr g0 L0 h65 _ at F65
    have m72' := hs14 _ m72
    have hR9 : ∀ r ∈ rs, RIn rs.length R14 r := fun r hr => (hR8 r hr).mono hs14
    ((try clear m83); (try clear F64); (try clear N64); (try clear hs14))
    dsimp only
    repeat' (first | (k_unfold; (try dsimp only)) | (k_end; kc_close) | (first | with_reducible ((with_reducible show wpAny _ _ (compareOp CmpOp.Eq (Value.ref _) (Value.ref _)) _ _ _); k_dflt (refine stop_ ?_)) | walk1) | (dsimp only; walk1) | (leave1; (try dsimp only)))
    unfold Stop
    rename News _ _ _ _ => N66
    refine eq_same_strs N66 (.tail _ (.tail _ m72')) (.tail _ (.tail _ m82)) ?ha ?hs (by ke_room) ?_
    case ha =>
      rw [hA3, hA4, letters hR9 hfr, letters hR9 hsr]
      exact congrArg _ (hL.path (machR_ok hR9) _ hfr hsr hsame)
    case hs => rw [hA4]; exact asks_ok hR9 hsr _
    rename_i z62_1 z62_2 z62_3 z62_4 z62_5 z62_6 z62_7 z62_8
    revert hg X1 codeHd z62_8 N66
    exact hP62.out ak65 pt4 R14 z62_1 z62_7 tk
end z61
end z205
end z52
end z51
end z204
end z41
end z203
end z35
end z31
end z202
end z22
end z201
end z15
end z14
end z13
end z12
end z200
end z3
end z2
end z1
end law

namespace law
namespace z1
namespace z2
namespace z3
namespace z200
namespace z12
namespace z13
namespace z14
namespace z15
namespace z201
namespace z22
namespace z202
namespace z31
namespace z35
namespace z203
namespace z41
namespace z204
namespace z51
namespace z52
namespace z205
namespace z61
namespace z62
noncomputable def zc := eps (α := (Addr) × (Array Value) × (List (Addr × Obj)) × (Addr) × (Heap) × (Nat)) ⟨default, default, default, default, {}, default⟩ (fun c => zpart61.1 c.1 c.2.1 c.2.2.1 c.2.2.2.1 c.2.2.2.2.1 c.2.2.2.2.2)
@[irreducible] noncomputable def ak65 := zc.1.1
@[irreducible] noncomputable def pt4 := zc.1.2.1
@[irreducible] noncomputable def R14 := zc.1.2.2.1
@[irreducible] noncomputable def z62_1 := zc.1.2.2.2.1
@[irreducible] noncomputable def z62_7 := zc.1.2.2.2.2.1
@[irreducible] noncomputable def tk := zc.1.2.2.2.2.2
end z62
end z61
end z205
end z52
end z51
end z204
end z41
end z203
end z35
end z31
end z202
end z22
end z201
end z15
end z14
end z13
end z12
end z200
end z3
end z2
end z1
end law

namespace law
namespace z1
namespace z2
namespace z3
namespace z200
namespace z12
namespace z13
namespace z14
namespace z15
namespace z201
namespace z22
namespace z202
namespace z31
namespace z35
namespace z203
namespace z41
namespace z204
namespace z51
namespace z52
namespace z205
namespace z61
namespace z62
theorem zat : zpart61.1 ak65 pt4 R14 z62_1 z62_7 tk := by
  intro hg X1 codeHd z62_8 N66
  k_steps
end z62
end z61
end z205
end z52
end z51
end z204
end z41
end z203
end z35
end z31
end z202
end z22
end z201
end z15
end z14
end z13
end z12
end z200
end z3
end z2
end z1
end law

namespace law
namespace z1
namespace z2
namespace z3
namespace z200
namespace z12
namespace z13
namespace z14
namespace z15
namespace z201
namespace z22
namespace z202
namespace z31
namespace z35
namespace z203
namespace z41
namespace z204
namespace z51
namespace z52
namespace z205
namespace z61
namespace z62
theorem zall : ∀ ak65 pt4 R14 z62_1 z62_7 tk, zpart61.1 ak65 pt4 R14 z62_1 z62_7 tk := fun ak65 pt4 R14 z62_1 z62_7 tk => @epsH _ _ zc (by with_unfolding_all exact zat) (ak65, pt4, R14, z62_1, z62_7, tk)
end z62
end z61
end z205
end z52
end z51
end z204
end z41
end z203
end z35
end z31
end z202
end z22
end z201
end z15
end z14
end z13
end z12
end z200
end z3
end z2
end z1
end law

namespace law
namespace z1
namespace z2
namespace z3
namespace z200
namespace z12
namespace z13
namespace z14
namespace z15
namespace z201
namespace z22
namespace z202
namespace z31
namespace z35
namespace z203
namespace z41
namespace z204
namespace z51
namespace z52
namespace z205
namespace z61
theorem zat : zpart205.1.1 h63 tk63 T63 ak63 nl63 asked3 na63 nc63 pt3 R13 := zpart61.2 ⟨z62.zall⟩
end z61
end z205
end z52
end z51
end z204
end z41
end z203
end z35
end z31
end z202
end z22
end z201
end z15
end z14
end z13
end z12
end z200
end z3
end z2
end z1
end law

namespace law
namespace z1
namespace z2
namespace z3
namespace z200
namespace z12
namespace z13
namespace z14
namespace z15
namespace z201
namespace z22
namespace z202
namespace z31
namespace z35
namespace z203
namespace z41
namespace z204
namespace z51
namespace z52
namespace z205
namespace z61
theorem zall : ∀ h63 tk63 T63 ak63 nl63 asked3 na63 nc63 pt3 R13, zpart205.1.1 h63 tk63 T63 ak63 nl63 asked3 na63 nc63 pt3 R13 := fun h63 tk63 T63 ak63 nl63 asked3 na63 nc63 pt3 R13 => @epsH _ _ zc (by with_unfolding_all exact zat) (h63, tk63, T63, ak63, nl63, asked3, na63, nc63, pt3, R13)
end z61
end z205
end z52
end z51
end z204
end z41
end z203
end z35
end z31
end z202
end z22
end z201
end z15
end z14
end z13
end z12
end z200
end z3
end z2
end z1
end law
end
example : True := by w_top off; (try walk1); trivial
section
open PySem PySem.W PyProof.Rows PySem.Calls PySem.Spec
set_option Elab.async false
set_option maxRecDepth 100000
set_option maxHeartbeats 1000000
example : kdef.heap_1 = kdef.heap_1 ∧ PySem.Challenge.rw_xm0939_01 = PySem.Challenge.rw_xm0939_01 := by
  k_fill
  exact ⟨rfl, rfl⟩

theorem split_last {α β : Type} {f : α → β} {as : List α} {l : List β} {c : β} (h : as.map f = l ++ [c]) : ∃ xs q, as = xs ++ [q] ∧ xs.map f = l ∧ f q = c := by
  rcases List.eq_nil_or_concat as with rfl | ⟨xs, q, rfl⟩
  · simp at h
  · rw [List.concat_eq_append] at *
    rw [List.map_append] at h
    refine cps fun zG zk => ?_
    obtain ⟨h1, h2⟩ := List.append_inj' h rfl
    refine zk ?_
    clear zk zG
    exact ⟨xs, q, rfl, h1, by simpa using h2⟩
local macro_rules | `(tactic| walk_at "subscriptTail Name Slice ref ref") => `(tactic| (k_here; k_dflt (refine' slice_front ?sfF ?sfN ?sfm ?sfz ?_ ?sfs ?sft; (case sfF => k_asm); (case sfN => k_asm); (case sfm => k_mem); (case sfz => omega); (case sfs => with_unfolding_all rfl); (case sft => kmk_pure)); intro D' h' F' N' l1; k_lt l1))
local macro_rules | `(tactic| walk_at "subscriptTail Name UnaryOp") => `(tactic| (k_here; k_dflt (refine' item_back ?ibN ?ibm ?ibz ?_; (case ibN => k_asm); (case ibm => k_mem); (case ibz => omega))))
namespace law
namespace z1
namespace z2
namespace z3
namespace z200
namespace z12
namespace z13
namespace z14
namespace z15
namespace z201
namespace z22
namespace z202
namespace z31
namespace z35
namespace z203
namespace z41
namespace z204
namespace z51
namespace z52
namespace z205
namespace z206
noncomputable def zc := eps (α := (Tok) × (Tok) × (Heap) × (Nat) × (Addr) × (List (Int × Tok)) × (Nat) × (List (Addr × Obj))) ⟨default, default, {}, default, default, default, default, default⟩ (fun c => zpart205.1.2 c.1 c.2.1 c.2.2.1 c.2.2.2.1 c.2.2.2.2.1 c.2.2.2.2.2.1 c.2.2.2.2.2.2.1 c.2.2.2.2.2.2.2)
@[irreducible] noncomputable def tf := zc.1.1
@[irreducible] noncomputable def tse := zc.1.2.1
@[irreducible] noncomputable def h60 := zc.1.2.2.1
@[irreducible] noncomputable def tk60 := zc.1.2.2.2.1
@[irreducible] noncomputable def D60 := zc.1.2.2.2.2.1
@[irreducible] noncomputable def zs60 := zc.1.2.2.2.2.2.1
@[irreducible] noncomputable def nn60 := zc.1.2.2.2.2.2.2.1
@[irreducible] noncomputable def own' := zc.1.2.2.2.2.2.2.2
end z206
end z205
end z52
end z51
end z204
end z41
end z203
end z35
end z31
end z202
end z22
end z201
end z15
end z14
end z13
end z12
end z200
end z3
end z2
end z1
end law

namespace law
namespace z1
namespace z2
namespace z3
namespace z200
namespace z12
namespace z13
namespace z14
namespace z15
namespace z201
namespace z22
namespace z202
namespace z31
namespace z35
namespace z203
namespace z41
namespace z204
namespace z51
namespace z52
namespace z205
namespace z206
noncomputable def zpart206 : { R : ((Heap) → (Nat) → (Addr) → (Addr) → (Addr) → (Nat) → (Nat) → (Array Value) → (List (Addr × Obj)) → Prop) // Hide (∀ h63 tk63 T63 ak63 nl63 na63 nc63 pt3 R13, R h63 tk63 T63 ak63 nl63 na63 nc63 pt3 R13) → zpart205.1.2 tf tse h60 tk60 D60 zs60 nn60 own' } := by
  refine' ⟨_, fun hP71 => ?main⟩
  case main =>
    intro hg X1 T1 K1 codeHd hI' hn2 hn5 e5' hr2 e4' hfin hsen e3' hL n4b u3 u5 u6 u7 y4 hR8 ts2 hfr hsr gf' gse' F60 N60 hsub hz25 hap
    have hsome := hL.some (machR_ok hR8) hfr hsr hap
    have hdiff : ff fi ≠ ff se := hsome.1
    have hshort : zs60.length + 2 ≤ n := by have := hsome.2; rw [List.length_map] at this; show _ ≤ n; rw [← hr2]; exact this
    change News g0 L0 h60 _ at N60
    change Fr g0 L0 h60 _ at F60
    refine cps fun zG zk => ?_
    obtain ⟨R12, N61, i1, i2⟩ := resplitA [(422, tabObj pt2)] N60 (by
      intro c hc
      rw [List.mem_singleton.mp hc]
      exact .tail _ (hsub _ (.tail _ (.head _))))
    refine zk ?_
    clear zk zG
    have n4c : ∀ e ∈ R12, @Ne Nat e.1 422 := i2 _ (.head _)
    have hs12 : ∀ e ∈ R11, e ∈ R12 := fun e he => i1 e (.tail _ (hsub _ (.tail _ (.tail _ he)))) fun c hc => by rw [List.mem_singleton.mp hc]; exact n4b e he
    have y7 : (D60, W.listOf (zs60.map intV).toArray nn60) ∈ R12 := i1 _ (.head _) fun c hc => by
      rw [List.mem_singleton.mp hc]
      exact news_ne N60 (.head _) (.tail _ (hsub _ (.tail _ (.head _)))) (fun e => nomatch congrArg Obj.data e)
    replace u3 := hs12 _ u3
    replace u5 := hs12 _ u5
    replace y4 := hs12 _ y4
    replace u6 := hs12 _ u6
    replace u7 := hs12 _ u7
    replace hR8 : ∀ r ∈ rs, RIn rs.length R12 r := fun r hr => (hR8 r hr).mono hs12
    replace ts2 := TabS.mono ts2 (fun e he _ _ => hs12 e he)
    simp only [List.cons_append, List.nil_append] at N61
    ((try clear y3); (try clear m53); (try clear m52); (try clear n4b); (try clear N60); (try clear hsub); (try clear hs12); (try clear i2); (try clear i1))
    dsimp only
    repeat' (first | (k_unfold; (try dsimp only)) | (k_end; kc_close) | (first | with_reducible ((with_reducible show wpAny _ _ (subscriptTail (Expr.Name ..) (Expr.Name ..) (Value.ref _) (Value.int ..)) _ _ _); k_here; (with_reducible show wpAny _ _ (subscriptTail _ _ (Value.ref _) (Value.int _ _)) _ _ _); (with_unfolding_all refine' item_litK ?k1x133 ?k2x133 ?k3x133 ?k4x133 ?_ ?k6x133; (case k1x133 => refine News.isList (by k_asm) (by k_mem)); (case k4x133 => with_reducible assumption); (case k2x133 => exact (Int.natCast_nonneg _)); (case k3x133 => (first | exact (qib (Nat.le_of_lt hfin) (q1k hn5 (by decide))) | exact (qib (Nat.le_of_lt hsen) (q1k hn5 (by decide))) | omega)); (case k6x133 => with_unfolding_all rfl); k_whole)) | with_reducible ((with_reducible show wpAny _ _ (compareOp CmpOp.Eq (Value.int ..) (Value.int ..)) _ _ _); k_here; k_dflt (first | (refine' eq_int_same ?nz1x134 ?_; (case nz1x134 => omega)) | (refine' eq_int_diff ?nz1x134 ?_; (case nz1x134 => exact (qcm hdiff))))) | with_reducible (k_here; (with_reducible show wpAny _ _ (call (Value.ref 425) _) _ _ _); k_dflt (refine stop_ ?_)) | walk1) | (dsimp only; walk1) | (leave1; (try dsimp only)))
    unfold Stop
    rename News _ _ _ _ => N62
    rename Fr _ _ _ _ => F62
    refine wp_le (d := 480) (u := 3800) ?_ (Nat.le_of_ble_eq_true rfl) (Nat.le_of_ble_eq_true rfl)
    refine heard w (CX.mk _ _ _ _ _ _ _ _) R12 rs zs60 D5 D60 _ _ fi _ _ _ _ _ _ _ _ K1 F62 X1 T1 pt2 codeHd ts2 n4c N62 y4 y7 hR8 (by exact (qele hr2 hn5)) (by exact (Nat.le_trans hz25 (by decide))) hfr rfl X1 T1 ?_
    intro h63 tk63 T63 ak63 nl63 asked3 notes3 na63 nb63 nc63 pt3 R13 F63 N63 n4d hs13 m71 m72 m73 ts3 hA3 hN3
    change News g0 L0 h63 _ at N63
    change Fr g0 L0 h63 _ at F63
    replace y4 := hs13 _ y4
    replace y7 := hs13 _ y7
    replace u6 := hs13 _ u6
    replace u7 := hs13 _ u7
    replace hR8 : ∀ r ∈ rs, RIn rs.length R13 r := fun r hr => (hR8 r hr).mono hs13
    ((try clear m73); (try clear F62); (try clear N62); (try clear hs13))
    dsimp only
    rename_i z71_1 z71_2
    revert hg X1 T1 K1 codeHd hI' hn2 hn5 e5' hr2 e4' hfr hsr hz25 hap hshort asked3 n4d m71 m72 ts3 hA3 N63 F63 y4 y7 u6 u7 hR8
    exact hP71.out h63 tk63 T63 ak63 nl63 na63 nc63 pt3 R13
end z206
end z205
end z52
end z51
end z204
end z41
end z203
end z35
end z31
end z202
end z22
end z201
end z15
end z14
end z13
end z12
end z200
end z3
end z2
end z1
end law

namespace law
namespace z1
namespace z2
namespace z3
namespace z200
namespace z12
namespace z13
namespace z14
namespace z15
namespace z201
namespace z22
namespace z202
namespace z31
namespace z35
namespace z203
namespace z41
namespace z204
namespace z51
namespace z52
namespace z205
namespace z206
namespace z71
noncomputable def zc := eps (α := (Heap) × (Nat) × (Addr) × (Addr) × (Addr) × (Nat) × (Nat) × (Array Value) × (List (Addr × Obj))) ⟨{}, default, default, default, default, default, default, default, default⟩ (fun c => zpart206.1 c.1 c.2.1 c.2.2.1 c.2.2.2.1 c.2.2.2.2.1 c.2.2.2.2.2.1 c.2.2.2.2.2.2.1 c.2.2.2.2.2.2.2.1 c.2.2.2.2.2.2.2.2)
@[irreducible] noncomputable def h63 := zc.1.1
@[irreducible] noncomputable def tk63 := zc.1.2.1
@[irreducible] noncomputable def T63 := zc.1.2.2.1
@[irreducible] noncomputable def ak63 := zc.1.2.2.2.1
@[irreducible] noncomputable def nl63 := zc.1.2.2.2.2.1
@[irreducible] noncomputable def na63 := zc.1.2.2.2.2.2.1
@[irreducible] noncomputable def nc63 := zc.1.2.2.2.2.2.2.1
@[irreducible] noncomputable def pt3 := zc.1.2.2.2.2.2.2.2.1
@[irreducible] noncomputable def R13 := zc.1.2.2.2.2.2.2.2.2
end z71
end z206
end z205
end z52
end z51
end z204
end z41
end z203
end z35
end z31
end z202
end z22
end z201
end z15
end z14
end z13
end z12
end z200
end z3
end z2
end z1
end law

namespace law
namespace z1
namespace z2
namespace z3
namespace z200
namespace z12
namespace z13
namespace z14
namespace z15
namespace z201
namespace z22
namespace z202
namespace z31
namespace z35
namespace z203
namespace z41
namespace z204
namespace z51
namespace z52
namespace z205
namespace z206
namespace z71
noncomputable def zpart71 : { R : ((Heap) → (Nat) → (Addr) → (Addr) → (Addr) → (Nat) → (Nat) → (Array Value) → (List (Addr × Obj)) → (List Int) → (List (Str × Tok)) → (Str × Tok) → (List (Str × Tok)) → (Str × Tok) → Prop) // Hide (∀ h65 tk65 T65 ak65 nl65 na65 nc65 pt4 R14 pre xs3 q3 xs4 q4, R h65 tk65 T65 ak65 nl65 na65 nc65 pt4 R14 pre xs3 q3 xs4 q4) → zpart206.1 h63 tk63 T63 ak63 nl63 na63 nc63 pt3 R13 } := by
  refine' ⟨_, fun hP72 => ?main⟩
  case main =>
    intro hg X1 T1 K1 codeHd hI' hn2 hn5 e5' hr2 e4' hfr hsr hz25 hap hshort asked3 n4d m71 m72 ts3 hA3 N63 F63 y4 y7 u6 u7 hR8
    repeat' (first | (k_unfold; (try dsimp only)) | (k_end; kc_close) | (first | with_reducible (k_here; (with_reducible show wpAny _ _ (call (Value.ref 425) _) _ _ _); k_dflt (refine stop_ ?_)) | walk1) | (dsimp only; walk1) | (leave1; (try dsimp only)))
    unfold Stop
    rename News _ _ _ _ => N64
    rename Fr _ _ _ _ => F64
    refine wp_le (d := 480) (u := 3800) ?_ (Nat.le_of_ble_eq_true rfl) (Nat.le_of_ble_eq_true rfl)
    refine heard w (CX.mk _ _ _ _ _ _ _ _) R13 rs zs60 D5 D60 _ _ se _ _ _ _ _ _ _ _ K1 F64 X1 T1 pt3 codeHd ts3 n4d N64 y4 y7 hR8 (by exact (qele hr2 hn5)) (by exact (Nat.le_trans hz25 (by decide))) hsr rfl X1 T1 ?_
    intro h65 tk65 T65 ak65 nl65 asked4 notes4 na65 nb65 nc65 pt4 R14 F65 N65 n4e hs14 m81 m82 m83 ts4 hA4 hN4
    change News g0 L0 h65 _ at N65
    change Fr g0 L0 h65 _ at F65
    have hR9 : ∀ r ∈ rs, RIn rs.length R14 r := fun r hr => (hR8 r hr).mono hs14
    replace m72 := hs14 _ m72
    replace y7 := hs14 _ y7
    replace u7 := hs14 _ u7
    have hok3 := asks_ok hR9 hfr (zs60.map Prod.fst)
    have hok4 := asks_ok hR9 hsr (zs60.map Prod.fst)
    have hz3 := path_size rs (zs60.map Prod.fst) fi
    rw [letters hR9 hfr] at hA3 hok3
    rw [letters hR9 hsr] at hA4 hok4
    refine cps fun zG zk => ?_
    obtain ⟨pre, xa, xb, hw1, hw2, hxab⟩ := hap.words
    refine zk ?_
    clear zk zG
    have hx01 : (xa = 0 ∨ xa = 1) ∧ (xb = 0 ∨ xb = 1) := by
      refine ⟨?_, ?_⟩
      · have : xa ∈ ((machR rs).path fi (zs60.map Prod.fst)).map (machR rs).lt := by rw [hw1]; simp
        refine cps fun zG zk => ?_
        obtain ⟨i, hi, rfl⟩ := List.mem_map.mp this
        refine zk ?_
        clear zk zG
        exact lt_01 hR9 (path_lt (machR_ok hR9) _ _ hfr i hi)
      · have : xb ∈ ((machR rs).path se (zs60.map Prod.fst)).map (machR rs).lt := by rw [hw2]; simp
        refine cps fun zG zk => ?_
        obtain ⟨i, hi, rfl⟩ := List.mem_map.mp this
        refine zk ?_
        clear zk zG
        exact lt_01 hR9 (path_lt (machR_ok hR9) _ _ hsr i hi)
    rw [hw1, List.map_append] at hA3
    rw [hw2, List.map_append] at hA4 hok4
    have hplen : pre.length ≤ 30 := by
      have := congrArg List.length hw1
      rw [List.length_map, ← pathR_path, hz3] at this
      simp only [List.length_map, List.length_append, List.length_singleton] at this
      exact (q01' (qar (qelf this (qp1 (Nat.le_trans hz25 (by decide)))) (qles qls')))
    refine cps fun zG zk => ?_
    obtain ⟨xs3, q3, rfl, hx3, hq3⟩ := split_last hA3
    obtain ⟨xs4, q4, rfl, hx4, hq4⟩ := split_last hA4
    refine zk ?_
    clear zk zG
    have hxx : xs3.map Prod.fst = xs4.map Prod.fst := hx3.trans hx4.symm
    have hxok : ∀ x ∈ xs4.map Prod.fst, PyData.strOk x = true := fun x hx => hok4 x (by rw [hx4] at hx; exact List.mem_append_left _ hx)
    have hqq : (q3.1 != q4.1) = true := by
      rw [hq3, hq4, bne_iff_ne]
      exact fun e => hxab (letZ_inj hx01.1 hx01.2 e)
    have l3 : xs3.length ≤ 100 := by have := congrArg List.length hx3; simp only [List.length_map] at this; exact (qele this (Nat.le_trans hplen (by decide)))
    have l4 : xs4.length ≤ 100 := by have := congrArg List.length hx4; simp only [List.length_map] at this; exact (qele this (Nat.le_trans hplen (by decide)))
    ((try clear m83); (try clear F64); (try clear N64); (try clear hs14))
    dsimp only
    revert hg X1 T1 codeHd hI' e5' hr2 hz25 hshort m81 N65 F65 y7 u7 m72 m82 hxx hxok hqq l3 l4
    exact hP72.out h65 tk65 T65 ak65 nl65 na65 nc65 pt4 R14 pre xs3 q3 xs4 q4
end z71
end z206
end z205
end z52
end z51
end z204
end z41
end z203
end z35
end z31
end z202
end z22
end z201
end z15
end z14
end z13
end z12
end z200
end z3
end z2
end z1
end law

namespace law
namespace z1
namespace z2
namespace z3
namespace z200
namespace z12
namespace z13
namespace z14
namespace z15
namespace z201
namespace z22
namespace z202
namespace z31
namespace z35
namespace z203
namespace z41
namespace z204
namespace z51
namespace z52
namespace z205
namespace z206
namespace z71
namespace z72
noncomputable def zc := eps (α := (Heap) × (Nat) × (Addr) × (Addr) × (Addr) × (Nat) × (Nat) × (Array Value) × (List (Addr × Obj)) × (List Int) × (List (Str × Tok)) × (Str × Tok) × (List (Str × Tok)) × (Str × Tok)) ⟨{}, default, default, default, default, default, default, default, default, default, default, default, default, default⟩ (fun c => zpart71.1 c.1 c.2.1 c.2.2.1 c.2.2.2.1 c.2.2.2.2.1 c.2.2.2.2.2.1 c.2.2.2.2.2.2.1 c.2.2.2.2.2.2.2.1 c.2.2.2.2.2.2.2.2.1 c.2.2.2.2.2.2.2.2.2.1 c.2.2.2.2.2.2.2.2.2.2.1 c.2.2.2.2.2.2.2.2.2.2.2.1 c.2.2.2.2.2.2.2.2.2.2.2.2.1 c.2.2.2.2.2.2.2.2.2.2.2.2.2)
@[irreducible] noncomputable def h65 := zc.1.1
@[irreducible] noncomputable def tk65 := zc.1.2.1
@[irreducible] noncomputable def T65 := zc.1.2.2.1
@[irreducible] noncomputable def ak65 := zc.1.2.2.2.1
@[irreducible] noncomputable def nl65 := zc.1.2.2.2.2.1
@[irreducible] noncomputable def na65 := zc.1.2.2.2.2.2.1
@[irreducible] noncomputable def nc65 := zc.1.2.2.2.2.2.2.1
@[irreducible] noncomputable def pt4 := zc.1.2.2.2.2.2.2.2.1
@[irreducible] noncomputable def R14 := zc.1.2.2.2.2.2.2.2.2.1
@[irreducible] noncomputable def pre := zc.1.2.2.2.2.2.2.2.2.2.1
@[irreducible] noncomputable def xs3 := zc.1.2.2.2.2.2.2.2.2.2.2.1
@[irreducible] noncomputable def q3 := zc.1.2.2.2.2.2.2.2.2.2.2.2.1
@[irreducible] noncomputable def xs4 := zc.1.2.2.2.2.2.2.2.2.2.2.2.2.1
@[irreducible] noncomputable def q4 := zc.1.2.2.2.2.2.2.2.2.2.2.2.2.2
end z72
end z71
end z206
end z205
end z52
end z51
end z204
end z41
end z203
end z35
end z31
end z202
end z22
end z201
end z15
end z14
end z13
end z12
end z200
end z3
end z2
end z1
end law

namespace law
namespace z1
namespace z2
namespace z3
namespace z200
namespace z12
namespace z13
namespace z14
namespace z15
namespace z201
namespace z22
namespace z202
namespace z31
namespace z35
namespace z203
namespace z41
namespace z204
namespace z51
namespace z52
namespace z205
namespace z206
namespace z71
namespace z72
theorem zat : zpart71.1 h65 tk65 T65 ak65 nl65 na65 nc65 pt4 R14 pre xs3 q3 xs4 q4 := by
  intro hg X1 T1 codeHd hI' e5' hr2 hz25 hshort m81 N65 F65 y7 u7 m72 m82 hxx hxok hqq l3 l4
  repeat' (first | (k_unfold; (try dsimp only)) | (k_end; kc_close) | (first | with_reducible (k_here; (with_reducible show wpAny _ _ (call (Value.builtin _) [Value.ref _]) _ _ _); k_dflt (refine' len_list ?ln1x137 ?ln2x137 ?_; (case ln1x137 => exact News.isList (by k_asm) (by k_mem)); (case ln2x137 => (simp only [List.size_toArray, List.length_map]; exact (qib hz25 (by decide)))); (simp only [List.size_toArray, List.length_map]))) | with_reducible ((with_reducible show wpAny _ _ (compareOp CmpOp.Eq (Value.ref _) (Value.ref _)) _ _ _); k_here; k_dflt (refine' eq_same_strs ?esNx138 ?esax138 ?esbx138 hxx hxok ?esux138 ?_; (case esNx138 => k_asm); (case esax138 => k_mem); (case esbx138 => k_mem); (case esux138 => ke_room))) | with_reducible ((with_reducible show wpAny _ _ (compareOp CmpOp.NotEq (Value.str ..) (Value.str ..)) _ _ _); k_here; k_dflt (refine' ne_str_t hqq ?_)) | walk1) | (dsimp only; walk1) | (leave1; (try dsimp only)))
end z72
end z71
end z206
end z205
end z52
end z51
end z204
end z41
end z203
end z35
end z31
end z202
end z22
end z201
end z15
end z14
end z13
end z12
end z200
end z3
end z2
end z1
end law

namespace law
namespace z1
namespace z2
namespace z3
namespace z200
namespace z12
namespace z13
namespace z14
namespace z15
namespace z201
namespace z22
namespace z202
namespace z31
namespace z35
namespace z203
namespace z41
namespace z204
namespace z51
namespace z52
namespace z205
namespace z206
namespace z71
namespace z72
theorem zall : ∀ h65 tk65 T65 ak65 nl65 na65 nc65 pt4 R14 pre xs3 q3 xs4 q4, zpart71.1 h65 tk65 T65 ak65 nl65 na65 nc65 pt4 R14 pre xs3 q3 xs4 q4 := fun h65 tk65 T65 ak65 nl65 na65 nc65 pt4 R14 pre xs3 q3 xs4 q4 => @epsH _ _ zc (by with_unfolding_all exact zat) (h65, tk65, T65, ak65, nl65, na65, nc65, pt4, R14, pre, xs3, q3, xs4, q4)
end z72
end z71
end z206
end z205
end z52
end z51
end z204
end z41
end z203
end z35
end z31
end z202
end z22
end z201
end z15
end z14
end z13
end z12
end z200
end z3
end z2
end z1
end law

namespace law
namespace z1
namespace z2
namespace z3
namespace z200
namespace z12
namespace z13
namespace z14
namespace z15
namespace z201
namespace z22
namespace z202
namespace z31
namespace z35
namespace z203
namespace z41
namespace z204
namespace z51
namespace z52
namespace z205
namespace z206
namespace z71
theorem zat : zpart206.1 h63 tk63 T63 ak63 nl63 na63 nc63 pt3 R13 := zpart71.2 ⟨z72.zall⟩
end z71
end z206
end z205
end z52
end z51
end z204
end z41
end z203
end z35
end z31
end z202
end z22
end z201
end z15
end z14
end z13
end z12
end z200
end z3
end z2
end z1
end law

namespace law
namespace z1
namespace z2
namespace z3
namespace z200
namespace z12
namespace z13
namespace z14
namespace z15
namespace z201
namespace z22
namespace z202
namespace z31
namespace z35
namespace z203
namespace z41
namespace z204
namespace z51
namespace z52
namespace z205
namespace z206
namespace z71
theorem zall : ∀ h63 tk63 T63 ak63 nl63 na63 nc63 pt3 R13, zpart206.1 h63 tk63 T63 ak63 nl63 na63 nc63 pt3 R13 := fun h63 tk63 T63 ak63 nl63 na63 nc63 pt3 R13 => @epsH _ _ zc (by with_unfolding_all exact zat) (h63, tk63, T63, ak63, nl63, na63, nc63, pt3, R13)
end z71
end z206
end z205
end z52
end z51
end z204
end z41
end z203
end z35
end z31
end z202
end z22
end z201
end z15
end z14
end z13
end z12
end z200
end z3
end z2
end z1
end law

namespace law
namespace z1
namespace z2
namespace z3
namespace z200
namespace z12
namespace z13
namespace z14
namespace z15
namespace z201
namespace z22
namespace z202
namespace z31
namespace z35
namespace z203
namespace z41
namespace z204
namespace z51
namespace z52
namespace z205
namespace z206
theorem zat : zpart205.1.2 tf tse h60 tk60 D60 zs60 nn60 own' := zpart206.2 ⟨z71.zall⟩
end z206
end z205
end z52
end z51
end z204
end z41
end z203
end z35
end z31
end z202
end z22
end z201
end z15
end z14
end z13
end z12
end z200
end z3
end z2
end z1
end law

namespace law
namespace z1
namespace z2
namespace z3
namespace z200
namespace z12
namespace z13
namespace z14
namespace z15
namespace z201
namespace z22
namespace z202
namespace z31
namespace z35
namespace z203
namespace z41
namespace z204
namespace z51
namespace z52
namespace z205
namespace z206
theorem zall : ∀ tf tse h60 tk60 D60 zs60 nn60 own', zpart205.1.2 tf tse h60 tk60 D60 zs60 nn60 own' := fun tf tse h60 tk60 D60 zs60 nn60 own' => @epsH _ _ zc (by with_unfolding_all exact zat) (tf, tse, h60, tk60, D60, zs60, nn60, own')
end z206
end z205
end z52
end z51
end z204
end z41
end z203
end z35
end z31
end z202
end z22
end z201
end z15
end z14
end z13
end z12
end z200
end z3
end z2
end z1
end law

namespace law
namespace z1
namespace z2
namespace z3
namespace z200
namespace z12
namespace z13
namespace z14
namespace z15
namespace z201
namespace z22
namespace z202
namespace z31
namespace z35
namespace z203
namespace z41
namespace z204
namespace z51
namespace z52
namespace z205
theorem zat : zpart52.1 tk := zpart205.2 ⟨z61.zall⟩ ⟨z206.zall⟩
end z205
end z52
end z51
end z204
end z41
end z203
end z35
end z31
end z202
end z22
end z201
end z15
end z14
end z13
end z12
end z200
end z3
end z2
end z1
end law

namespace law
namespace z1
namespace z2
namespace z3
namespace z200
namespace z12
namespace z13
namespace z14
namespace z15
namespace z201
namespace z22
namespace z202
namespace z31
namespace z35
namespace z203
namespace z41
namespace z204
namespace z51
namespace z52
namespace z205
theorem zall : ∀ tk, zpart52.1 tk := fun tk => @epsH _ _ zc (by with_unfolding_all exact zat) tk
end z205
end z52
end z51
end z204
end z41
end z203
end z35
end z31
end z202
end z22
end z201
end z15
end z14
end z13
end z12
end z200
end z3
end z2
end z1
end law

namespace law
namespace z1
namespace z2
namespace z3
namespace z200
namespace z12
namespace z13
namespace z14
namespace z15
namespace z201
namespace z22
namespace z202
namespace z31
namespace z35
namespace z203
namespace z41
namespace z204
namespace z51
namespace z52
theorem zat : zpart51.1 z52_1 z52_2 R11 := zpart52.2 ⟨z205.zall⟩
end z52
end z51
end z204
end z41
end z203
end z35
end z31
end z202
end z22
end z201
end z15
end z14
end z13
end z12
end z200
end z3
end z2
end z1
end law

namespace law
namespace z1
namespace z2
namespace z3
namespace z200
namespace z12
namespace z13
namespace z14
namespace z15
namespace z201
namespace z22
namespace z202
namespace z31
namespace z35
namespace z203
namespace z41
namespace z204
namespace z51
namespace z52
theorem zall : ∀ z52_1 z52_2 R11, zpart51.1 z52_1 z52_2 R11 := fun z52_1 z52_2 R11 => @epsH _ _ zc (by with_unfolding_all exact zat) (z52_1, z52_2, R11)
end z52
end z51
end z204
end z41
end z203
end z35
end z31
end z202
end z22
end z201
end z15
end z14
end z13
end z12
end z200
end z3
end z2
end z1
end law

namespace law
namespace z1
namespace z2
namespace z3
namespace z200
namespace z12
namespace z13
namespace z14
namespace z15
namespace z201
namespace z22
namespace z202
namespace z31
namespace z35
namespace z203
namespace z41
namespace z204
namespace z51
theorem zat : zpart204.1 P led54 g54 news zs9 D54 h55 tk55 := zpart51.2 ⟨z52.zall⟩
end z51
end z204
end z41
end z203
end z35
end z31
end z202
end z22
end z201
end z15
end z14
end z13
end z12
end z200
end z3
end z2
end z1
end law

namespace law
namespace z1
namespace z2
namespace z3
namespace z200
namespace z12
namespace z13
namespace z14
namespace z15
namespace z201
namespace z22
namespace z202
namespace z31
namespace z35
namespace z203
namespace z41
namespace z204
namespace z51
theorem zall : ∀ P led54 g54 news zs9 D54 h55 tk55, zpart204.1 P led54 g54 news zs9 D54 h55 tk55 := fun P led54 g54 news zs9 D54 h55 tk55 => @epsH _ _ zc (by with_unfolding_all exact zat) (P, led54, g54, news, zs9, D54, h55, tk55)
end z51
end z204
end z41
end z203
end z35
end z31
end z202
end z22
end z201
end z15
end z14
end z13
end z12
end z200
end z3
end z2
end z1
end law

namespace law
namespace z1
namespace z2
namespace z3
namespace z200
namespace z12
namespace z13
namespace z14
namespace z15
namespace z201
namespace z22
namespace z202
namespace z31
namespace z35
namespace z203
namespace z41
namespace z204
theorem zat : zpart41.1 := zpart204.2 ⟨z51.zall⟩
end z204
end z41
end z203
end z35
end z31
end z202
end z22
end z201
end z15
end z14
end z13
end z12
end z200
end z3
end z2
end z1
end law

namespace law
namespace z1
namespace z2
namespace z3
namespace z200
namespace z12
namespace z13
namespace z14
namespace z15
namespace z201
namespace z22
namespace z202
namespace z31
namespace z35
namespace z203
namespace z41
namespace z204
theorem zall : zpart41.1 := zat
end z204
end z41
end z203
end z35
end z31
end z202
end z22
end z201
end z15
end z14
end z13
end z12
end z200
end z3
end z2
end z1
end law

namespace law
namespace z1
namespace z2
namespace z3
namespace z200
namespace z12
namespace z13
namespace z14
namespace z15
namespace z201
namespace z22
namespace z202
namespace z31
namespace z35
namespace z203
namespace z41
theorem zat : zpart203.1 R8 T51 ak51 nl51 asked1 notes1 na51 nb51 nc51 h53 tk53 T53 ak53 nl53 asked2 notes2 na53 nb53 nc53 pt2 R10 := zpart41.2 ⟨z204.zall⟩
end z41
end z203
end z35
end z31
end z202
end z22
end z201
end z15
end z14
end z13
end z12
end z200
end z3
end z2
end z1
end law

namespace law
namespace z1
namespace z2
namespace z3
namespace z200
namespace z12
namespace z13
namespace z14
namespace z15
namespace z201
namespace z22
namespace z202
namespace z31
namespace z35
namespace z203
namespace z41
theorem zall : ∀ R8 T51 ak51 nl51 asked1 notes1 na51 nb51 nc51 h53 tk53 T53 ak53 nl53 asked2 notes2 na53 nb53 nc53 pt2 R10, zpart203.1 R8 T51 ak51 nl51 asked1 notes1 na51 nb51 nc51 h53 tk53 T53 ak53 nl53 asked2 notes2 na53 nb53 nc53 pt2 R10 := fun R8 T51 ak51 nl51 asked1 notes1 na51 nb51 nc51 h53 tk53 T53 ak53 nl53 asked2 notes2 na53 nb53 nc53 pt2 R10 => @epsH _ _ zc (by with_unfolding_all exact zat) (R8, T51, ak51, nl51, asked1, notes1, na51, nb51, nc51, h53, tk53, T53, ak53, nl53, asked2, notes2, na53, nb53, nc53, pt2, R10)
end z41
end z203
end z35
end z31
end z202
end z22
end z201
end z15
end z14
end z13
end z12
end z200
end z3
end z2
end z1
end law

namespace law
namespace z1
namespace z2
namespace z3
namespace z200
namespace z12
namespace z13
namespace z14
namespace z15
namespace z201
namespace z22
namespace z202
namespace z31
namespace z35
namespace z203
theorem zat : zpart35.1 := zpart203.2 ⟨z41.zall⟩
end z203
end z35
end z31
end z202
end z22
end z201
end z15
end z14
end z13
end z12
end z200
end z3
end z2
end z1
end law

namespace law
namespace z1
namespace z2
namespace z3
namespace z200
namespace z12
namespace z13
namespace z14
namespace z15
namespace z201
namespace z22
namespace z202
namespace z31
namespace z35
namespace z203
theorem zall : zpart35.1 := zat
end z203
end z35
end z31
end z202
end z22
end z201
end z15
end z14
end z13
end z12
end z200
end z3
end z2
end z1
end law

namespace law
namespace z1
namespace z2
namespace z3
namespace z200
namespace z12
namespace z13
namespace z14
namespace z15
namespace z201
namespace z22
namespace z202
namespace z31
namespace z35
theorem zat : zpart31.1.2 m₁ h₁ tk₁ qs k oh rest' := zpart35.2 ⟨z203.zall⟩
end z35
end z31
end z202
end z22
end z201
end z15
end z14
end z13
end z12
end z200
end z3
end z2
end z1
end law

namespace law
namespace z1
namespace z2
namespace z3
namespace z200
namespace z12
namespace z13
namespace z14
namespace z15
namespace z201
namespace z22
namespace z202
namespace z31
namespace z35
theorem zall : ∀ m₁ h₁ tk₁ qs k oh rest', zpart31.1.2 m₁ h₁ tk₁ qs k oh rest' := fun m₁ h₁ tk₁ qs k oh rest' => @epsH _ _ zc (by with_unfolding_all exact zat) (m₁, h₁, tk₁, qs, k, oh, rest')
end z35
end z31
end z202
end z22
end z201
end z15
end z14
end z13
end z12
end z200
end z3
end z2
end z1
end law

namespace law
namespace z1
namespace z2
namespace z3
namespace z200
namespace z12
namespace z13
namespace z14
namespace z15
namespace z201
namespace z22
namespace z202
namespace z31
theorem zat : zpart202.1 I := zpart31.2 ⟨z32.zall⟩ ⟨z35.zall⟩
end z31
end z202
end z22
end z201
end z15
end z14
end z13
end z12
end z200
end z3
end z2
end z1
end law

namespace law
namespace z1
namespace z2
namespace z3
namespace z200
namespace z12
namespace z13
namespace z14
namespace z15
namespace z201
namespace z22
namespace z202
namespace z31
theorem zall : ∀ I, zpart202.1 I := fun I => @epsH _ _ zc (by with_unfolding_all exact zat) I
end z31
end z202
end z22
end z201
end z15
end z14
end z13
end z12
end z200
end z3
end z2
end z1
end law

namespace law
namespace z1
namespace z2
namespace z3
namespace z200
namespace z12
namespace z13
namespace z14
namespace z15
namespace z201
namespace z22
namespace z202
theorem zat : zpart22.1 ll Dt o2' h31 tk rest6 := zpart202.2 ⟨z31.zall⟩
end z202
end z22
end z201
end z15
end z14
end z13
end z12
end z200
end z3
end z2
end z1
end law

namespace law
namespace z1
namespace z2
namespace z3
namespace z200
namespace z12
namespace z13
namespace z14
namespace z15
namespace z201
namespace z22
namespace z202
theorem zall : ∀ ll Dt o2' h31 tk rest6, zpart22.1 ll Dt o2' h31 tk rest6 := fun ll Dt o2' h31 tk rest6 => @epsH _ _ zc (by with_unfolding_all exact zat) (ll, Dt, o2', h31, tk, rest6)
end z202
end z22
end z201
end z15
end z14
end z13
end z12
end z200
end z3
end z2
end z1
end law

namespace law
namespace z1
namespace z2
namespace z3
namespace z200
namespace z12
namespace z13
namespace z14
namespace z15
namespace z201
namespace z22
theorem zat : zpart201.1.2 ff h22 o3' tk h23 tk23 g24 hs D8 h25 tk25 R5 := zpart22.2 ⟨z202.zall⟩
end z22
end z201
end z15
end z14
end z13
end z12
end z200
end z3
end z2
end z1
end law

namespace law
namespace z1
namespace z2
namespace z3
namespace z200
namespace z12
namespace z13
namespace z14
namespace z15
namespace z201
namespace z22
theorem zall : ∀ ff h22 o3' tk h23 tk23 g24 hs D8 h25 tk25 R5, zpart201.1.2 ff h22 o3' tk h23 tk23 g24 hs D8 h25 tk25 R5 := fun ff h22 o3' tk h23 tk23 g24 hs D8 h25 tk25 R5 => @epsH _ _ zc (by with_unfolding_all exact zat) (ff, h22, o3', tk, h23, tk23, g24, hs, D8, h25, tk25, R5)
end z22
end z201
end z15
end z14
end z13
end z12
end z200
end z3
end z2
end z1
end law

namespace law
namespace z1
namespace z2
namespace z3
namespace z200
namespace z12
namespace z13
namespace z14
namespace z15
namespace z201
theorem zat : zpart15.1 z201_1 bg fi se h20 tk20 D7 zl kk nl R4 := zpart201.2 ⟨z21.zall⟩ ⟨z22.zall⟩
end z201
end z15
end z14
end z13
end z12
end z200
end z3
end z2
end z1
end law

namespace law
namespace z1
namespace z2
namespace z3
namespace z200
namespace z12
namespace z13
namespace z14
namespace z15
namespace z201
theorem zall : ∀ z201_1 bg fi se h20 tk20 D7 zl kk nl R4, zpart15.1 z201_1 bg fi se h20 tk20 D7 zl kk nl R4 := fun z201_1 bg fi se h20 tk20 D7 zl kk nl R4 => @epsH _ _ zc (by with_unfolding_all exact zat) (z201_1, bg, fi, se, h20, tk20, D7, zl, kk, nl, R4)
end z201
end z15
end z14
end z13
end z12
end z200
end z3
end z2
end z1
end law

namespace law
namespace z1
namespace z2
namespace z3
namespace z200
namespace z12
namespace z13
namespace z14
namespace z15
theorem zat : zpart14.1 as D6 h16 tk16 R3 c2 t2 := zpart15.2 ⟨z201.zall⟩
end z15
end z14
end z13
end z12
end z200
end z3
end z2
end z1
end law

namespace law
namespace z1
namespace z2
namespace z3
namespace z200
namespace z12
namespace z13
namespace z14
namespace z15
theorem zall : ∀ as D6 h16 tk16 R3 c2 t2, zpart14.1 as D6 h16 tk16 R3 c2 t2 := fun as D6 h16 tk16 R3 c2 t2 => @epsH _ _ zc (by with_unfolding_all exact zat) (as, D6, h16, tk16, R3, c2, t2)
end z15
end z14
end z13
end z12
end z200
end z3
end z2
end z1
end law

namespace law
namespace z1
namespace z2
namespace z3
namespace z200
namespace z12
namespace z13
namespace z14
theorem zat : zpart13.1 z14_1 o4' h14 tk14 led14 g15 := zpart14.2 ⟨z15.zall⟩
end z14
end z13
end z12
end z200
end z3
end z2
end z1
end law

namespace law
namespace z1
namespace z2
namespace z3
namespace z200
namespace z12
namespace z13
namespace z14
theorem zall : ∀ z14_1 o4' h14 tk14 led14 g15, zpart13.1 z14_1 o4' h14 tk14 led14 g15 := fun z14_1 o4' h14 tk14 led14 g15 => @epsH _ _ zc (by with_unfolding_all exact zat) (z14_1, o4', h14, tk14, led14, g15)
end z14
end z13
end z12
end z200
end z3
end z2
end z1
end law

namespace law
namespace z1
namespace z2
namespace z3
namespace z200
namespace z12
namespace z13
theorem zat : zpart12.1 rs D5 h12 tk12 R2 c1 t1 na := zpart13.2 ⟨z14.zall⟩
end z13
end z12
end z200
end z3
end z2
end z1
end law

namespace law
namespace z1
namespace z2
namespace z3
namespace z200
namespace z12
namespace z13
theorem zall : ∀ rs D5 h12 tk12 R2 c1 t1 na, zpart12.1 rs D5 h12 tk12 R2 c1 t1 na := fun rs D5 h12 tk12 R2 c1 t1 na => @epsH _ _ zc (by with_unfolding_all exact zat) (rs, D5, h12, tk12, R2, c1, t1, na)
end z13
end z12
end z200
end z3
end z2
end z1
end law

namespace law
namespace z1
namespace z2
namespace z3
namespace z200
namespace z12
theorem zat : zpart200.1 c0 t0 n z12_1 o6' tk h8 o5' D4 h9 zs4 led9 g10 := zpart12.2 ⟨z13.zall⟩
end z12
end z200
end z3
end z2
end z1
end law

namespace law
namespace z1
namespace z2
namespace z3
namespace z200
namespace z12
theorem zall : ∀ c0 t0 n z12_1 o6' tk h8 o5' D4 h9 zs4 led9 g10, zpart200.1 c0 t0 n z12_1 o6' tk h8 o5' D4 h9 zs4 led9 g10 := fun c0 t0 n z12_1 o6' tk h8 o5' D4 h9 zs4 led9 g10 => @epsH _ _ zc (by with_unfolding_all exact zat) (c0, t0, n, z12_1, o6', tk, h8, o5', D4, h9, zs4, led9, g10)
end z12
end z200
end z3
end z2
end z1
end law

namespace law
namespace z1
namespace z2
namespace z3
namespace z200
theorem zat : zpart3.1 z200_1 D' ws' D3 h6 z R1 := zpart200.2 ⟨z12.zall⟩
end z200
end z3
end z2
end z1
end law

namespace law
namespace z1
namespace z2
namespace z3
namespace z200
theorem zall : ∀ z200_1 D' ws' D3 h6 z R1, zpart3.1 z200_1 D' ws' D3 h6 z R1 := fun z200_1 D' ws' D3 h6 z R1 => @epsH _ _ zc (by with_unfolding_all exact zat) (z200_1, D', ws', D3, h6, z, R1)
end z200
end z3
end z2
end z1
end law

namespace law
namespace z1
namespace z2
namespace z3
theorem zat : zpart2.1 news zs D2 h5 tk5 := zpart3.2 ⟨z200.zall⟩
end z3
end z2
end z1
end law

namespace law
namespace z1
namespace z2
namespace z3
theorem zall : ∀ news zs D2 h5 tk5, zpart2.1 news zs D2 h5 tk5 := fun news zs D2 h5 tk5 => @epsH _ _ zc (by with_unfolding_all exact zat) (news, zs, D2, h5, tk5)
end z3
end z2
end z1
end law

namespace law
namespace z1
namespace z2
theorem zat : zpart1.1 ul h3 D1 ws h4 led2 us g2 := zpart2.2 ⟨z3.zall⟩
end z2
end z1
end law

namespace law
namespace z1
namespace z2
theorem zall : ∀ ul h3 D1 ws h4 led2 us g2, zpart1.1 ul h3 D1 ws h4 led2 us g2 := fun ul h3 D1 ws h4 led2 us g2 => @epsH _ _ zc (by with_unfolding_all exact zat) (ul, h3, D1, ws, h4, led2, us, g2)
end z2
end z1
end law

namespace law
namespace z1
theorem zat : zpart0.1 w s₀ s₁ mg mb fa pm cd doc ns sl vs h1 tk1 o1 o2 o3 o4 o5 o6 v1 v2 v3 v4 v5 v6 g0 L0 := zpart1.2 ⟨z2.zall⟩
end z1
end law

namespace law
namespace z1
theorem zall : ∀ w s₀ s₁ mg mb fa pm cd doc ns sl vs h1 tk1 o1 o2 o3 o4 o5 o6 v1 v2 v3 v4 v5 v6 g0 L0, zpart0.1 w s₀ s₁ mg mb fa pm cd doc ns sl vs h1 tk1 o1 o2 o3 o4 o5 o6 v1 v2 v3 v4 v5 v6 g0 L0 := fun w s₀ s₁ mg mb fa pm cd doc ns sl vs h1 tk1 o1 o2 o3 o4 o5 o6 v1 v2 v3 v4 v5 v6 g0 L0 => @epsH _ _ zc (by with_unfolding_all exact zat) (w, s₀, s₁, mg, mb, fa, pm, cd, doc, ns, sl, vs, h1, tk1, o1, o2, o3, o4, o5, o6, v1, v2, v3, v4, v5, v6, g0, L0)
end z1
end law

namespace law
theorem zat : (∀ (d : DefRec) (kwd : List (Str × PySem.Expr)) (e : defOf myq (Str.ofString "law") = some (d, kwd)), WalkO myq [Str.ofString "SnobolError"] (XL myq []) (kmHook kdef.heap_1 as0 as0_is [422]).says PySem.Challenge.rw_xm0939_01.row.toRowW d kwd (fun f vs => PySem.call f vs)) := zpart0.2 ⟨z1.zall⟩
end law
end
end
section
open PySem PySem.W PyProof.Rows
set_option maxHeartbeats 8000000
theorem walk (d : DefRec) (kwd : List (Str × PySem.Expr)) (e : defOf myq (Str.ofString "law") = some (d, kwd)) : WalkO myq [Str.ofString "SnobolError"] (XL myq []) (kmHook kdef.heap_1 as0 as0_is [422]).says PySem.Challenge.rw_xm0939_01.row.toRowW d kwd (fun f vs => PySem.call f vs) := law.zat d kwd e
theorem hd.tw15416985209724490359 : True := trivial
theorem hd.tw13783031573616600631 : True := trivial
theorem hd.tw3442329435671937591 : True := trivial
theorem hd.tw17012993224872863735 : True := trivial
theorem hd.tw2216850387143573719 : True := trivial
theorem hd.tw11389486352061984695 : True := trivial
theorem hd.tw15615537253650120727 : True := trivial
theorem hd.tw2788664435532181463 : True := trivial
theorem hd.tw3673089383077640791 : True := trivial
theorem hd.tw16064382804478563927 : True := trivial
theorem hd.tw3381375190539634487 : True := trivial
theorem hd.tw11402939732021071671 : True := trivial
theorem hd.tw307737655149646647 : True := trivial
theorem hd.tw16970440968685349367 : True := trivial
theorem hd.tw9533747618267967006 : True := trivial
theorem hd.tw2329189449893159454 : True := trivial
theorem hd.tw17681399029576232318 : True := trivial
theorem hd.tw13638418597567726942 : True := trivial
theorem hd.tw4172343393113369950 : True := trivial
theorem hd.tw17739348878880393726 : True := trivial
theorem hd.tw17901334829092211166 : True := trivial
theorem hd.tw6123773746684550334 : True := trivial
theorem hd.tw9673543361469618366 : True := trivial
theorem hd.tw13431754692932380062 : True := trivial
theorem hd.tw7746578258024575070 : True := trivial
theorem hd.tw6838551448383532254 : True := trivial
theorem hd.tw16194383521188589630 : True := trivial
theorem hd.tw3182187488490625086 : True := trivial
theorem hd.tw9277588360372424766 : True := trivial
theorem hd.tw11631869004601391166 : True := trivial
theorem hd.tw14620637471214046174 : True := trivial
theorem hd.tw6423634429210846174 : True := trivial
theorem hd.tw8047900516022102942 : True := trivial
theorem hd.tw7510230149288206974 : True := trivial
theorem hd.tw9763420282994701918 : True := trivial
theorem hd.tw3480954088277226078 : True := trivial
theorem hd.tw6442067068224118133 : True := trivial
theorem hd.tw9496365245306024149 : True := trivial
theorem hd.tw17234923516513369237 : True := trivial
theorem hd.tw13225837485096350037 : True := trivial
theorem hd.tw6820862383352777685 : True := trivial
theorem hd.tw11162318198679636149 : True := trivial
theorem hd.tw13483081372092288885 : True := trivial
theorem hd.tw7494724483528729301 : True := trivial
theorem hd.tw9427301549700849589 : True := trivial
theorem hd.tw15657480282248853141 : True := trivial
theorem hd.tw3571134770919094901 : True := trivial
theorem hd.tw16302227732802510677 : True := trivial
theorem hd.tw13609717118414637909 : True := trivial
theorem hd.tw2608437505485318709 : True := trivial
theorem hd.tw15508949281206285077 : True := trivial
theorem hd.tw14103535550066685397 : True := trivial
theorem hd.tw2252305205657439004 : True := trivial
theorem hd.tw15615420239508185596 : True := trivial
theorem hd.tw2327210489368252092 : True := trivial
theorem hd.tw1699103778626983548 : True := trivial
theorem hd.tw16091413853298234908 : True := trivial
theorem hd.tw2887051446865420828 : True := trivial
theorem hd.tw7085514621470718492 : True := trivial
theorem hd.tw395138700845864316 : True := trivial
theorem hd.tw11319097763535126812 : True := trivial
theorem hd.tw17986969038992634876 : True := trivial
theorem hd.tw11117797201346649052 : True := trivial
theorem hd.tw4402725079659364252 : True := trivial
theorem hd.tw3451239065008710300 : True := trivial
theorem hd.tw17599816209265215132 : True := trivial
theorem hd.tw1194904439430580092 : True := trivial
theorem hd.tw6019021122589006684 : True := trivial
theorem hd.tw2051048951616859547 : True := trivial
theorem hd.tw3085183777334472315 : True := trivial
theorem hd.tw16007149819294483003 : True := trivial
theorem hd.tw13828106393651249627 : True := trivial
theorem hd.tw11079593142295127227 : True := trivial
theorem hd.tw14353793391729792155 : True := trivial
theorem hd.tw15103106377680225435 : True := trivial
theorem hd.tw6767318904944593275 : True := trivial
theorem hd.tw13372043803930879067 : True := trivial
theorem hd.tw14478148883734587675 : True := trivial
theorem hd.tw13770079208771991547 : True := trivial
theorem hd.tw10618479700470323419 : True := trivial
theorem hd.tw11032806212648032379 : True := trivial
theorem hd.tw6965799899956892507 : True := trivial
theorem hd.tw4867347097404171291 : True := trivial
theorem hd.tw1610171440888473627 : True := trivial
theorem hd.tw17177331786930743035 : True := trivial
theorem hd.tw9719896912496429819 : True := trivial
theorem hd.tw15642763164714097627 : True := trivial
theorem hd.tw2068664650715991707 : True := trivial
theorem hd.tw461538923250603899 : True := trivial
theorem hd.tw17377529257436501650 : True := trivial
theorem hd.tw5282504435634884242 : True := trivial
theorem hd.tw9641152695372364146 : True := trivial
theorem hd.tw2167537188350426706 : True := trivial
theorem hd.tw8025032847418708242 : True := trivial
theorem hd.tw15813434630575017362 : True := trivial
theorem hd.tw15166520500009309586 : True := trivial
theorem hd.tw9499510787657705874 : True := trivial
theorem hd.tw2391449824757734642 : True := trivial
theorem hd.tw1097998534492414930 : True := trivial
theorem hd.tw8112040973832200146 : True := trivial
theorem hd.tw12629568148972539762 : True := trivial
theorem hd.tw6293948785866598258 : True := trivial
theorem hd.tw15083628210047938546 : True := trivial
theorem hd.tw7296583596125217682 : True := trivial
theorem hd.tw14560493823538711346 : True := trivial
theorem hd.tw9298403506768410418 : True := trivial
theorem hd.tw10525666975642140466 : True := trivial
theorem hd.tw5366084841770067474 : True := trivial
theorem hd.tw1580110805410547442 : True := trivial
theorem hd.tw7754304195085646258 : True := trivial
theorem hd.tw3953601041324332601 : True := trivial
theorem hd.tw11054480109507316185 : True := trivial
theorem hd.tw15411387601460861337 : True := trivial
theorem hd.tw10784824025267889561 : True := trivial
theorem hd.tw1222794163293265305 : True := trivial
theorem hd.tw18291419657060728153 : True := trivial
theorem hd.tw2845679848157327705 : True := trivial
theorem hd.tw4065347644161347641 : True := trivial
theorem hd.tw2603259988358896889 : True := trivial
theorem hd.tw8081886968326746073 : True := trivial
theorem hd.tw728884934406724761 : True := trivial
theorem hd.tw17330945745186091897 : True := trivial
theorem hd.tw17047115858639842297 : True := trivial
theorem hd.tw22551697357593593 : True := trivial
theorem hd.tw6982297934935202809 : True := trivial
theorem hd.tw16772102934027710169 : True := trivial
theorem hd.tw17574625026820762457 : True := trivial
theorem hd.tw7891253978561527248 : True := trivial
theorem hd.tw10216474801634566288 : True := trivial
theorem hd.tw16011055738799735888 : True := trivial
theorem hd.tw1895953908935734384 : True := trivial
theorem hd.tw12614811148066621264 : True := trivial
theorem hd.tw15595854959937240912 : True := trivial
theorem hd.tw10111801491309104144 : True := trivial
theorem hd.tw402640490398009360 : True := trivial
theorem hd.tw13518370688599389936 : True := trivial
theorem hd.tw15279998641719260112 : True := trivial
theorem hd.tw16853341256802265648 : True := trivial
theorem hd.tw13285133528070534704 : True := trivial
theorem hd.tw11551083187376567056 : True := trivial
theorem hd.tw4856431653887292112 : True := trivial
theorem hd.tw10012880186880212623 : True := trivial
theorem hd.tw11709330566771433103 : True := trivial
theorem hd.tw12631932088317031055 : True := trivial
theorem hd.tw2442259710966052079 : True := trivial
theorem hd.tw3493717111155160527 : True := trivial
theorem hd.tw6082411064634330575 : True := trivial
theorem hd.tw15616948245753086127 : True := trivial
theorem hd.tw6818987989461384207 : True := trivial
theorem hd.tw1197925565968671727 : True := trivial
theorem hd.tw8879563391730754479 : True := trivial
theorem hd.tw2101469004524951375 : True := trivial
theorem hd.tw1452849714261714991 : True := trivial
theorem hd.tw6990203504111849199 : True := trivial
theorem hd.tw16649331688326792143 : True := trivial
theorem hd.tw13315533130655954831 : True := trivial
theorem hd.tw11319892378374348655 : True := trivial
theorem hd.tw3759623122121258479 : True := trivial
theorem hd.tw5987830557187376847 : True := trivial
theorem hd.tw16155205043701107222 : True := trivial
theorem hd.tw7752767780024739350 : True := trivial
theorem hd.tw11213053971927718326 : True := trivial
theorem hd.tw3452082135128663414 : True := trivial
theorem hd.tw16473244170626142550 : True := trivial
theorem hd.tw16713699803418581334 : True := trivial
theorem hd.tw17420951861521290806 : True := trivial
theorem hd.tw1848646778235469078 : True := trivial
theorem hd.tw8343274005884668182 : True := trivial
theorem hd.tw1413172679324656950 : True := trivial
theorem hd.tw10919297434634762262 : True := trivial
theorem hd.tw6291416237084387574 : True := trivial
theorem hd.tw4138081844389336918 : True := trivial
theorem hd.tw8428860471423672150 : True := trivial
theorem hd.tw1011335219593555734 : True := trivial
theorem hd.tw6184460063843016694 : True := trivial
theorem hd.tw15367242080415987702 : True := trivial
theorem hd.tw16345102440705955213 : True := trivial
theorem hd.tw13321331477185743149 : True := trivial
theorem hd.tw1013155817946168525 : True := trivial
theorem hd.tw1409312971732116557 : True := trivial
theorem hd.tw15837987909243819085 : True := trivial
theorem hd.tw17606422857730326317 : True := trivial
theorem hd.tw10404513684093684653 : True := trivial
theorem hd.tw16828841361933241965 : True := trivial
theorem hd.tw8457440626546761165 : True := trivial
theorem hd.tw5036846961687405229 : True := trivial
theorem hd.tw6998783941825042932 : True := trivial
theorem hd.tw10738003575532504788 : True := trivial
theorem hd.tw6547078798241139092 : True := trivial
theorem hd.tw6164396464334811476 : True := trivial
theorem hd.tw15529170255622000948 : True := trivial
theorem hd.tw7366208706002141716 : True := trivial
theorem hd.tw7540655947842036084 : True := trivial
theorem hd.tw4851647983119433812 : True := trivial
theorem hd.tw17379287091283010612 : True := trivial
theorem hd.tw6598312636042714100 : True := trivial
theorem hd.tw1439246655266547700 : True := trivial
theorem hd.tw226724450230711188 : True := trivial
theorem hd.tw697623264460660564 : True := trivial
theorem hd.tw5629675986466331604 : True := trivial
theorem hd.tw17542962492245011380 : True := trivial
theorem hd.tw18293732401869909652 : True := trivial
theorem hd.tw1997569388931296116 : True := trivial
theorem hd.tw7540741092611519060 : True := trivial
theorem hd.tw4014540891139286612 : True := trivial
theorem hd.tw15948780112781908787 : True := trivial
theorem hd.tw16640546478005224243 : True := trivial
theorem hd.tw16432713993328977331 : True := trivial
theorem hd.tw4115565904173853331 : True := trivial
theorem hd.tw18103342009636024947 : True := trivial
theorem hd.tw14168552714766633299 : True := trivial
theorem hd.tw16945582573551092051 : True := trivial
theorem hd.tw5363564295841288755 : True := trivial
theorem hd.tw5238241317806426387 : True := trivial
theorem hd.tw5657824000916062451 : True := trivial
theorem hd.tw5567388512258382067 : True := trivial
theorem hd.tw1382963296337349011 : True := trivial
theorem hd.tw16006246977917349235 : True := trivial
theorem hd.tw7289634563603522867 : True := trivial
theorem hd.tw8789358453043137523 : True := trivial
theorem hd.tw4015398097383911347 : True := trivial
theorem hd.tw10601615944963115059 : True := trivial
theorem hd.tw920214292312260371 : True := trivial
theorem hd.tw13409441903868389331 : True := trivial
theorem hd.tw3008623586974134963 : True := trivial
theorem hd.tw11151547217846952531 : True := trivial
theorem hd.tw10170382586518783626 : True := trivial
theorem hd.tw4383666589626881386 : True := trivial
theorem hd.tw6528754448969337418 : True := trivial
theorem hd.tw10603584201595350602 : True := trivial
theorem hd.tw6804821044290156842 : True := trivial
theorem hd.tw7120233287515763914 : True := trivial
theorem hd.tw17447410573909459338 : True := trivial
theorem hd.tw15042006015671813226 : True := trivial
theorem hd.tw5416991563250132298 : True := trivial
theorem hd.tw7654286748164834634 : True := trivial
theorem hd.tw3915529967508079626 : True := trivial
theorem hd.tw12112201142124510154 : True := trivial
theorem hd.tw4478964076566166474 : True := trivial
theorem hd.tw13217225542625558698 : True := trivial
theorem hd.tw6906073325868019850 : True := trivial
theorem hd.tw18264374347568628810 : True := trivial
theorem hd.tw4360684699965382250 : True := trivial
theorem hd.tw16634568088961857937 : True := trivial
theorem hd.tw17903497710992402801 : True := trivial
theorem hd.tw13220430256171166289 : True := trivial
theorem hd.tw6882427118574961969 : True := trivial
theorem hd.tw14246236162039180721 : True := trivial
theorem hd.tw7082855905992002993 : True := trivial
theorem hd.tw16056359734778111409 : True := trivial
theorem hd.tw17213754286329925777 : True := trivial
theorem hd.tw13790719812936386609 : True := trivial
theorem hd.tw14705683404202351889 : True := trivial
theorem hd.tw280609765759037681 : True := trivial
theorem hd.tw432457690288141553 : True := trivial
theorem hd.tw16029623286316568529 : True := trivial
theorem hd.tw5716766192118558609 : True := trivial
theorem hd.tw6578402527460240241 : True := trivial
theorem hd.tw15527848837575444561 : True := trivial
theorem hd.tw6759412095888398321 : True := trivial
theorem hd.tw8117029840178788049 : True := trivial
theorem hd.tw5961118342813265553 : True := trivial
theorem hd.tw3828038474966422129 : True := trivial
theorem hd.tw12113243949977362033 : True := trivial
theorem hd.tw6545403380812914513 : True := trivial
theorem hd.tw6038821095411175016 : True := trivial
theorem hd.tw13642289790063256904 : True := trivial
theorem hd.tw12949589719889679912 : True := trivial
theorem hd.tw14457593812595234344 : True := trivial
theorem hd.tw7854111351294004744 : True := trivial
theorem hd.tw11011131195910976488 : True := trivial
theorem hd.tw8671608845466749128 : True := trivial
theorem hd.tw4870687313549177768 : True := trivial
theorem hd.tw17975533764899295144 : True := trivial
theorem hd.tw190519026028168232 : True := trivial
theorem hd.tw8545014587354053640 : True := trivial
theorem hd.tw2708950531961675432 : True := trivial
theorem hd.tw162610821266807592 : True := trivial
theorem hd.tw4297731678662094536 : True := trivial
theorem hd.tw10246146449241189800 : True := trivial
theorem hd.tw16920754564084929960 : True := trivial
theorem hd.tw12058812876911547015 : True := trivial
theorem hd.tw12901994302517312135 : True := trivial
theorem hd.tw17062030032774818151 : True := trivial
theorem hd.tw17919194246423945575 : True := trivial
theorem hd.tw15683763237869141255 : True := trivial
theorem hd.tw5635641802508607975 : True := trivial
theorem hd.tw9783614193127449063 : True := trivial
theorem hd.tw15043168886218598503 : True := trivial
theorem hd.tw5978321128707920903 : True := trivial
theorem hd.tw17893044597097874663 : True := trivial
theorem hd.tw8960069828448710407 : True := trivial
theorem hd.tw5054737718236178183 : True := trivial
theorem hd.tw701787995468756871 : True := trivial
theorem hd.tw9557236495431379559 : True := trivial
theorem hd.tw3109861748172591687 : True := trivial
theorem hd.tw17672654358674132775 : True := trivial
theorem hd.tw7068711184596962023 : True := trivial
theorem hd.tw11660266114150955751 : True := trivial
theorem hd.tw8977307856219701671 : True := trivial
theorem hd.tw4159134105002834734 : True := trivial
theorem hd.tw1781861727890032366 : True := trivial
theorem hd.tw3429492842335990350 : True := trivial
theorem hd.tw10614716105012338702 : True := trivial
theorem hd.tw14553816603554493358 : True := trivial
theorem hd.tw14980023328507725902 : True := trivial
theorem hd.tw7880807054014371918 : True := trivial
theorem hd.tw11801993109049149486 : True := trivial
theorem hd.tw9345929723534960622 : True := trivial
theorem hd.tw16722109127936396110 : True := trivial
theorem hd.tw15910714762333108613 : True := trivial
theorem hd.tw15790720579355451973 : True := trivial
theorem hd.tw6305734824756694309 : True := trivial
theorem hd.tw7721951785955056133 : True := trivial
theorem hd.tw2502866573005156581 : True := trivial
theorem hd.tw7355570028127101125 : True := trivial
theorem hd.tw12399718760709695909 : True := trivial
theorem hd.tw1784385830474605701 : True := trivial
theorem hd.tw10258999931320997221 : True := trivial
theorem hd.tw11893437276241958245 : True := trivial
theorem hd.tw9702936160620672325 : True := trivial
theorem hd.tw5505005885091257285 : True := trivial
theorem hd.tw8356816923877370021 : True := trivial
theorem hd.tw6438293893037913957 : True := trivial
theorem hd.tw11251137523995926341 : True := trivial
theorem hd.tw1847840615245081061 : True := trivial
theorem hd.tw17948085552500728524 : True := trivial
theorem hd.tw18185175575083235020 : True := trivial
theorem hd.tw8004679753235328684 : True := trivial
theorem hd.tw5130813555471234732 : True := trivial
theorem hd.tw12092154237167983948 : True := trivial
theorem hd.tw16299908979028503884 : True := trivial
theorem hd.tw12575139184659369484 : True := trivial
theorem hd.tw14060154772996877548 : True := trivial
theorem hd.tw17711083657039698284 : True := trivial
theorem hd.tw2930668341846507884 : True := trivial
theorem hd.tw1836080755315867724 : True := trivial
theorem hd.tw6394381022753523788 : True := trivial
theorem hd.tw12647368939536790636 : True := trivial
theorem hd.tw12023040214023829324 : True := trivial
theorem hd.tw15368132723985388332 : True := trivial
theorem hd.tw6819123309680001836 : True := trivial
theorem hd.tw4315991029959535628 : True := trivial
theorem hd.tw12588582704262371052 : True := trivial
theorem hd.tw7270182246851987180 : True := trivial
theorem hd.tw16171809288044610508 : True := trivial
theorem hd.tw9748044761591592747 : True := trivial
theorem hd.tw14727110085682223627 : True := trivial
theorem hd.tw17054507655720011243 : True := trivial
theorem hd.tw15463257786427224491 : True := trivial
theorem hd.tw6875355717438233227 : True := trivial
theorem hd.tw7534799579077118603 : True := trivial
theorem hd.tw1778080364554679531 : True := trivial
theorem hd.tw11128854368766332075 : True := trivial
theorem hd.tw13277076834127875243 : True := trivial
theorem hd.tw10030107230732127627 : True := trivial
theorem hd.tw9170477692918782315 : True := trivial
theorem hd.tw11917015161858427179 : True := trivial
theorem hd.tw13855881374063213867 : True := trivial
theorem hd.tw6264232113106981867 : True := trivial
theorem hd.tw3677445259266111403 : True := trivial
theorem hd.tw8727321023445011275 : True := trivial
theorem hd.tw10743916045514856203 : True := trivial
theorem hd.tw9741134391959003819 : True := trivial
theorem hd.tw978945382295711627 : True := trivial
theorem hd.tw8716120427605611371 : True := trivial
theorem hd.tw6196171512934965099 : True := trivial
theorem hd.tw17588044629489971554 : True := trivial
theorem hd.tw758273949599710562 : True := trivial
theorem hd.tw4702841417184801058 : True := trivial
theorem hd.tw12936449754285732098 : True := trivial
theorem hd.tw9430268157657104642 : True := trivial
theorem hd.tw13919464512627920130 : True := trivial
theorem hd.tw4272726840584523970 : True := trivial
theorem hd.tw11713075325732132258 : True := trivial
theorem hd.tw12271959270614036898 : True := trivial
theorem hd.tw11210553801493137410 : True := trivial
theorem hd.tw5480042469492414594 : True := trivial
theorem hd.tw8609351116199087170 : True := trivial
theorem hd.tw5190246844813560578 : True := trivial
theorem hd.tw18245042118932799458 : True := trivial
theorem hd.tw5781342201191254626 : True := trivial
theorem hd.tw9960721518486171458 : True := trivial
theorem hd.tw3919010098100093602 : True := trivial
theorem hd.tw1129884963351977449 : True := trivial
theorem hd.tw8184699220007379433 : True := trivial
theorem hd.tw9244321171653502345 : True := trivial
theorem hd.tw5009564483982726761 : True := trivial
theorem hd.tw14906377314874228009 : True := trivial
theorem hd.tw189712035060473897 : True := trivial
theorem hd.tw4225703048834024713 : True := trivial
theorem hd.tw5148922909946612681 : True := trivial
theorem hd.tw8959176491354863721 : True := trivial
theorem hd.tw18166333605607142505 : True := trivial
theorem hd.tw3259873300814134281 : True := trivial
theorem hd.tw9566141503761928105 : True := trivial
theorem hd.tw1359830224848277088 : True := trivial
theorem hd.tw15344866539931968096 : True := trivial
theorem hd.tw4494801613693538912 : True := trivial
theorem hd.tw8381844023166312768 : True := trivial
theorem hd.tw17387473266821786944 : True := trivial
theorem hd.tw8134915037123179040 : True := trivial
theorem hd.tw17950676927832955104 : True := trivial
theorem hd.tw10458740792067480800 : True := trivial
theorem hd.tw7023726343779634624 : True := trivial
theorem hd.tw6830512106363814048 : True := trivial
theorem hd.tw1800889605409440832 : True := trivial
theorem hd.tw2867327485932766208 : True := trivial
theorem hd.tw4971549296188076032 : True := trivial
theorem hd.tw17252143746492648416 : True := trivial
theorem hd.tw4706079058837389440 : True := trivial
theorem hd.tw16412773359747925120 : True := trivial
theorem hd.tw5292301768408028288 : True := trivial
theorem hd.tw6276725880618359904 : True := trivial
theorem hd.tw8735263284916673568 : True := trivial
theorem hd.tw17183224562656869120 : True := trivial
theorem hd.tw15643275761693703936 : True := trivial
theorem hd.tw14598272352848978880 : True := trivial
theorem hd.tw16154546982801380032 : True := trivial
theorem hd.tw3530705653197291679 : True := trivial
theorem hd.tw13209851902499103039 : True := trivial
theorem hd.tw4478166936697009375 : True := trivial
theorem hd.tw12070051907170230399 : True := trivial
theorem hd.tw6931407450589930559 : True := trivial
theorem hd.tw14955159897011116063 : True := trivial
theorem hd.tw7519716089354478335 : True := trivial
theorem hd.tw5245234834050458271 : True := trivial
theorem hd.tw14400467628812073631 : True := trivial
theorem hd.tw442638132926106271 : True := trivial
theorem hd.tw3309697970292668127 : True := trivial
theorem hd.tw10424393626065333798 : True := trivial
theorem hd.tw2386827423013361158 : True := trivial
theorem hd.tw3795277891434052102 : True := trivial
theorem hd.tw1506431575118746342 : True := trivial
theorem hd.tw1865391376527767206 : True := trivial
theorem hd.tw8277578564454854310 : True := trivial
theorem hd.tw13903934854276604550 : True := trivial
theorem hd.tw17562767543260142214 : True := trivial
theorem hd.tw2195365466389143174 : True := trivial
theorem hd.tw17258206423299326598 : True := trivial
theorem hd.tw7523672394736509286 : True := trivial
theorem hd.tw8268277133935991078 : True := trivial
theorem hd.tw7628703163842673926 : True := trivial
theorem hd.tw991583007596301734 : True := trivial
theorem hd.tw11778180911958503814 : True := trivial
theorem hd.tw13181700845877081190 : True := trivial
theorem hd.tw6555240042291301478 : True := trivial
theorem hd.tw16211521421427940678 : True := trivial
theorem hd.tw212345690472687942 : True := trivial
theorem hd.tw1589133516308662214 : True := trivial
theorem hd.tw13466754112058979494 : True := trivial
theorem hd.tw10583446816852156582 : True := trivial
theorem hd.tw7153062008950511462 : True := trivial
theorem hd.tw8990313861142287110 : True := trivial
theorem hd.tw4993660671451451078 : True := trivial
theorem hd.tw8934143017859847078 : True := trivial
theorem hd.tw3039998526598829958 : True := trivial
theorem hd.tw9386895884608548742 : True := trivial
theorem hd.tw9014375795449043846 : True := trivial
theorem hd.tw13893168526513508166 : True := trivial
theorem hd.tw6924109203229866365 : True := trivial
theorem hd.tw16868993833207775613 : True := trivial
theorem hd.tw17714235663813219645 : True := trivial
theorem hd.tw18101012810479328605 : True := trivial
theorem hd.tw2457190517430149469 : True := trivial
theorem hd.tw922143313871775805 : True := trivial
theorem hd.tw18219297243305740317 : True := trivial
theorem hd.tw13289513938125300765 : True := trivial
theorem hd.tw15833661619300960221 : True := trivial
theorem hd.tw15967140613478806237 : True := trivial
theorem hd.tw7763873220885509757 : True := trivial
theorem hd.tw5608270528595127837 : True := trivial
theorem hd.tw10792051664901133789 : True := trivial
theorem hd.tw3704167492566942397 : True := trivial
theorem hd.tw3646829019195819677 : True := trivial
theorem hd.tw7676003278276379012 : True := trivial
theorem hd.tw3219085151875037572 : True := trivial
theorem hd.tw10949625832625181284 : True := trivial
theorem hd.tw14892549342360969540 : True := trivial
theorem hd.tw13855946660403688772 : True := trivial
theorem hd.tw11465210709893060100 : True := trivial
theorem hd.tw9228397985900620932 : True := trivial
theorem hd.tw8068729725432388964 : True := trivial
theorem hd.tw6060742912462422084 : True := trivial
theorem hd.tw14896477498954680388 : True := trivial
theorem hd.tw6785817131721698500 : True := trivial
theorem hd.tw5278057926702712004 : True := trivial
theorem hd.tw6407587892757256292 : True := trivial
theorem hd.tw14556912332899702596 : True := trivial
theorem hd.tw8684328023851190084 : True := trivial
theorem hd.tw16477043939570097188 : True := trivial
theorem hd.tw17843490464661113860 : True := trivial
theorem hd.tw1241404454085649124 : True := trivial
theorem hd.tw5732804406350252772 : True := trivial
theorem hd.tw17001982702790524580 : True := trivial
theorem hd.tw3789350110615891812 : True := trivial
theorem hd.tw8458067239894703972 : True := trivial
theorem hd.tw18241275227582772068 : True := trivial
theorem hd.tw8493152586797012548 : True := trivial
theorem hd.tw9908193460736022307 : True := trivial
theorem hd.tw6411954120941647267 : True := trivial
theorem hd.tw1760603350576429475 : True := trivial
theorem hd.tw5174551420813472067 : True := trivial
theorem hd.tw3229955645248102723 : True := trivial
theorem hd.tw18322514126500204803 : True := trivial
theorem hd.tw17087091549796120035 : True := trivial
theorem hd.tw13368278939475635651 : True := trivial
theorem hd.tw2304311442786299043 : True := trivial
theorem hd.tw11754176132448286083 : True := trivial
theorem hd.tw8228950375871286339 : True := trivial
theorem hd.tw1882180444382439491 : True := trivial
theorem hd.tw16904818350239718627 : True := trivial
theorem hd.tw18293851220164018083 : True := trivial
theorem hd.tw11631947586910100387 : True := trivial
theorem hd.tw11513968764499736323 : True := trivial
theorem hd.tw519851828213033955 : True := trivial
theorem hd.tw12050417470231563642 : True := trivial
theorem hd.tw541196102884509978 : True := trivial
theorem hd.tw6868836192036940282 : True := trivial
theorem hd.tw11953376511379268794 : True := trivial
theorem hd.tw2114630138375439770 : True := trivial
theorem hd.tw13047593935725612058 : True := trivial
theorem hd.tw18397336696600119226 : True := trivial
theorem hd.tw5902613922787404954 : True := trivial
theorem hd.tw11652457597714270106 : True := trivial
theorem hd.tw7526368328331116154 : True := trivial
theorem hd.tw1600037746751723098 : True := trivial
theorem hd.tw11232374478483605306 : True := trivial
theorem hd.tw9421340871869096474 : True := trivial
theorem hd.tw16157073509204512506 : True := trivial
theorem hd.tw5373601922739893978 : True := trivial
theorem hd.tw14960593345356199642 : True := trivial
theorem hd.tw2315301623876862497 : True := trivial
theorem hd.tw7512474625130614241 : True := trivial
theorem hd.tw4086058157674990017 : True := trivial
theorem hd.tw13330244855972007585 : True := trivial
theorem hd.tw18343703819029505601 : True := trivial
theorem hd.tw15220180469806662145 : True := trivial
theorem hd.tw10403243965636340961 : True := trivial
theorem hd.tw12127338746724423809 : True := trivial
theorem hd.tw4944386906409230657 : True := trivial
theorem hd.tw7914949630228597729 : True := trivial
theorem hd.tw7610815399733428385 : True := trivial
theorem hd.tw5343241284826551009 : True := trivial
theorem hd.tw14176624398918483544 : True := trivial
theorem hd.tw13267510147771200024 : True := trivial
theorem hd.tw17650839729002327288 : True := trivial
theorem hd.tw10360471539772378328 : True := trivial
theorem hd.tw14768889098011018680 : True := trivial
theorem hd.tw2274498078352570744 : True := trivial
theorem hd.tw9345676750909349944 : True := trivial
theorem hd.tw18093812233618175256 : True := trivial
theorem hd.tw15987713032478767096 : True := trivial
theorem hd.tw7296651951206262968 : True := trivial
theorem hd.tw18300207936620678264 : True := trivial
theorem hd.tw5562173858411828344 : True := trivial
theorem hd.tw15946388913382835224 : True := trivial
theorem hd.tw8770205317985620760 : True := trivial
theorem hd.tw13866372431405929976 : True := trivial
theorem hd.tw5511420028821071320 : True := trivial
theorem hd.tw6095239593004727005 : True := trivial
theorem hd.tw8084234442760995740 : True := trivial
theorem hd.tw6522912270351117642 : True := trivial
set_option Elab.async true in
theorem hd : PySem.Challenge.rw_xm0939_01.Holds := by
  w_on; o_law; o_head (kmHook kdef.heap_1 as0 as0_is [422]); (case hw => w_witness2)
  exact walk _ _ (by rfl)
end
end Mine
theorem PySem.Challenge.cw_xm0939_01_holds : PySem.Challenge.rw_xm0939_01.Holds :=
  Mine.hd

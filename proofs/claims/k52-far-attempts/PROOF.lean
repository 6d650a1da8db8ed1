import PyProof.Rows.All
import Wide.All
import OpenK.AllK
import Wide.FinOn
import KE.KStateDown
import Lean
import HandS.ForMost
import HandS.ForExc
import HandS.Evl
import HandS.Wide
import HandS.Defaults
import HandS.MakeKwOnly
import HandS.IsInst
import HandS.DictComp
import HandS.Conv
import HandS.Sort
import HandS.SortRule
import HandS.SortInts
import HandS.Flow
import HandS.Style
import HandS.TupAny
import HandS.TupLe
import HandS.More
import HandS.Walk
import HandS.NoneIn
import HandS.DictSubView
import HandS.EndBits
import HandS.Head0
import HandS.Head1
import HandS.Head2
import HandS.HeadEnd
import HandS.HeadHook1
import HandS.HeadHook2
import PySem.Challenge.RW_retryslots_k52_whole_far_attempts_of_cli
section
set_option autoImplicit false
namespace RS
/-! ### offsets of a rule that repeats -/
/-- the sum of the first k gaps -/
def pre (gs : List Int) (k : Nat) : Int := (gs.take k).sum
structure RuleOk (gs : List Int) (n : Nat) : Prop where
  pos : ∀ g ∈ gs, (1 : Int) ≤ g
  n1 : 1 ≤ n
  nl : n ≤ gs.length
def uu (gs : List Int) (n : Nat) : Nat := gs.length - n
def per (gs : List Int) (n : Nat) : Int := pre gs gs.length - pre gs (uu gs n)
/-- the offset of attempt k -/
def off (gs : List Int) (n k : Nat) : Int :=
  if k ≤ gs.length then pre gs k
  else pre gs gs.length + (((k - gs.length) / n : Nat) : Int) * per gs n + (pre gs (uu gs n + (k - gs.length) % n) - pre gs (uu gs n))
theorem pre_zero (gs : List Int) : pre gs 0 = 0 := rfl
theorem pre_succ {gs : List Int} {k : Nat} (h : k < gs.length) : pre gs (k + 1) = pre gs k + gs[k] := by
  unfold pre
  rw [List.take_succ_eq_append_getElem h, List.sum_append]
  simp
section
variable {gs : List Int} {n : Nat} (R : RuleOk gs n)
include R
theorem pre_step {k : Nat} (h : k < gs.length) : pre gs k + 1 ≤ pre gs (k + 1) := by
  rw [pre_succ h]
  have := R.pos gs[k] (List.getElem_mem h)
  omega
theorem pre_mono {i j : Nat} (hij : i ≤ j) (hj : j ≤ gs.length) : pre gs i + ((j : Int) - (i : Int)) ≤ pre gs j := by
  induction j with
  | zero =>
    have : i = 0 := by omega
    subst this
    simp
  | succ j ih =>
    by_cases e : i = j + 1
    · subst e; simp
    · have h1 := ih (by omega) (by omega)
      have h2 := pre_step R (k := j) (by omega)
      omega
theorem per_pos : 1 ≤ per gs n := by
  have h := pre_mono R (i := uu gs n) (j := gs.length) (by unfold uu; omega) (Nat.le_refl _)
  have h1 := R.n1
  have h2 := R.nl
  unfold per
  have : uu gs n + n = gs.length := by unfold uu; omega
  omega
theorem uu_add : uu gs n + n = gs.length := by
  have h2 := R.nl
  unfold uu
  omega
theorem off_low {k : Nat} (h : k ≤ gs.length) : off gs n k = pre gs k := by
  unfold off
  rw [if_pos h]
theorem off_tail {k : Nat} (h : uu gs n ≤ k) : off gs n k = pre gs (uu gs n + (k - uu gs n) % n) + (((k - uu gs n) / n : Nat) : Int) * per gs n := by
  have hu := uu_add R
  have h1 := R.n1
  by_cases hk : k ≤ gs.length
  · rw [off_low R hk]
    by_cases e : k = gs.length
    · have e1 : k - uu gs n = n := by omega
      rw [e1, Nat.mod_self, Nat.div_self (by omega), e]
      unfold per
      simp
      omega
    · have e1 : k - uu gs n < n := by omega
      rw [Nat.mod_eq_of_lt e1, Nat.div_eq_of_lt e1]
      have e2 : uu gs n + (k - uu gs n) = k := by omega
      rw [e2]
      simp
  · unfold off
    rw [if_neg hk]
    have e1 : k - uu gs n = (k - gs.length) + n := by omega
    rw [e1, Nat.add_mod_right, Nat.add_div_right _ (by omega)]
    have e3 : ((Nat.succ ((k - gs.length) / n) : Nat) : Int) = (((k - gs.length) / n : Nat) : Int) + 1 := by omega
    rw [e3, Int.add_mul]
    unfold per
    omega
theorem off_add {k : Nat} (h : uu gs n ≤ k) : off gs n (k + n) = off gs n k + per gs n := by
  have h1 := R.n1
  rw [off_tail R h, off_tail R (Nat.le_trans h (Nat.le_add_right _ _))]
  have e1 : k + n - uu gs n = (k - uu gs n) + n := by omega
  rw [e1, Nat.add_mod_right, Nat.add_div_right _ (by omega)]
  have e3 : ((Nat.succ ((k - uu gs n) / n) : Nat) : Int) = (((k - uu gs n) / n : Nat) : Int) + 1 := by omega
  rw [e3, Int.add_mul]
  omega
theorem off_succ (k : Nat) : off gs n k + 1 ≤ off gs n (k + 1) := by
  have hu := uu_add R
  have h1 := R.n1
  by_cases hk : uu gs n ≤ k
  · rw [off_tail R hk, off_tail R (Nat.le_succ_of_le hk)]
    have e1 : k + 1 - uu gs n = (k - uu gs n) + 1 := by omega
    rw [e1]
    generalize k - uu gs n = m
    have hlt : m % n < n := Nat.mod_lt _ (by omega)
    by_cases hm : m % n + 1 < n
    · have a1 : (m + 1) % n = m % n + 1 := by
        rw [Nat.add_mod]
        have : 1 % n = 1 := Nat.mod_eq_of_lt (by omega)
        rw [this, Nat.mod_eq_of_lt hm]
      have a2 : (m + 1) / n = m / n := by
        have b1 := Nat.div_add_mod m n
        have b2 := Nat.div_add_mod (m + 1) n
        rw [a1] at b2
        have : n * ((m + 1) / n) = n * (m / n) := by omega
        exact Nat.eq_of_mul_eq_mul_left (by omega) this
      rw [a1, a2]
      have := pre_step R (k := uu gs n + m % n) (by omega)
      have e4 : uu gs n + (m % n + 1) = uu gs n + m % n + 1 := by omega
      rw [e4]
      omega
    · have hm' : m % n = n - 1 := by omega
      have b1 := Nat.div_add_mod m n
      have a0 : m + 1 = n * (m / n + 1) := by
        rw [Nat.mul_add, Nat.mul_one]
        omega
      have a1 : (m + 1) % n = 0 := by
        rw [a0]
        exact Nat.mul_mod_right _ _
      have a2 : (m + 1) / n = m / n + 1 := by
        rw [a0]
        exact Nat.mul_div_cancel_left _ (by omega)
      rw [a1, a2, hm']
      have e3 : ((m / n + 1 : Nat) : Int) = ((m / n : Nat) : Int) + 1 := by omega
      rw [e3, Int.add_mul]
      have := pre_step R (k := gs.length - 1) (by omega)
      have e4 : uu gs n + (n - 1) = gs.length - 1 := by omega
      have e5 : gs.length - 1 + 1 = gs.length := by omega
      rw [e5] at this
      rw [e4, Nat.add_zero]
      unfold per
      omega
  · rw [off_low R (by omega), off_low R (by omega)]
    exact pre_step R (by omega)
theorem off_zero : off gs n 0 = 0 := by
  rw [off_low R (Nat.zero_le _)]
  rfl
theorem off_mono {i j : Nat} (h : i ≤ j) : off gs n i + ((j : Int) - (i : Int)) ≤ off gs n j := by
  induction j with
  | zero =>
    have : i = 0 := by omega
    subst this
    simp
  | succ j ih =>
    by_cases e : i = j + 1
    · subst e; simp
    · have h1 := ih (by omega)
      have h2 := off_succ R j
      omega
theorem off_lt {i j : Nat} (h : i < j) : off gs n i < off gs n j := by
  have := off_mono R (Nat.le_of_lt h)
  omega
theorem off_ge (k : Nat) : (k : Int) ≤ off gs n k := by
  have := off_mono R (Nat.zero_le k)
  rw [off_zero R] at this
  omega
theorem lt_of_off {i j : Nat} (h : off gs n i < off gs n j) : i < j := by
  rcases Nat.lt_or_ge i j with h1 | h1
  · exact h1
  · have := off_mono R h1
    omega
theorem off_inj {i j : Nat} (h : off gs n i = off gs n j) : i = j := by
  rcases Nat.lt_trichotomy i j with h1 | h1 | h1
  · have := off_lt R h1; omega
  · exact h1
  · have := off_lt R h1; omega
end
/-- an attempt at this distance from the start -/
def At (gs : List Int) (n : Nat) (d : Int) : Prop := ∃ k, off gs n k = d
section
variable {gs : List Int} {n : Nat} (R : RuleOk gs n)
include R
theorem at_add {d : Int} (h : pre gs (uu gs n) ≤ d) : At gs n d ↔ At gs n (d + per gs n) := by
  have hu := uu_add R
  have ou : off gs n (uu gs n) = pre gs (uu gs n) := off_low R (by omega)
  have oL : off gs n gs.length = pre gs gs.length := off_low R (Nat.le_refl _)
  constructor
  · rintro ⟨k, e⟩
    refine ⟨k + n, ?_⟩
    rw [off_add R, e]
    rcases Nat.lt_or_ge k (uu gs n) with h1 | h1
    · have := off_lt R h1
      omega
    · exact h1
  · rintro ⟨k, e⟩
    have h1 : gs.length ≤ k := by
      rcases Nat.lt_or_ge k gs.length with h1 | h1
      · have h2 := off_lt R h1
        have h3 : per gs n = pre gs gs.length - pre gs (uu gs n) := rfl
        omega
      · exact h1
    refine ⟨k - n, ?_⟩
    have h2 : k - n + n = k := by omega
    have h3 := off_add R (k := k - n) (by omega)
    rw [h2] at h3
    omega
theorem at_shift {d : Int} (h : pre gs (uu gs n) ≤ d) (t : Nat) : At gs n d ↔ At gs n (d + (t : Int) * per gs n) := by
  induction t with
  | zero => simp
  | succ t ih =>
    have hp := per_pos R
    have h0 : 0 ≤ (t : Int) * per gs n := Int.mul_nonneg (by omega) (by omega)
    have e : d + ((t + 1 : Nat) : Int) * per gs n = (d + (t : Int) * per gs n) + per gs n := by
      have e3 : ((t + 1 : Nat) : Int) = (t : Int) + 1 := by omega
      rw [e3, Int.add_mul]
      omega
    rw [e, ← at_add R (by omega)]
    exact ih
/-- attempts at places that differ by whole periods -/
theorem at_congr {d e : Int} (hd : pre gs (uu gs n) ≤ d) (hde : d ≤ e) (h : (e - d) % per gs n = 0) : At gs n d ↔ At gs n e := by
  have hp := per_pos R
  have h1 := Int.mul_ediv_add_emod (e - d) (per gs n)
  have h2 : 0 ≤ (e - d) / per gs n := Int.ediv_nonneg (by omega) (by omega)
  have h3 := at_shift R hd ((e - d) / per gs n).toNat
  have h4 : ((((e - d) / per gs n).toNat : Nat) : Int) = (e - d) / per gs n := by omega
  rw [h4, Int.mul_comm] at h3
  have h5 : d + per gs n * ((e - d) / per gs n) = e := by omega
  rw [h5] at h3
  exact h3
/-- how _law_has decides: up to the listed gaps -/
theorem at_low {d : Int} (h : d ≤ pre gs gs.length) : At gs n d ↔ ∃ k, k ≤ gs.length ∧ pre gs k = d := by
  have oL : off gs n gs.length = pre gs gs.length := off_low R (Nat.le_refl _)
  constructor
  · rintro ⟨k, e⟩
    have h1 : k ≤ gs.length := by
      rcases Nat.lt_or_ge gs.length k with h1 | h1
      · have h2 := off_lt R h1
        omega
      · exact h1
    exact ⟨k, h1, by rw [← off_low R h1]; exact e⟩
  · rintro ⟨k, h1, e⟩
    exact ⟨k, by rw [off_low R h1]; exact e⟩
/-- .. behind them -/
theorem at_high {d : Int} (h : pre gs gs.length < d) : At gs n d ↔ ∃ j, j < n ∧ pre gs (uu gs n + j) - pre gs (uu gs n) = (d - pre gs gs.length) % per gs n := by
  have hu := uu_add R
  have hp := per_pos R
  have h3 : per gs n = pre gs gs.length - pre gs (uu gs n) := rfl
  have m0 : 0 ≤ (d - pre gs gs.length) % per gs n := Int.emod_nonneg _ (by omega)
  have m1 : (d - pre gs gs.length) % per gs n < per gs n := Int.emod_lt_of_pos _ (by omega)
  have q := Int.mul_ediv_add_emod (d - pre gs gs.length) (per gs n)
  have e1 : At gs n (pre gs (uu gs n) + (d - pre gs gs.length) % per gs n) ↔ At gs n d := by
    refine at_congr R (by omega) ?_ ?_
    · have : 0 ≤ per gs n * ((d - pre gs gs.length) / per gs n) := Int.mul_nonneg (by omega) (Int.ediv_nonneg (by omega) (by omega))
      omega
    · have : d - (pre gs (uu gs n) + (d - pre gs gs.length) % per gs n) = per gs n * ((d - pre gs gs.length) / per gs n + 1) := by
        rw [Int.mul_add]
        omega
      rw [this]
      exact Int.mul_emod_right _ _
  rw [← e1]
  constructor
  · rintro ⟨k, e⟩
    have oL : off gs n gs.length = pre gs gs.length := off_low R (Nat.le_refl _)
    have ou : off gs n (uu gs n) = pre gs (uu gs n) := off_low R (by omega)
    have k1 : k < gs.length := lt_of_off R (by omega)
    have k2 : uu gs n ≤ k := by
      rcases Nat.lt_or_ge k (uu gs n) with h1 | h1
      · have := off_lt R h1
        omega
      · exact h1
    refine ⟨k - uu gs n, by omega, ?_⟩
    have e2 : uu gs n + (k - uu gs n) = k := by omega
    rw [e2]
    rw [off_low R (by omega)] at e
    omega
  · rintro ⟨j, h1, e⟩
    exact ⟨uu gs n + j, by rw [off_low R (by omega)]; omega⟩
end
/-- k is the first attempt from a distance on -/
def IsFirst (gs : List Int) (n : Nat) (d : Int) (k : Nat) : Prop := d ≤ off gs n k ∧ ∀ j, j < k → off gs n j < d
theorem first_ex {gs : List Int} {n : Nat} (R : RuleOk gs n) (d : Int) : ∃ k, IsFirst gs n d k := by
  have go : ∀ m : Nat, (∃ k, k ≤ m ∧ IsFirst gs n d k) ∨ ∀ j, j ≤ m → off gs n j < d := by
    intro m
    induction m with
    | zero =>
      by_cases h : d ≤ off gs n 0
      · exact .inl ⟨0, Nat.le_refl _, h, fun j hj => absurd hj (Nat.not_lt_zero _)⟩
      · refine .inr fun j hj => ?_
        have : j = 0 := by omega
        subst this
        omega
    | succ m ih =>
      rcases ih with ⟨k, hk, h⟩ | h
      · exact .inl ⟨k, by omega, h⟩
      · by_cases h1 : d ≤ off gs n (m + 1)
        · exact .inl ⟨m + 1, Nat.le_refl _, h1, fun j hj => h j (by omega)⟩
        · refine .inr fun j hj => ?_
          rcases Nat.lt_or_ge m j with h2 | h2
          · have : j = m + 1 := by omega
            subst this
            omega
          · exact h j h2
  rcases go d.toNat with ⟨k, _, h⟩ | h
  · exact ⟨k, h⟩
  · have h1 := h d.toNat (Nat.le_refl _)
    have h2 := off_ge R d.toNat
    omega
open Classical in
noncomputable def first (gs : List Int) (n : Nat) (d : Int) : Nat := if h : ∃ k, IsFirst gs n d k then Classical.choose h else 0
theorem first_is {gs : List Int} {n : Nat} (R : RuleOk gs n) (d : Int) : IsFirst gs n d (first gs n d) := by
  unfold first
  rw [dif_pos (first_ex R d)]
  exact Classical.choose_spec (first_ex R d)
theorem IsFirst.uniq {gs : List Int} {n : Nat} {d : Int} {k j : Nat} (h : IsFirst gs n d k) (h' : IsFirst gs n d j) : k = j := by
  rcases Nat.lt_trichotomy k j with h1 | h1 | h1
  · have := h'.2 k h1
    have := h.1
    omega
  · exact h1
  · have := h.2 j h1
    have := h'.1
    omega
theorem IsFirst.eq {gs : List Int} {n : Nat} (R : RuleOk gs n) {d : Int} {k : Nat} (h : IsFirst gs n d k) : first gs n d = k := (first_is R d).uniq h
theorem first_at {gs : List Int} {n : Nat} (R : RuleOk gs n) (d : Int) : off gs n (first gs n d) = d ↔ At gs n d := by
  constructor
  · exact fun e => ⟨_, e⟩
  · rintro ⟨k, e⟩
    have : IsFirst gs n d k := ⟨by omega, fun j hj => by have := off_lt R hj; omega⟩
    rw [this.eq R, e]
theorem first_le {gs : List Int} {n : Nat} (R : RuleOk gs n) {d b : Int} (h : d ≤ b) (hb : 0 ≤ b) : ((first gs n d : Nat) : Int) ≤ b := by
  have h1 := first_is R d
  rcases Nat.lt_or_ge b.toNat (first gs n d) with h2 | h2
  · have h3 := h1.2 b.toNat h2
    have h4 := off_ge R b.toNat
    omega
  · omega
/-- m whole periods behind the listed gaps -/
theorem off_block {gs : List Int} {n : Nat} (R : RuleOk gs n) (m : Nat) : off gs n (gs.length + m * n) = pre gs gs.length + (m : Int) * per gs n := by
  have h1 := R.n1
  have hu := uu_add R
  induction m with
  | zero =>
    rw [Nat.zero_mul, Nat.add_zero, off_low R (Nat.le_refl _)]
    simp
  | succ m ih =>
    have e : gs.length + (m + 1) * n = (gs.length + m * n) + n := by
      rw [Nat.add_mul]
      omega
    rw [e, off_add R (by omega), ih]
    have e3 : ((m + 1 : Nat) : Int) = (m : Int) + 1 := by omega
    rw [e3, Int.add_mul]
    omega
/-- the attempt in a distance -/
noncomputable def hitB (gs : List Int) (n : Nat) (d : Int) : Bool := decide (off gs n (first gs n d) = d)
theorem hitB_iff {gs : List Int} {n : Nat} (R : RuleOk gs n) {d : Int} : hitB gs n d = true ↔ At gs n d := by
  unfold hitB
  rw [decide_eq_true_eq]
  exact first_at R d
end RS
end

section
set_option autoImplicit false
namespace RS
/-! ### a scene, the state of a run -/
structure Sc where
  gs : List Int
  n : Nat
  st : List Int
  ws : List (Int × Int)
  ln : Int
namespace Sc
variable (S : Sc)
def N : Nat := S.st.length
def s0 (c : Nat) : Int := S.st.getD c 0
def slot (c k : Nat) : Int := S.s0 c + off S.gs S.n k
def hits (c : Nat) (s : Int) : Prop := At S.gs S.n (s - S.s0 c)
def p : Int := per S.gs S.n
def u : Nat := uu S.gs S.n
/-- where the client begins to repeat -/
def last (c : Nat) : Int := S.s0 c + pre S.gs S.u
def inW (s : Int) : Prop := ∃ w ∈ S.ws, w.1 ≤ s ∧ s < w.2
/-- the moments at which something changes -/
def IsMo (x : Int) : Prop := x ∈ S.st ∨ (∃ w ∈ S.ws, x = w.1 ∨ x = w.2) ∨ ∃ c i, c < S.N ∧ i ≤ S.u ∧ x = S.slot c i
structure Ok (M0 : Int) : Prop where
  rule : RuleOk S.gs S.n
  ln1 : 1 ≤ S.ln
  low : ∀ x, S.IsMo x → x ≤ M0
end Sc
structure RSt where
  wt : List (Nat × Nat)
  cl : List Nat
  sv : List (Nat × Nat × Int)
  fr : Int
namespace RSt
def wk (s : RSt) : List Nat := s.wt.map (·.1)
def sk (s : RSt) : List Nat := s.sv.map (·.1)
end RSt
/-- a bound of all slots in which something happens -/
def bnd (S : Sc) (M0 : Int) : Int := M0 + (S.N : Int) * (S.p + S.ln) + 1
structure Inv (S : Sc) (M0 : Int) (s : RSt) : Prop where
  nd : s.wk.Nodup
  cov : ∀ c, c < S.N → c ∈ s.wk ∨ c ∈ s.cl ∨ c ∈ s.sk
  lw : ∀ c ∈ s.wk, c < S.N
  lc : ∀ c ∈ s.cl, c < S.N
  ls : ∀ c ∈ s.sk, c < S.N
  wc : ∀ c ∈ s.wk, c ∉ s.cl
  wsv : ∀ c ∈ s.wk, c ∉ s.sk
  cs : ∀ c ∈ s.cl, c ∉ s.sk
  good : ∀ c ∈ s.cl, ∀ x, bnd S M0 ≤ x → S.hits c x → ∃ d ∈ s.cl, d ≠ c ∧ S.hits d x
  met : ∀ c i, (c, i) ∈ s.wt → ∀ j, j < i → S.slot c j < s.fr ∨ S.inW (S.slot c j) ∨ ∃ d, d ≠ c ∧ (d ∈ s.wk ∨ d ∈ s.cl) ∧ S.hits d (S.slot c j)
  ord : ∀ c i d k, (c, i) ∈ s.wt → (d, k) ∈ s.wt → ∀ j, j < i → S.slot c j ≤ S.slot d k
  svf : ∀ q ∈ s.sv, q.2.2 < s.fr
  frb : s.fr ≤ M0 + (s.sv.length : Int) * (S.p + S.ln)
  num : s.sv.length + s.wt.length ≤ S.N
/-- the measure of the loop -/
def mu (S : Sc) (M0 : Int) (s : RSt) : Nat := (s.wt.map fun q => 1 + (bnd S M0 + S.p + 1 - S.slot q.1 q.2).toNat).sum
section
variable {S : Sc} {M0 : Int} {s : RSt}
theorem slot_lt (O : S.Ok M0) {c i j : Nat} (h : i < j) : S.slot c i < S.slot c j := by
  have := off_lt O.rule h
  unfold Sc.slot
  omega
theorem slot_le (O : S.Ok M0) {c i j : Nat} (h : i ≤ j) : S.slot c i ≤ S.slot c j := by
  have := off_mono O.rule h
  unfold Sc.slot
  omega
theorem p_pos (O : S.Ok M0) : 1 ≤ S.p := per_pos O.rule
theorem hits_slot (c k : Nat) : S.hits c (S.slot c k) := ⟨k, by unfold Sc.slot; omega⟩
theorem hits_ix {c : Nat} {x : Int} (h : S.hits c x) : ∃ k, S.slot c k = x := by
  obtain ⟨k, e⟩ := h
  exact ⟨k, by unfold Sc.slot; omega⟩
theorem s0_mem {c : Nat} (h : c < S.N) : S.s0 c ∈ S.st := by
  unfold Sc.s0
  rw [List.getD_eq_getElem?_getD, List.getElem?_eq_getElem h]
  exact List.getElem_mem h
theorem slot0 (O : S.Ok M0) (c : Nat) : S.slot c 0 = S.s0 c := by
  unfold Sc.slot
  rw [off_zero O.rule]
  omega
theorem slot_u (O : S.Ok M0) (c : Nat) : S.slot c S.u = S.last c := by
  unfold Sc.slot Sc.last
  rw [off_low O.rule (by unfold Sc.u uu; omega)]
theorem frb' (O : S.Ok M0) (I : Inv S M0 s) : s.fr < bnd S M0 := by
  have h := I.frb
  have h1 := I.num
  have hp := p_pos O
  have hl := O.ln1
  have h2 : (s.sv.length : Int) * (S.p + S.ln) ≤ (S.N : Int) * (S.p + S.ln) := Int.mul_le_mul_of_nonneg_right (by omega) (by omega)
  unfold bnd
  omega
theorem M0_le (O : S.Ok M0) : M0 < bnd S M0 := by
  have hp := p_pos O
  have hl := O.ln1
  have : 0 ≤ (S.N : Int) * (S.p + S.ln) := Int.mul_nonneg (by omega) (by omega)
  unfold bnd
  omega
/-- the least slot of the waiting clients -/
structure IsMin (S : Sc) (s : RSt) (x : Int) : Prop where
  mem : ∃ q ∈ s.wt, S.slot q.1 q.2 = x
  le : ∀ q ∈ s.wt, x ≤ S.slot q.1 q.2
/-- the latest moment up to a slot -/
structure IsLate (S : Sc) (s : RSt) (x m : Int) : Prop where
  mo : S.IsMo m ∨ m = s.fr
  le : m ≤ x
  top : ∀ y, (S.IsMo y ∨ y = s.fr) → y ≤ x → y ≤ m
theorem nd_val {wt : List (Nat × Nat)} (h : (wt.map (·.1)).Nodup) {c i j : Nat} (a : (c, i) ∈ wt) (b : (c, j) ∈ wt) : i = j := by
  induction wt with
  | nil => cases a
  | cons q r ih =>
    rw [List.map_cons, List.nodup_cons] at h
    rcases List.mem_cons.mp a with e | a'
    · rcases List.mem_cons.mp b with e' | b'
      · rw [← e'] at e
        injection e
      · exact absurd (List.mem_map.mpr ⟨_, b', by rw [← e]⟩) h.1
    · rcases List.mem_cons.mp b with e' | b'
      · exact absurd (List.mem_map.mpr ⟨_, a', by rw [← e']⟩) h.1
      · exact ih h.2 a' b'
theorem mem_wk {c : Nat} : c ∈ s.wk ↔ ∃ i, (c, i) ∈ s.wt := by
  unfold RSt.wk
  rw [List.mem_map]
  constructor
  · rintro ⟨⟨a, b⟩, h, e⟩
    have e' : a = c := e
    subst e'
    exact ⟨b, h⟩
  · rintro ⟨i, h⟩
    exact ⟨_, h, rfl⟩
theorem sum_lt_of {α : Type} {f g : α → Nat} : ∀ {l : List α}, (∀ q ∈ l, g q ≤ f q) → (∃ q ∈ l, g q < f q) → (l.map g).sum < (l.map f).sum
  | [], _, ⟨_, h, _⟩ => by cases h
  | a :: r, h1, ⟨q, hq, hlt⟩ => by
    rw [List.map_cons, List.map_cons, List.sum_cons, List.sum_cons]
    have ha := h1 a List.mem_cons_self
    have hle : (r.map g).sum ≤ (r.map f).sum := by
      clear hq hlt
      induction r with
      | nil => exact Nat.le_refl _
      | cons b t ih =>
        rw [List.map_cons, List.map_cons, List.sum_cons, List.sum_cons]
        have := h1 b (List.mem_cons_of_mem _ List.mem_cons_self)
        have := ih fun q hq => h1 q (by
          rcases List.mem_cons.mp hq with e | e
          · rw [e]; exact List.mem_cons_self
          · exact List.mem_cons_of_mem _ (List.mem_cons_of_mem _ e))
        omega
    rcases List.mem_cons.mp hq with e | hq'
    · rw [← e] at ha ⊢
      omega
    · have := sum_lt_of (l := r) (fun q hq => h1 q (List.mem_cons_of_mem _ hq)) ⟨q, hq', hlt⟩
      omega
theorem sum_filter_lt {α : Type} {f : α → Nat} {P : α → Bool} (hf : ∀ q, 1 ≤ f q) : ∀ {l : List α}, (∃ q ∈ l, P q = false) → ((l.filter P).map f).sum < (l.map f).sum
  | [], ⟨_, h, _⟩ => by cases h
  | a :: r, ⟨q, hq, hP⟩ => by
    have hle : ((r.filter P).map f).sum ≤ (r.map f).sum := by
      clear hq hP
      induction r with
      | nil => exact Nat.le_refl _
      | cons b t ih =>
        rw [List.filter_cons]
        split
        · rw [List.map_cons, List.map_cons, List.sum_cons, List.sum_cons]
          omega
        · rw [List.map_cons, List.sum_cons]
          omega
    rw [List.map_cons, List.sum_cons, List.filter_cons]
    have h1 := hf a
    cases ha : P a with
    | false =>
      rw [if_neg Bool.false_ne_true]
      omega
    | true =>
      rw [if_pos rfl, List.map_cons, List.sum_cons]
      rcases List.mem_cons.mp hq with e | hq'
      · rw [e, ha] at hP
        cases hP
      · have := sum_filter_lt (P := P) hf (l := r) ⟨q, hq', hP⟩
        omega
/-! ### skip -/
/-- the waiting clients go on from a slot -/
noncomputable def skip (S : Sc) (s : RSt) (e : Int) : RSt := { s with wt := s.wt.map fun q => (q.1, first S.gs S.n (e - S.s0 q.1)) }
theorem skip_wk (e : Int) : (skip S s e).wk = s.wk := by
  unfold skip RSt.wk
  rw [List.map_map]
  rfl
theorem skip_mem {e : Int} {c i : Nat} : (c, i) ∈ (skip S s e).wt ↔ (∃ j, (c, j) ∈ s.wt) ∧ i = first S.gs S.n (e - S.s0 c) := by
  unfold skip
  rw [List.mem_map]
  constructor
  · rintro ⟨⟨a, b⟩, h, q⟩
    injection q with q1 q2
    subst q1
    exact ⟨⟨b, h⟩, q2.symm⟩
  · rintro ⟨⟨j, h⟩, q⟩
    exact ⟨_, h, by rw [q]⟩
theorem first_slot (O : S.Ok M0) (c : Nat) (e : Int) : e ≤ S.slot c (first S.gs S.n (e - S.s0 c)) ∧ ∀ j, j < first S.gs S.n (e - S.s0 c) → S.slot c j < e := by
  have h := first_is O.rule (e - S.s0 c)
  refine ⟨?_, fun j hj => ?_⟩
  · have := h.1
    unfold Sc.slot
    omega
  · have := h.2 j hj
    unfold Sc.slot
    omega
theorem inv_skip (O : S.Ok M0) (I : Inv S M0 s) {x e : Int} (hx : IsMin S s x) (he : x < e) (hw : e = s.fr ∨ ∃ w ∈ S.ws, w.1 ≤ x ∧ e = w.2) :
    Inv S M0 (skip S s e) ∧ mu S M0 (skip S s e) < mu S M0 s := by
  -- an attempt before e was handled, or lies from x on
  have old : ∀ c i, (c, i) ∈ s.wt → ∀ j, S.slot c j < e → j < i ∨ (x ≤ S.slot c j) := fun c i h j hj => by
    rcases Nat.lt_or_ge j i with h1 | h1
    · exact .inl h1
    · have := slot_le O (c := c) h1
      have := hx.le _ h
      exact .inr (by simp only at this; omega)
  constructor
  · refine ⟨?_, ?_, ?_, I.lc, I.ls, ?_, ?_, I.cs, I.good, ?_, ?_, I.svf, I.frb, ?_⟩
    · rw [skip_wk]; exact I.nd
    · rw [skip_wk]; exact I.cov
    · rw [skip_wk]; exact I.lw
    · rw [skip_wk]; exact I.wc
    · rw [skip_wk]; exact I.wsv
    · intro c i h j hj
      obtain ⟨⟨i0, h0⟩, ei⟩ := skip_mem.mp h
      rw [ei] at hj
      have hlt := (first_slot O c e).2 j hj
      show S.slot c j < s.fr ∨ S.inW (S.slot c j) ∨ ∃ d, d ≠ c ∧ (d ∈ (skip S s e).wk ∨ d ∈ s.cl) ∧ S.hits d (S.slot c j)
      rw [skip_wk]
      rcases old c i0 h0 j hlt with h1 | h1
      · exact I.met c i0 h0 j h1
      · rcases hw with hw | ⟨w, hw, h2, h3⟩
        · exact .inl (by omega)
        · exact .inr (.inl ⟨w, hw, by omega, by omega⟩)
    · intro c i d k h h' j hj
      obtain ⟨_, ei⟩ := skip_mem.mp h
      obtain ⟨_, ek⟩ := skip_mem.mp h'
      rw [ei] at hj
      have h1 := (first_slot O c e).2 j hj
      have h2 := (first_slot O d e).1
      rw [ek]
      omega
    · have := I.num
      unfold skip
      rw [List.length_map]
      exact this
  · have hE : e ≤ bnd S M0 := by
      rcases hw with hw | ⟨w, hw, _, h3⟩
      · have := frb' O I
        omega
      · have h4 := O.low w.2 (.inr (.inl ⟨w, hw, .inr rfl⟩))
        have := M0_le O
        omega
    have hp := p_pos O
    unfold mu skip
    rw [List.map_map]
    -- every client goes on, and the first goes further
    have mono : ∀ q ∈ s.wt, S.slot q.1 q.2 ≤ S.slot q.1 (first S.gs S.n (e - S.s0 q.1)) := fun q hq => by
      rcases Nat.lt_or_ge (first S.gs S.n (e - S.s0 q.1)) q.2 with h1 | h1
      · -- the first attempt from e on was handled: then x is not below it
        have h2 := (first_slot O q.1 e).1
        obtain ⟨r, hr, er⟩ := hx.mem
        have h3 := I.ord q.1 q.2 r.1 r.2 hq hr _ h1
        omega
      · exact slot_le O h1
    refine sum_lt_of (fun q hq => ?_) ?_
    · have := mono q hq
      show 1 + (bnd S M0 + S.p + 1 - S.slot q.1 (first S.gs S.n (e - S.s0 q.1))).toNat ≤ _
      omega
    · obtain ⟨r, hr, er⟩ := hx.mem
      refine ⟨r, hr, ?_⟩
      have h2 := (first_slot O r.1 e).1
      show 1 + (bnd S M0 + S.p + 1 - S.slot r.1 (first S.gs S.n (e - S.s0 r.1))).toNat < _
      omega
/-! ### close -/
/-- the clients that repeat themselves from b on leave the waiting ones -/
def fresh (S : Sc) (s : RSt) (b : Int) : List Nat := s.wk.filter fun c => decide (S.last c ≤ b)
def closeS (S : Sc) (s : RSt) (b : Int) (cl' : List Nat) : RSt := { s with wt := s.wt.filter fun q => !decide (S.last q.1 ≤ b), cl := cl' }
theorem mem_fresh {b : Int} {c : Nat} : c ∈ fresh S s b ↔ c ∈ s.wk ∧ S.last c ≤ b := by
  unfold fresh
  rw [List.mem_filter]
  simp
theorem close_mem {b : Int} {cl' : List Nat} {c i : Nat} : (c, i) ∈ (closeS S s b cl').wt ↔ (c, i) ∈ s.wt ∧ ¬ S.last c ≤ b := by
  unfold closeS
  rw [List.mem_filter]
  simp
theorem close_wk {b : Int} {cl' : List Nat} {c : Nat} : c ∈ (closeS S s b cl').wk ↔ c ∈ s.wk ∧ ¬ S.last c ≤ b := by
  rw [mem_wk, mem_wk]
  constructor
  · rintro ⟨i, h⟩
    obtain ⟨h1, h2⟩ := close_mem.mp h
    exact ⟨⟨i, h1⟩, h2⟩
  · rintro ⟨⟨i, h⟩, h2⟩
    exact ⟨i, close_mem.mpr ⟨h, h2⟩⟩
theorem nodup_filter_map {P : Nat × Nat → Bool} : ∀ {wt : List (Nat × Nat)}, (wt.map (·.1)).Nodup → ((wt.filter P).map (·.1)).Nodup
  | [], _ => List.nodup_nil
  | q :: r, h => by
    rw [List.map_cons, List.nodup_cons] at h
    rw [List.filter_cons]
    split
    · rw [List.map_cons, List.nodup_cons]
      refine ⟨fun m => h.1 ?_, nodup_filter_map h.2⟩
      obtain ⟨z, hz, e⟩ := List.mem_map.mp m
      exact List.mem_map.mpr ⟨z, (List.mem_filter.mp hz).1, e⟩
    · exact nodup_filter_map h.2
/-- a client that begins not behind x and has an attempt between b and x, where no moment lies in between, repeats itself from b on -/
theorem rep_of (O : S.Ok M0) {b x y : Int} {c : Nat} (hc : c < S.N) (hno : ∀ z, S.IsMo z → z ≤ x → z ≤ b) (hy : b < y) (hyx : y ≤ x) (h : S.hits c y) : S.last c ≤ b := by
  obtain ⟨k, hk⟩ := hits_ix h
  have k1 : ¬ k ≤ S.u := fun q => by
    have := hno y (.inr (.inr ⟨c, k, hc, q, hk.symm⟩)) hyx
    omega
  have k2 := slot_lt O (c := c) (show S.u < k by omega)
  rw [slot_u O] at k2
  exact hno _ (.inr (.inr ⟨c, S.u, hc, Nat.le_refl _, (slot_u O c).symm⟩)) (by omega)
theorem inv_close (O : S.Ok M0) (I : Inv S M0 s) {x b : Int} {cl' : List Nat} (hx : IsMin S s x) (hf : ¬ x < s.fr) (hw : ¬ S.inW x) (hb : IsLate S s x b) (hp : S.p < x - b) (hcl : ∀ c, c ∈ cl' ↔ c ∈ s.cl ∨ c ∈ fresh S s b) :
    Inv S M0 (closeS S s b cl') ∧ mu S M0 (closeS S s b cl') < mu S M0 s := by
  have pp := p_pos O
  have hbB : b < bnd S M0 := by
    rcases hb.mo with h | h
    · have := O.low b h
      have := M0_le O
      omega
    · have := frb' O I
      omega
  have hno : ∀ z, S.IsMo z → z ≤ x → z ≤ b := fun z hz hzx => hb.top z (.inl hz) hzx
  have hfb : s.fr ≤ b := hb.top _ (.inr rfl) (by omega)
  -- the attempt of a client that repeats itself, one period behind b
  have back : ∀ (c : Nat) (y : Int), S.last c ≤ b → b < y → ∃ y', b < y' ∧ y' ≤ b + S.p ∧ y' ≤ y ∧ ∀ d, S.last d ≤ b → (S.hits d y' ↔ S.hits d y) := fun c y _ hy => by
    have m0 : 0 ≤ (y - b - 1) % S.p := Int.emod_nonneg _ (by omega)
    have m1 : (y - b - 1) % S.p < S.p := Int.emod_lt_of_pos _ (by omega)
    have q := Int.mul_ediv_add_emod (y - b - 1) S.p
    have q0 : 0 ≤ S.p * ((y - b - 1) / S.p) := Int.mul_nonneg (by omega) (Int.ediv_nonneg (by omega) (by omega))
    refine ⟨b + 1 + (y - b - 1) % S.p, by omega, by omega, by omega, fun d hd => ?_⟩
    unfold Sc.hits
    unfold Sc.last at hd
    refine at_congr O.rule (by show pre S.gs S.u ≤ _; omega) (by omega) ?_
    have : y - S.s0 d - (b + 1 + (y - b - 1) % S.p - S.s0 d) = S.p * ((y - b - 1) / S.p) := by omega
    rw [this]
    exact Int.mul_emod_right _ _
  have newgood : ∀ c ∈ fresh S s b, ∀ y, bnd S M0 ≤ y → S.hits c y → ∃ d ∈ cl', d ≠ c ∧ S.hits d y := fun c hc y hy hh => by
    obtain ⟨hcw, hcb⟩ := mem_fresh.mp hc
    obtain ⟨i, hi⟩ := mem_wk.mp hcw
    obtain ⟨y', h1, h2, h3, h4⟩ := back c y hcb (by omega)
    obtain ⟨k, hk⟩ := hits_ix ((h4 c hcb).mpr hh)
    have hki : k < i := by
      rcases Nat.lt_or_ge k i with z | z
      · exact z
      · have z1 := slot_le O (c := c) z
        have z2 : x ≤ S.slot c i := hx.le _ hi
        omega
    have hyx : y' < x := by omega
    rcases I.met c i hi k hki with m | ⟨w, m, m1, m2⟩ | ⟨d, m, m1, m2⟩
    · omega
    · rw [hk] at m1 m2
      have m3 : ¬ w.2 ≤ x := fun z => by
        have := hno w.2 (.inr (.inl ⟨w, m, .inr rfl⟩)) z
        omega
      exact absurd ⟨w, m, by omega, by omega⟩ hw
    · rw [hk] at m2
      have hd : d < S.N := m1.elim (I.lw d) (I.lc d)
      have hdb := rep_of O hd hno h1 (by omega) m2
      refine ⟨d, (hcl d).mpr ?_, m, (h4 d hdb).mp m2⟩
      rcases m1 with m1 | m1
      · exact .inr (mem_fresh.mpr ⟨m1, hdb⟩)
      · exact .inl m1
  constructor
  · refine ⟨nodup_filter_map I.nd, fun c hc => ?_, fun c hc => I.lw c (close_wk.mp hc).1, fun c hc => ?_, I.ls, fun c hc hc' => ?_, fun c hc => I.wsv c (close_wk.mp hc).1, fun c hc => ?_, fun c hc y hy hh => ?_, fun c i h j hj => ?_, fun c i d k h h' j hj => ?_, I.svf, I.frb, ?_⟩
    · rcases I.cov c hc with h | h | h
      · by_cases hl : S.last c ≤ b
        · exact .inr (.inl ((hcl c).mpr (.inr (mem_fresh.mpr ⟨h, hl⟩))))
        · exact .inl (close_wk.mpr ⟨h, hl⟩)
      · exact .inr (.inl ((hcl c).mpr (.inl h)))
      · exact .inr (.inr h)
    · rcases (hcl c).mp hc with h | h
      · exact I.lc c h
      · exact I.lw c (mem_fresh.mp h).1
    · obtain ⟨h1, h2⟩ := close_wk.mp hc
      rcases (hcl c).mp hc' with h | h
      · exact I.wc c h1 h
      · exact h2 (mem_fresh.mp h).2
    · rcases (hcl c).mp hc with h | h
      · exact I.cs c h
      · exact I.wsv c (mem_fresh.mp h).1
    · rcases (hcl c).mp hc with h | h
      · obtain ⟨d, h1, h2, h3⟩ := I.good c h y hy hh
        exact ⟨d, (hcl d).mpr (.inl h1), h2, h3⟩
      · exact newgood c h y hy hh
    · obtain ⟨h1, _⟩ := close_mem.mp h
      rcases I.met c i h1 j hj with m | m | ⟨d, m, m1, m2⟩
      · exact .inl m
      · exact .inr (.inl m)
      · refine .inr (.inr ⟨d, m, ?_, m2⟩)
        rcases m1 with m1 | m1
        · by_cases hl : S.last d ≤ b
          · exact .inr ((hcl d).mpr (.inr (mem_fresh.mpr ⟨m1, hl⟩)))
          · exact .inl (close_wk.mpr ⟨m1, hl⟩)
        · exact .inr ((hcl d).mpr (.inl m1))
    · exact I.ord c i d k (close_mem.mp h).1 (close_mem.mp h').1 j hj
    · have h1 := I.num
      have h2 := List.length_filter_le (fun q => !decide (S.last q.1 ≤ b)) s.wt
      show s.sv.length + (s.wt.filter fun q => !decide (S.last q.1 ≤ b)).length ≤ S.N
      omega
  · unfold mu closeS
    refine sum_filter_lt (fun q => by omega) ?_
    obtain ⟨r, hr, er⟩ := hx.mem
    refine ⟨r, hr, ?_⟩
    have := rep_of O (c := r.1) (I.lw _ (mem_wk.mpr ⟨r.2, hr⟩)) hno (y := x) (by omega) (Int.le_refl _) (by rw [← er]; exact hits_slot _ _)
    simp [this]
/-! ### decide -/
/-- the waiting clients that attempt in x, the closed ones -/
def nowW (S : Sc) (s : RSt) (x : Int) : List Nat := (s.wt.filter fun q => decide (S.slot q.1 q.2 = x)).map (·.1)
theorem mem_nowW {x : Int} {c : Nat} : c ∈ nowW S s x ↔ ∃ i, (c, i) ∈ s.wt ∧ S.slot c i = x := by
  unfold nowW
  rw [List.mem_map]
  constructor
  · rintro ⟨⟨a, i⟩, h, e⟩
    have e' : a = c := e
    subst e'
    obtain ⟨h1, h2⟩ := List.mem_filter.mp h
    exact ⟨i, h1, of_decide_eq_true h2⟩
  · rintro ⟨i, h, e⟩
    exact ⟨(c, i), List.mem_filter.mpr ⟨h, decide_eq_true e⟩, rfl⟩
theorem nowW_nodup (I : Inv S M0 s) (x : Int) : (nowW S s x).Nodup := nodup_filter_map I.nd
def serve (S : Sc) (s : RSt) (c i : Nat) (x : Int) : RSt := { s with wt := s.wt.filter fun q => !decide (q.1 = c), sv := s.sv ++ [(c, i, x)], fr := x + S.ln }
theorem serve_mem {c i : Nat} {x : Int} {d k : Nat} : (d, k) ∈ (serve S s c i x).wt ↔ (d, k) ∈ s.wt ∧ d ≠ c := by
  unfold serve
  rw [List.mem_filter]
  simp
theorem serve_wk {c i : Nat} {x : Int} {d : Nat} : d ∈ (serve S s c i x).wk ↔ d ∈ s.wk ∧ d ≠ c := by
  rw [mem_wk, mem_wk]
  constructor
  · rintro ⟨k, h⟩
    obtain ⟨h1, h2⟩ := serve_mem.mp h
    exact ⟨⟨k, h1⟩, h2⟩
  · rintro ⟨⟨k, h⟩, h2⟩
    exact ⟨k, serve_mem.mpr ⟨h, h2⟩⟩
theorem serve_sk {c i : Nat} {x : Int} {d : Nat} : d ∈ (serve S s c i x).sk ↔ d ∈ s.sk ∨ d = c := by
  unfold serve RSt.sk
  rw [List.map_append, List.mem_append]
  simp
theorem len_filter_lt {wt : List (Nat × Nat)} {P : Nat × Nat → Bool} (h : ∃ q ∈ wt, P q = false) : (wt.filter P).length < wt.length := by
  have e : ∀ l : List (Nat × Nat), (l.map fun _ => 1).sum = l.length := fun l => by
    induction l with
    | nil => rfl
    | cons a r ih => rw [List.map_cons, List.sum_cons, ih, List.length_cons, Nat.add_comm]
  have := sum_filter_lt (f := fun _ => 1) (P := P) (fun _ => Nat.le_refl _) h
  rw [e, e] at this
  exact this
theorem late_le (O : S.Ok M0) (I : Inv S M0 s) {x b : Int} (hb : IsLate S s x b) : b ≤ M0 + (s.sv.length : Int) * (S.p + S.ln) := by
  rcases hb.mo with h | h
  · have := O.low b h
    have hp := p_pos O
    have hl := O.ln1
    have : 0 ≤ (s.sv.length : Int) * (S.p + S.ln) := Int.mul_nonneg (by omega) (by omega)
    omega
  · have := I.frb
    omega
theorem inv_serve (O : S.Ok M0) (I : Inv S M0 s) {x b : Int} {c i : Nat} (hx : IsMin S s x) (hf : ¬ x < s.fr) (hb : IsLate S s x b) (hp : ¬ S.p < x - b) (hc : (c, i) ∈ s.wt) (hs : S.slot c i = x) :
    Inv S M0 (serve S s c i x) ∧ mu S M0 (serve S s c i x) < mu S M0 s := by
  have pp := p_pos O
  have hl := O.ln1
  have hbl := late_le O I hb
  have hcw : c ∈ s.wk := mem_wk.mpr ⟨i, hc⟩
  have hdone : ∀ d k, (d, k) ∈ s.wt → ∀ j, j < k → S.slot d j < x + S.ln := fun d k h j hj => by
    have := I.ord d k c i h hc j hj
    omega
  constructor
  · refine ⟨nodup_filter_map I.nd, fun d hd => ?_, fun d hd => I.lw d (serve_wk.mp hd).1, I.lc, fun d hd => ?_, fun d hd => I.wc d (serve_wk.mp hd).1, fun d hd hd' => ?_, fun d hd hd' => ?_, I.good, fun d k h j hj => .inl (hdone d k (serve_mem.mp h).1 j hj), fun d k e m h h' j hj => I.ord d k e m (serve_mem.mp h).1 (serve_mem.mp h').1 j hj, fun q hq => ?_, ?_, ?_⟩
    · rcases I.cov d hd with h | h | h
      · by_cases e : d = c
        · exact .inr (.inr (serve_sk.mpr (.inr e)))
        · exact .inl (serve_wk.mpr ⟨h, e⟩)
      · exact .inr (.inl h)
      · exact .inr (.inr (serve_sk.mpr (.inl h)))
    · rcases serve_sk.mp hd with h | h
      · exact I.ls d h
      · rw [h]; exact I.lw c hcw
    · obtain ⟨h1, h2⟩ := serve_wk.mp hd
      rcases serve_sk.mp hd' with h | h
      · exact I.wsv d h1 h
      · exact h2 h
    · rcases serve_sk.mp hd' with h | h
      · exact I.cs d hd h
      · exact I.wc c hcw (by rw [← h]; exact hd)
    · show q.2.2 < x + S.ln
      rcases List.mem_append.mp (show q ∈ s.sv ++ [(c, i, x)] from hq) with h | h
      · have := I.svf q h
        omega
      · have e := List.mem_singleton.mp h
        rw [e]
        show x < x + S.ln
        omega
    · show x + S.ln ≤ M0 + ((s.sv ++ [(c, i, x)]).length : Int) * (S.p + S.ln)
      rw [List.length_append, List.length_singleton]
      have e3 : ((s.sv.length + 1 : Nat) : Int) = (s.sv.length : Int) + 1 := by omega
      rw [e3, Int.add_mul]
      omega
    · show (s.sv ++ [(c, i, x)]).length + (s.wt.filter fun q => !decide (q.1 = c)).length ≤ S.N
      rw [List.length_append, List.length_singleton]
      have h1 := I.num
      have h2 := len_filter_lt (wt := s.wt) (P := fun q => !decide (q.1 = c)) ⟨(c, i), hc, by simp⟩
      omega
  · unfold mu serve
    exact sum_filter_lt (fun q => by omega) ⟨(c, i), hc, by simp⟩
def bump (s : RSt) (cs : List Nat) : RSt := { s with wt := s.wt.map fun q => if q.1 ∈ cs then (q.1, q.2 + 1) else q }
theorem bump_wk (cs : List Nat) : (bump s cs).wk = s.wk := by
  unfold bump RSt.wk
  rw [List.map_map]
  refine List.map_congr_left fun q _ => ?_
  show (if q.1 ∈ cs then (q.1, q.2 + 1) else q).1 = q.1
  split <;> rfl
theorem bump_mem {cs : List Nat} {c i : Nat} : (c, i) ∈ (bump s cs).wt ↔ (c ∈ cs ∧ ∃ j, (c, j) ∈ s.wt ∧ i = j + 1) ∨ (c ∉ cs ∧ (c, i) ∈ s.wt) := by
  unfold bump
  rw [List.mem_map]
  constructor
  · rintro ⟨⟨a, j⟩, h, e⟩
    simp only at e
    split at e
    · rename_i hm
      injection e with e1 e2
      subst e1
      exact .inl ⟨hm, j, h, e2.symm⟩
    · rename_i hm
      injection e with e1 e2
      subst e1 e2
      exact .inr ⟨hm, h⟩
  · rintro (⟨hm, j, h, e⟩ | ⟨hm, h⟩)
    · exact ⟨(c, j), h, by simp [hm, e]⟩
    · exact ⟨(c, i), h, by simp [hm]⟩
theorem inv_bump (O : S.Ok M0) (I : Inv S M0 s) {x b : Int} (hx : IsMin S s x) (hb : IsLate S s x b) (hp : ¬ S.p < x - b)
    (hmet : ∀ c ∈ nowW S s x, ∃ d, d ≠ c ∧ (d ∈ nowW S s x ∨ (d ∈ s.cl ∧ S.hits d x))) :
    Inv S M0 (bump s (nowW S s x)) ∧ mu S M0 (bump s (nowW S s x)) < mu S M0 s := by
  have pp := p_pos O
  have hl := O.ln1
  have hxB : x < bnd S M0 + S.p + 1 := by
    have hb1 : b < bnd S M0 := by
      rcases hb.mo with h | h
      · have := O.low b h
        have := M0_le O
        omega
      · have := frb' O I
        omega
    omega
  have val : ∀ {c i : Nat}, c ∈ nowW S s x → (c, i) ∈ s.wt → S.slot c i = x := fun {c i} h h' => by
    obtain ⟨j, hj, e⟩ := mem_nowW.mp h
    rw [nd_val I.nd h' hj]
    exact e
  constructor
  · refine ⟨by rw [bump_wk]; exact I.nd, by rw [bump_wk]; exact I.cov, by rw [bump_wk]; exact I.lw, I.lc, I.ls, by rw [bump_wk]; exact I.wc, by rw [bump_wk]; exact I.wsv, I.cs, I.good, fun c i h j hj => ?_, fun c i d k h h' j hj => ?_, I.svf, I.frb, ?_⟩
    · show S.slot c j < s.fr ∨ S.inW (S.slot c j) ∨ ∃ d, d ≠ c ∧ (d ∈ (bump s (nowW S s x)).wk ∨ d ∈ s.cl) ∧ S.hits d (S.slot c j)
      rw [bump_wk]
      rcases bump_mem.mp h with ⟨hm, k, hk, e⟩ | ⟨hm, hk⟩
      · by_cases q : j < k
        · exact I.met c k hk j q
        · have ej : j = k := by omega
          rw [ej, val hm hk]
          obtain ⟨d, h1, h2⟩ := hmet c hm
          refine .inr (.inr ⟨d, h1, ?_⟩)
          rcases h2 with h2 | ⟨h2, h3⟩
          · obtain ⟨m, hm1, hm2⟩ := mem_nowW.mp h2
            exact ⟨.inl (mem_wk.mpr ⟨m, hm1⟩), by rw [← hm2]; exact hits_slot _ _⟩
          · exact ⟨.inr h2, h3⟩
      · exact I.met c i hk j hj
    · have low : ∃ k0, (d, k0) ∈ s.wt ∧ k0 ≤ k := by
        rcases bump_mem.mp h' with ⟨_, m, hm, e⟩ | ⟨_, hm⟩
        · exact ⟨m, hm, by omega⟩
        · exact ⟨k, hm, Nat.le_refl _⟩
      obtain ⟨k0, hk0, hle⟩ := low
      have h1 := slot_le O (c := d) hle
      rcases bump_mem.mp h with ⟨hm, m, hk, e⟩ | ⟨hm, hk⟩
      · by_cases q : j < m
        · have := I.ord c m d k0 hk hk0 j q
          omega
        · have ej : j = m := by omega
          have h2 : x ≤ S.slot d k0 := hx.le _ hk0
          rw [ej, val hm hk]
          omega
      · have := I.ord c i d k0 hk hk0 j hj
        omega
    · have := I.num
      unfold bump
      rw [List.length_map]
      exact this
  · unfold mu bump
    rw [List.map_map]
    refine sum_lt_of (fun q hq => ?_) ?_
    · show 1 + (bnd S M0 + S.p + 1 - S.slot (if q.1 ∈ nowW S s x then (q.1, q.2 + 1) else q).1 (if q.1 ∈ nowW S s x then (q.1, q.2 + 1) else q).2).toNat ≤ _
      split
      · have := slot_le O (c := q.1) (Nat.le_succ q.2)
        show 1 + (bnd S M0 + S.p + 1 - S.slot q.1 (q.2 + 1)).toNat ≤ _
        have e : q.2.succ = q.2 + 1 := rfl
        rw [e] at this
        omega
      · exact Nat.le_refl _
    · obtain ⟨r, hr, er⟩ := hx.mem
      refine ⟨r, hr, ?_⟩
      have hm : r.1 ∈ nowW S s x := mem_nowW.mpr ⟨r.2, hr, er⟩
      show 1 + (bnd S M0 + S.p + 1 - S.slot (if r.1 ∈ nowW S s x then (r.1, r.2 + 1) else r).1 (if r.1 ∈ nowW S s x then (r.1, r.2 + 1) else r).2).toNat < _
      rw [if_pos hm]
      have := slot_lt O (c := r.1) (Nat.lt_succ_self r.2)
      show 1 + (bnd S M0 + S.p + 1 - S.slot r.1 (r.2 + 1)).toNat < _
      have e : r.2.succ = r.2 + 1 := rfl
      rw [e] at this
      omega
end
/-! ### the start, the end -/
/-- how many clients share a client's start -/
def eqs (S : Sc) (c : Nat) : List Nat := (List.range S.N).filter fun d => decide (S.s0 d = S.s0 c)
def initS (S : Sc) (f : Int) : RSt := ⟨((List.range S.N).filter fun c => !decide (1 < (eqs S c).length)).map fun c => (c, 0), (List.range S.N).filter fun c => decide (1 < (eqs S c).length), [], f⟩
theorem mem_eqs {S : Sc} {c d : Nat} : d ∈ eqs S c ↔ d < S.N ∧ S.s0 d = S.s0 c := by
  unfold eqs
  rw [List.mem_filter, List.mem_range]
  simp
theorem init_wk {S : Sc} {f : Int} {c : Nat} : c ∈ (initS S f).wk ↔ c < S.N ∧ ¬ 1 < (eqs S c).length := by
  unfold initS RSt.wk
  simp
theorem init_cl {S : Sc} {f : Int} {c : Nat} : c ∈ (initS S f).cl ↔ c < S.N ∧ 1 < (eqs S c).length := by
  unfold initS
  simp
theorem inv_init {S : Sc} {M0 f : Int} (hf : f ≤ M0) : Inv S M0 (initS S f) := by
  have wk0 : ∀ c i, (c, i) ∈ (initS S f).wt → i = 0 := fun c i h => by
    unfold initS at h
    obtain ⟨d, _, e⟩ := List.mem_map.mp h
    injection e with _ e2
    exact e2.symm
  refine ⟨?_, fun c hc => ?_, fun c hc => (init_wk.mp hc).1, fun c hc => (init_cl.mp hc).1, fun c hc => ?_, fun c hc hc' => (init_wk.mp hc).2 (init_cl.mp hc').2, fun c hc hc' => ?_, fun c hc hc' => ?_, fun c hc x _ hx => ?_, fun c i h j hj => ?_, fun c i d k h _ j hj => ?_, fun q hq => ?_, ?_, ?_⟩
  · unfold initS RSt.wk
    rw [List.map_map]
    have e : ((fun q : Nat × Nat => q.1) ∘ fun c : Nat => (c, 0)) = id := rfl
    rw [e, List.map_id]
    exact List.Nodup.sublist List.filter_sublist List.nodup_range
  · by_cases h : 1 < (eqs S c).length
    · exact .inr (.inl (init_cl.mpr ⟨hc, h⟩))
    · exact .inl (init_wk.mpr ⟨hc, h⟩)
  · have : c ∈ ([] : List Nat) := hc
    cases this
  · have : c ∈ ([] : List Nat) := hc'
    cases this
  · have : c ∈ ([] : List Nat) := hc'
    cases this
  · obtain ⟨h1, h2⟩ := init_cl.mp hc
    -- another client with the same start
    have : ∃ d ∈ eqs S c, d ≠ c := by
      have nd : (eqs S c).Nodup := List.Nodup.sublist List.filter_sublist List.nodup_range
      match he : eqs S c, h2, nd with
      | a :: b :: r, _, nd =>
        by_cases q : a = c
        · refine ⟨b, List.mem_cons_of_mem _ List.mem_cons_self, fun z => ?_⟩
          rw [List.nodup_cons] at nd
          exact nd.1 (by rw [q, z]; exact List.mem_cons_self)
        · exact ⟨a, List.mem_cons_self, q⟩
    obtain ⟨d, hd, hne⟩ := this
    obtain ⟨h3, h4⟩ := mem_eqs.mp hd
    have ee : eqs S d = eqs S c := by
      unfold eqs
      rw [h4]
    refine ⟨d, init_cl.mpr ⟨h3, by rw [ee]; exact h2⟩, hne, ?_⟩
    unfold Sc.hits at hx ⊢
    rw [h4]
    exact hx
  · rw [wk0 c i h] at hj
    exact absurd hj (Nat.not_lt_zero _)
  · rw [wk0 c i h] at hj
    exact absurd hj (Nat.not_lt_zero _)
  · have : q ∈ ([] : List (Nat × Nat × Int)) := hq
    cases this
  · show f ≤ M0 + (([] : List (Nat × Nat × Int)).length : Int) * (S.p + S.ln)
    simp
    exact hf
  · unfold initS
    simp only [List.length_nil, List.length_map, Nat.zero_add]
    have := List.length_filter_le (fun c => !decide (1 < (eqs S c).length)) (List.range S.N)
    rw [List.length_range] at this
    exact this
/-- what stands behind the run -/
structure Fin (S : Sc) (B : Int) (sv : List (Nat × Nat × Int)) : Prop where
  lt : ∀ q ∈ sv, q.1 < S.N
  early : ∀ q ∈ sv, q.2.2 < B
  two : ∀ c, c < S.N → c ∉ sv.map (·.1) → ∀ x, B ≤ x → S.hits c x → ∃ d, d < S.N ∧ d ∉ sv.map (·.1) ∧ d ≠ c ∧ S.hits d x
theorem inv_fin {S : Sc} {M0 : Int} {s : RSt} (O : S.Ok M0) (I : Inv S M0 s) (h : s.wt = []) : Fin S (bnd S M0) s.sv := by
  have nk : ∀ c, c ∉ s.wk := fun c hc => by
    unfold RSt.wk at hc
    rw [h] at hc
    cases hc
  refine ⟨fun q hq => I.ls q.1 (List.mem_map.mpr ⟨q, hq, rfl⟩), fun q hq => ?_, fun c hc hs x hx hh => ?_⟩
  · have := I.svf q hq
    have := frb' O I
    omega
  · have hcl : c ∈ s.cl := by
      rcases I.cov c hc with z | z | z
      · exact absurd z (nk c)
      · exact z
      · exact absurd z hs
    obtain ⟨d, h1, h2, h3⟩ := I.good c hcl x hx hh
    exact ⟨d, I.lc d h1, I.cs d h1, h2, h3⟩
end RS
end

section
set_option Elab.async false
set_option linter.all false
set_option maxRecDepth 100000
set_option maxHeartbeats 4000000
namespace RS
open PySem PySem.Spec PyProof.Rows L2
/-! ### the text by places -/
def top (i : Nat) : Stmt := PySem.Challenge.pw_retryslots_k52_whole_far_attempts_of_cli.main.body.getD i (.Pass ⟨0, 0, 0, 0⟩)
abbrev s_is_integer : Stmt := top 11
abbrev s_is_between : Stmt := top 12
abbrev s_is_tail : Stmt := top 19
abbrev s_Rule_init : Stmt := inClass (top 20) 0
abbrev s_Rule_gaps : Stmt := inClass (top 20) 2
abbrev s_Rule_tail : Stmt := inClass (top 20) 3
abbrev s_Rule_attempts : Stmt := inClass (top 20) 4
abbrev s_Rule_check_attempt : Stmt := inClass (top 20) 5
abbrev s_Rule_offset : Stmt := inClass (top 20) 7
abbrev s_Rule_offset_of : Stmt := inClass (top 20) 8
abbrev s_Rule_period : Stmt := inClass (top 20) 9
abbrev s_Rule_first_from : Stmt := inClass (top 20) 11
abbrev s_Rule_attempt_at : Stmt := inClass (top 20) 12
abbrev s_check_starts : Stmt := top 24
abbrev s_is_window : Stmt := top 25
abbrev s_check_outages : Stmt := top 26
abbrev s_Scene_init : Stmt := inClass (top 27) 0
abbrev s_Scene_rule : Stmt := inClass (top 27) 3
abbrev s_Scene_starts : Stmt := inClass (top 27) 4
abbrev s_Scene_outages : Stmt := inClass (top 27) 5
abbrev s_Scene_length : Stmt := inClass (top 27) 6
abbrev s_Scene_check_client : Stmt := inClass (top 27) 7
abbrev s_Scene_slot_of : Stmt := inClass (top 27) 8
abbrev s_Scene_attempt_in : Stmt := inClass (top 27) 9
abbrev s_Scene_outage_at : Stmt := inClass (top 27) 10
abbrev s_Scene_listed_slots : Stmt := inClass (top 27) 11
abbrev s_Scene_moments : Stmt := inClass (top 27) 12
abbrev s_Run_init : Stmt := inClass (top 29) 0
abbrev s_Run_advance : Stmt := inClass (top 29) 1
abbrev s_Run_failing_until : Stmt := inClass (top 29) 2
abbrev s_Run_skip_to : Stmt := inClass (top 29) 3
abbrev s_Run_latest_moment : Stmt := inClass (top 29) 4
abbrev s_Run_is_repeated : Stmt := inClass (top 29) 5
abbrev s_Run_close : Stmt := inClass (top 29) 6
abbrev s_Run_decide : Stmt := inClass (top 29) 7
abbrev s_Run_scene : Stmt := inClass (top 29) 8
abbrev s_Run_outcome : Stmt := inClass (top 29) 9
abbrev s_Run_outcomes : Stmt := inClass (top 29) 10
abbrev s_Run_order : Stmt := inClass (top 29) 11
abbrev s_Run_is_active : Stmt := inClass (top 29) 12
abbrev s_Run_active : Stmt := inClass (top 29) 13
abbrev s_Run_attempting : Stmt := inClass (top 29) 14
abbrev s_Run_busy_with : Stmt := inClass (top 29) 15
abbrev s_Run_event : Stmt := inClass (top 29) 16
abbrev s_check_run : Stmt := top 32
abbrev s_attempts_made : Stmt := top 33
abbrev s_reason_of : Stmt := top 34
abbrev s_reason : Stmt := top 35
abbrev s_end_of_window : Stmt := top 36
abbrev s_first_attempt : Stmt := top 37
abbrev s_behind_window : Stmt := top 38
abbrev s_check_bounds : Stmt := top 39
abbrev s_history : Stmt := top 40
abbrev s_without_outages : Stmt := top 41
abbrev s_busy_windows : Stmt := top 42
abbrev s_count_within : Stmt := top 43
abbrev s_failure_counts : Stmt := top 44
abbrev s_law_mixed : Stmt := top 46
abbrev s_law_well : Stmt := top 47
abbrev s_law_draw : Stmt := top 48
abbrev s_law_one : Stmt := top 49
abbrev s_law_gaps : Stmt := top 50
abbrev s_law_windows : Stmt := top 51
abbrev s_law_parts : Stmt := top 52
abbrev s_law_made : Stmt := top 53
abbrev s_law_has : Stmt := top 54
abbrev s_law_place : Stmt := top 55
abbrev s_law_looped : Stmt := top 56
abbrev s_law_client_right : Stmt := top 57
abbrev s_law_right : Stmt := top 58
abbrev s_law : Stmt := top 59
theorem sc_is_integer : FnScope ["value"] ["value"] (defScope s_is_integer) := ⟨rfl, rfl, rfl, by decide +kernel, rfl, by decide +kernel, by decide +kernel⟩
theorem sc_is_between : FnScope ["value", "low", "high"] ["value", "low", "high"] (defScope s_is_between) := ⟨rfl, rfl, rfl, by decide +kernel, rfl, by decide +kernel, by decide +kernel⟩
theorem sc_is_tail : FnScope ["tail", "gap_count"] ["tail", "gap_count"] (defScope s_is_tail) := ⟨rfl, rfl, rfl, by decide +kernel, rfl, by decide +kernel, by decide +kernel⟩
theorem sc_Rule_init : FnScope ["self", "gaps", "tail", "gap"] ["self", "gaps", "tail"] (defScope s_Rule_init) := ⟨rfl, rfl, rfl, by decide +kernel, rfl, by decide +kernel, by decide +kernel⟩
theorem sc_Rule_gaps : FnScope ["self"] ["self"] (defScope s_Rule_gaps) := ⟨rfl, rfl, rfl, by decide +kernel, rfl, by decide +kernel, by decide +kernel⟩
theorem sc_Rule_tail : FnScope ["self"] ["self"] (defScope s_Rule_tail) := ⟨rfl, rfl, rfl, by decide +kernel, rfl, by decide +kernel, by decide +kernel⟩
theorem sc_Rule_attempts : FnScope ["self"] ["self"] (defScope s_Rule_attempts) := ⟨rfl, rfl, rfl, by decide +kernel, rfl, by decide +kernel, by decide +kernel⟩
theorem sc_Rule_check_attempt : FnScope ["self", "attempt"] ["self", "attempt"] (defScope s_Rule_check_attempt) := ⟨rfl, rfl, rfl, by decide +kernel, rfl, by decide +kernel, by decide +kernel⟩
theorem sc_Rule_offset : FnScope ["self", "attempt"] ["self", "attempt"] (defScope s_Rule_offset) := ⟨rfl, rfl, rfl, by decide +kernel, rfl, by decide +kernel, by decide +kernel⟩
theorem sc_Rule_offset_of : FnScope ["self", "attempt", "further", "factor", "count", "first", "partial"] ["self", "attempt"] (defScope s_Rule_offset_of) := ⟨rfl, rfl, rfl, by decide +kernel, rfl, by decide +kernel, by decide +kernel⟩
theorem sc_Rule_period : FnScope ["self"] ["self"] (defScope s_Rule_period) := ⟨rfl, rfl, rfl, by decide +kernel, rfl, by decide +kernel, by decide +kernel⟩
theorem sc_Rule_first_from : FnScope ["self", "distance", "attempt", "offset"] ["self", "distance"] (defScope s_Rule_first_from) := ⟨rfl, rfl, rfl, by decide +kernel, rfl, by decide +kernel, by decide +kernel⟩
theorem sc_Rule_attempt_at : FnScope ["self", "distance", "attempt"] ["self", "distance"] (defScope s_Rule_attempt_at) := ⟨rfl, rfl, rfl, by decide +kernel, rfl, by decide +kernel, by decide +kernel⟩
theorem sc_check_starts : FnScope ["starts", "at", "start"] ["starts"] (defScope s_check_starts) := ⟨rfl, rfl, rfl, by decide +kernel, rfl, by decide +kernel, by decide +kernel⟩
theorem sc_is_window : FnScope ["value"] ["value"] (defScope s_is_window) := ⟨rfl, rfl, rfl, by decide +kernel, rfl, by decide +kernel, by decide +kernel⟩
theorem sc_check_outages : FnScope ["outages", "at", "outage"] ["outages"] (defScope s_check_outages) := ⟨rfl, rfl, rfl, by decide +kernel, rfl, by decide +kernel, by decide +kernel⟩
theorem sc_Scene_init : FnScope ["self", "rule", "starts", "outages", "length", "windows"] ["self", "rule", "starts", "outages", "length"] (defScope s_Scene_init) := ⟨rfl, rfl, rfl, by decide +kernel, rfl, by decide +kernel, by decide +kernel⟩
theorem sc_Scene_rule : FnScope ["self"] ["self"] (defScope s_Scene_rule) := ⟨rfl, rfl, rfl, by decide +kernel, rfl, by decide +kernel, by decide +kernel⟩
theorem sc_Scene_starts : FnScope ["self"] ["self"] (defScope s_Scene_starts) := ⟨rfl, rfl, rfl, by decide +kernel, rfl, by decide +kernel, by decide +kernel⟩
theorem sc_Scene_outages : FnScope ["self"] ["self"] (defScope s_Scene_outages) := ⟨rfl, rfl, rfl, by decide +kernel, rfl, by decide +kernel, by decide +kernel⟩
theorem sc_Scene_length : FnScope ["self"] ["self"] (defScope s_Scene_length) := ⟨rfl, rfl, rfl, by decide +kernel, rfl, by decide +kernel, by decide +kernel⟩
theorem sc_Scene_check_client : FnScope ["self", "client"] ["self", "client"] (defScope s_Scene_check_client) := ⟨rfl, rfl, rfl, by decide +kernel, rfl, by decide +kernel, by decide +kernel⟩
theorem sc_Scene_slot_of : FnScope ["self", "client", "attempt"] ["self", "client", "attempt"] (defScope s_Scene_slot_of) := ⟨rfl, rfl, rfl, by decide +kernel, rfl, by decide +kernel, by decide +kernel⟩
theorem sc_Scene_attempt_in : FnScope ["self", "client", "slot"] ["self", "client", "slot"] (defScope s_Scene_attempt_in) := ⟨rfl, rfl, rfl, by decide +kernel, rfl, by decide +kernel, by decide +kernel⟩
theorem sc_Scene_outage_at : FnScope ["self", "slot", "at", "outage"] ["self", "slot"] (defScope s_Scene_outage_at) := ⟨rfl, rfl, rfl, by decide +kernel, rfl, by decide +kernel, by decide +kernel⟩
theorem sc_Scene_listed_slots : FnScope ["self", "client", "count", "attempt"] ["self", "client"] (defScope s_Scene_listed_slots) := ⟨rfl, rfl, rfl, by decide +kernel, rfl, by decide +kernel, by decide +kernel⟩
theorem sc_Scene_moments : FnScope ["self", "found", "outage", "client"] ["self"] (defScope s_Scene_moments) := ⟨rfl, rfl, rfl, by decide +kernel, rfl, by decide +kernel, by decide +kernel⟩
theorem sc_Run_init : FnScope ["self", "scene", "client", "start", "equal", "other", "its_start"] ["self", "scene"] (defScope s_Run_init) := ⟨rfl, rfl, rfl, by decide +kernel, rfl, by decide +kernel, by decide +kernel⟩
theorem sc_Run_advance : FnScope ["self", "slots", "client", "its", "slot", "end", "its_slot"] ["self"] (defScope s_Run_advance) := ⟨rfl, rfl, rfl, by decide +kernel, rfl, by decide +kernel, by decide +kernel⟩
theorem sc_Run_failing_until : FnScope ["self", "slot", "at"] ["self", "slot"] (defScope s_Run_failing_until) := ⟨rfl, rfl, rfl, by decide +kernel, rfl, by decide +kernel, by decide +kernel⟩
theorem sc_Run_skip_to : FnScope ["self", "slot", "client", "attempt"] ["self", "slot"] (defScope s_Run_skip_to) := ⟨rfl, rfl, rfl, by decide +kernel, rfl, by decide +kernel, by decide +kernel⟩
theorem sc_Run_latest_moment : FnScope ["self", "slot", "moment"] ["self", "slot"] (defScope s_Run_latest_moment) := ⟨rfl, rfl, rfl, by decide +kernel, rfl, by decide +kernel, by decide +kernel⟩
theorem sc_Run_is_repeated : FnScope ["self", "slot", "period"] ["self", "slot"] (defScope s_Run_is_repeated) := ⟨rfl, rfl, rfl, by decide +kernel, rfl, by decide +kernel, by decide +kernel⟩
theorem sc_Run_close : FnScope ["self", "slot", "begin", "fresh", "client", "members"] ["self", "slot"] (defScope s_Run_close) := ⟨rfl, rfl, rfl, by decide +kernel, rfl, by decide +kernel, by decide +kernel⟩
theorem sc_Run_decide : FnScope ["self", "slot", "clients", "others", "client"] ["self", "slot", "clients"] (defScope s_Run_decide) := ⟨rfl, rfl, rfl, by decide +kernel, rfl, by decide +kernel, by decide +kernel⟩
theorem sc_Run_scene : FnScope ["self"] ["self"] (defScope s_Run_scene) := ⟨rfl, rfl, rfl, by decide +kernel, rfl, by decide +kernel, by decide +kernel⟩
theorem sc_Run_outcome : FnScope ["self", "client", "attempt", "slot"] ["self", "client"] (defScope s_Run_outcome) := ⟨rfl, rfl, rfl, by decide +kernel, rfl, by decide +kernel, by decide +kernel⟩
theorem sc_Run_outcomes : FnScope ["self", "client"] ["self"] (defScope s_Run_outcomes) := ⟨rfl, rfl, rfl, by decide +kernel, rfl, by decide +kernel, by decide +kernel⟩
theorem sc_Run_order : FnScope ["self", "client", "attempt", "slot"] ["self"] (defScope s_Run_order) := ⟨rfl, rfl, rfl, by decide +kernel, rfl, by decide +kernel, by decide +kernel⟩
theorem sc_Run_is_active : FnScope ["self", "client", "slot"] ["self", "client", "slot"] (defScope s_Run_is_active) := ⟨rfl, rfl, rfl, by decide +kernel, rfl, by decide +kernel, by decide +kernel⟩
theorem sc_Run_active : FnScope ["self", "slot", "client"] ["self", "slot"] (defScope s_Run_active) := ⟨rfl, rfl, rfl, by decide +kernel, rfl, by decide +kernel, by decide +kernel⟩
theorem sc_Run_attempting : FnScope ["self", "slot", "client"] ["self", "slot"] (defScope s_Run_attempting) := ⟨rfl, rfl, rfl, by decide +kernel, rfl, by decide +kernel, by decide +kernel⟩
theorem sc_Run_busy_with : FnScope ["self", "slot", "length", "begin", "client"] ["self", "slot"] (defScope s_Run_busy_with) := ⟨rfl, rfl, rfl, by decide +kernel, rfl, by decide +kernel, by decide +kernel⟩
theorem sc_Run_event : FnScope ["self", "slot", "clients", "at", "client"] ["self", "slot"] (defScope s_Run_event) := ⟨rfl, rfl, rfl, by decide +kernel, rfl, by decide +kernel, by decide +kernel⟩
theorem sc_check_run : FnScope ["run"] ["run"] (defScope s_check_run) := ⟨rfl, rfl, rfl, by decide +kernel, rfl, by decide +kernel, by decide +kernel⟩
theorem sc_attempts_made : FnScope ["run", "client"] ["run", "client"] (defScope s_attempts_made) := ⟨rfl, rfl, rfl, by decide +kernel, rfl, by decide +kernel, by decide +kernel⟩
theorem sc_reason_of : FnScope ["run", "client", "attempt", "found", "other"] ["run", "client", "attempt"] (defScope s_reason_of) := ⟨rfl, rfl, rfl, by decide +kernel, rfl, by decide +kernel, by decide +kernel⟩
theorem sc_reason : FnScope ["run", "client", "attempt", "count"] ["run", "client", "attempt"] (defScope s_reason) := ⟨rfl, rfl, rfl, by decide +kernel, rfl, by decide +kernel, by decide +kernel⟩
theorem sc_end_of_window : FnScope ["run", "slot", "found", "windows", "begin", "outage"] ["run", "slot", "found"] (defScope s_end_of_window) := ⟨rfl, rfl, rfl, by decide +kernel, rfl, by decide +kernel, by decide +kernel⟩
theorem sc_first_attempt : FnScope ["run", "client", "slot", "attempt"] ["run", "client", "slot"] (defScope s_first_attempt) := ⟨rfl, rfl, rfl, by decide +kernel, rfl, by decide +kernel, by decide +kernel⟩
theorem sc_behind_window : FnScope ["run", "client", "attempt", "found", "slot"] ["run", "client", "attempt", "found"] (defScope s_behind_window) := ⟨rfl, rfl, rfl, by decide +kernel, rfl, by decide +kernel, by decide +kernel⟩
theorem sc_check_bounds : FnScope ["first", "after"] ["first", "after"] (defScope s_check_bounds) := ⟨rfl, rfl, rfl, by decide +kernel, rfl, by decide +kernel, by decide +kernel⟩
theorem sc_history : FnScope ["run", "client", "first", "after", "count", "stop", "entries", "found", "following"] ["run", "client", "first", "after"] (defScope s_history) := ⟨rfl, rfl, rfl, by decide +kernel, rfl, by decide +kernel, by decide +kernel⟩
theorem sc_without_outages : FnScope ["run", "begin", "end", "parts", "first", "after", "part"] ["run", "begin", "end"] (defScope s_without_outages) := ⟨rfl, rfl, rfl, by decide +kernel, rfl, by decide +kernel, by decide +kernel⟩
theorem sc_busy_windows : FnScope ["run", "client", "found", "slot", "other"] ["run", "client"] (defScope s_busy_windows) := ⟨rfl, rfl, rfl, by decide +kernel, rfl, by decide +kernel, by decide +kernel⟩
theorem sc_count_within : FnScope ["run", "client", "windows", "first", "stop", "total", "begin", "end", "low", "high"] ["run", "client", "windows", "first", "stop"] (defScope s_count_within) := ⟨rfl, rfl, rfl, by decide +kernel, rfl, by decide +kernel, by decide +kernel⟩
theorem sc_failure_counts : FnScope ["run", "client", "first", "after", "count", "stop", "outage", "busy"] ["run", "client", "first", "after"] (defScope s_failure_counts) := ⟨rfl, rfl, rfl, by decide +kernel, rfl, by decide +kernel, by decide +kernel⟩
theorem sc_law_mixed : FnScope ["_law_cell", "_law_k", "_law_number"] ["_law_cell", "_law_k"] (defScope s_law_mixed) := ⟨rfl, rfl, rfl, by decide +kernel, rfl, by decide +kernel, by decide +kernel⟩
theorem sc_law_well : FnScope ["_law_cell"] ["_law_cell"] (defScope s_law_well) := ⟨rfl, rfl, rfl, by decide +kernel, rfl, by decide +kernel, by decide +kernel⟩
theorem sc_law_draw : FnScope ["_law_well_here", "_law_many", "_law_found"] ["_law_well_here", "_law_many"] (defScope s_law_draw) := ⟨rfl, rfl, rfl, by decide +kernel, rfl, by decide +kernel, by decide +kernel⟩
theorem sc_law_one : FnScope ["_law_well_here", "_law_some"] ["_law_well_here", "_law_some"] (defScope s_law_one) := ⟨rfl, rfl, rfl, by decide +kernel, rfl, by decide +kernel, by decide +kernel⟩
theorem sc_law_gaps : FnScope ["_law_well_here", "_law_wide", "_law_steps", "_law_k", "_law_way"] ["_law_well_here"] (defScope s_law_gaps) := ⟨rfl, rfl, rfl, by decide +kernel, rfl, by decide +kernel, by decide +kernel⟩
theorem sc_law_windows : FnScope ["_law_well_here", "_law_found", "_law_low", "_law_k"] ["_law_well_here"] (defScope s_law_windows) := ⟨rfl, rfl, rfl, by decide +kernel, rfl, by decide +kernel, by decide +kernel⟩
theorem sc_law_parts : FnScope ["_law_well_here", "_law_steps", "_law_ending", "_law_wide", "_law_begins", "_law_k"] ["_law_well_here"] (defScope s_law_parts) := ⟨rfl, rfl, rfl, by decide +kernel, rfl, by decide +kernel, by decide +kernel⟩
theorem sc_law_made : FnScope ["_law_parts_here", "_law_steps", "_law_ending", "_law_begins", "_law_windows_here", "_law_long"] ["_law_parts_here"] (defScope s_law_made) := ⟨rfl, rfl, rfl, by decide +kernel, rfl, by decide +kernel, by decide +kernel⟩
theorem sc_law_has : FnScope ["_law_steps", "_law_ending", "_law_distance", "_law_place_here", "_law_gap", "_law_last", "_law_rest", "_law_partial"] ["_law_steps", "_law_ending", "_law_distance"] (defScope s_law_has) := ⟨rfl, rfl, rfl, by decide +kernel, rfl, by decide +kernel, by decide +kernel⟩
theorem sc_law_place : FnScope ["_law_steps", "_law_ending", "_law_attempt", "_law_last", "_law_more", "_law_part"] ["_law_steps", "_law_ending", "_law_attempt"] (defScope s_law_place) := ⟨rfl, rfl, rfl, by decide +kernel, rfl, by decide +kernel, by decide +kernel⟩
theorem sc_law_looped : FnScope ["_law_well_here", "_law_steps", "_law_ending", "_law_begins", "_law_windows_here", "_law_long", "_law_turn", "_law_more", "_law_k"] ["_law_well_here"] (defScope s_law_looped) := ⟨rfl, rfl, rfl, by decide +kernel, rfl, by decide +kernel, by decide +kernel⟩
theorem sc_law_client_right : FnScope ["_law_gone", "_law_parts_here", "_law_never", "_law_client", "_law_attempt", "_law_steps", "_law_ending", "_law_begins", "_law_windows_here", "_law_long", "_law_slot", "_law_some", "_law_other", "_law_others", "_law_told", "_law_entry", "_law_k"] ["_law_gone", "_law_parts_here", "_law_never", "_law_client", "_law_attempt"] (defScope s_law_client_right) := ⟨rfl, rfl, rfl, by decide +kernel, rfl, by decide +kernel, by decide +kernel⟩
theorem sc_law_right : FnScope ["_law_well_here", "_law_parts_here", "_law_gone", "_law_never", "_law_client", "_law_one_here", "_law_attempt", "_law_slot", "_law_some"] ["_law_well_here"] (defScope s_law_right) := ⟨rfl, rfl, rfl, by decide +kernel, rfl, by decide +kernel, by decide +kernel⟩
theorem sc_law : FnScope ["_law_script", "_law_cell"] ["_law_script"] (defScope s_law) := ⟨rfl, rfl, rfl, by decide +kernel, rfl, by decide +kernel, by decide +kernel⟩
/-! ### what the head tells -/
def d_is_integer : He.DefD := ⟨("is_integer", none), "is_integer", "is_integer", defArgs s_is_integer, defBody s_is_integer, defScope s_is_integer, [], []⟩
def d_is_between : He.DefD := ⟨("is_between", none), "is_between", "is_between", defArgs s_is_between, defBody s_is_between, defScope s_is_between, [], []⟩
def d_is_tail : He.DefD := ⟨("is_tail", none), "is_tail", "is_tail", defArgs s_is_tail, defBody s_is_tail, defScope s_is_tail, [], []⟩
def d_Rule_init : He.DefD := ⟨("Rule", some "__init__"), "__init__", "Rule.__init__", defArgs s_Rule_init, defBody s_Rule_init, defScope s_Rule_init, [], []⟩
def d_Rule_gaps : He.DefD := ⟨("Rule", some "gaps"), "gaps", "Rule.gaps", defArgs s_Rule_gaps, defBody s_Rule_gaps, defScope s_Rule_gaps, [], []⟩
def d_Rule_tail : He.DefD := ⟨("Rule", some "tail"), "tail", "Rule.tail", defArgs s_Rule_tail, defBody s_Rule_tail, defScope s_Rule_tail, [], []⟩
def d_Rule_attempts : He.DefD := ⟨("Rule", some "attempts"), "attempts", "Rule.attempts", defArgs s_Rule_attempts, defBody s_Rule_attempts, defScope s_Rule_attempts, [], []⟩
def d_Rule_check_attempt : He.DefD := ⟨("Rule", some "check_attempt"), "check_attempt", "Rule.check_attempt", defArgs s_Rule_check_attempt, defBody s_Rule_check_attempt, defScope s_Rule_check_attempt, [], []⟩
def d_Rule_offset : He.DefD := ⟨("Rule", some "offset"), "offset", "Rule.offset", defArgs s_Rule_offset, defBody s_Rule_offset, defScope s_Rule_offset, [], []⟩
def d_Rule_offset_of : He.DefD := ⟨("Rule", some "offset_of"), "offset_of", "Rule.offset_of", defArgs s_Rule_offset_of, defBody s_Rule_offset_of, defScope s_Rule_offset_of, [], []⟩
def d_Rule_period : He.DefD := ⟨("Rule", some "period"), "period", "Rule.period", defArgs s_Rule_period, defBody s_Rule_period, defScope s_Rule_period, [], []⟩
def d_Rule_first_from : He.DefD := ⟨("Rule", some "first_from"), "first_from", "Rule.first_from", defArgs s_Rule_first_from, defBody s_Rule_first_from, defScope s_Rule_first_from, [], []⟩
def d_Rule_attempt_at : He.DefD := ⟨("Rule", some "attempt_at"), "attempt_at", "Rule.attempt_at", defArgs s_Rule_attempt_at, defBody s_Rule_attempt_at, defScope s_Rule_attempt_at, [], []⟩
def d_check_starts : He.DefD := ⟨("check_starts", none), "check_starts", "check_starts", defArgs s_check_starts, defBody s_check_starts, defScope s_check_starts, [], []⟩
def d_is_window : He.DefD := ⟨("is_window", none), "is_window", "is_window", defArgs s_is_window, defBody s_is_window, defScope s_is_window, [], []⟩
def d_check_outages : He.DefD := ⟨("check_outages", none), "check_outages", "check_outages", defArgs s_check_outages, defBody s_check_outages, defScope s_check_outages, [], []⟩
def d_Scene_init : He.DefD := ⟨("Scene", some "__init__"), "__init__", "Scene.__init__", defArgs s_Scene_init, defBody s_Scene_init, defScope s_Scene_init, [], [("outages", .non), ("length", .int 1)]⟩
def d_Scene_rule : He.DefD := ⟨("Scene", some "rule"), "rule", "Scene.rule", defArgs s_Scene_rule, defBody s_Scene_rule, defScope s_Scene_rule, [], []⟩
def d_Scene_starts : He.DefD := ⟨("Scene", some "starts"), "starts", "Scene.starts", defArgs s_Scene_starts, defBody s_Scene_starts, defScope s_Scene_starts, [], []⟩
def d_Scene_outages : He.DefD := ⟨("Scene", some "outages"), "outages", "Scene.outages", defArgs s_Scene_outages, defBody s_Scene_outages, defScope s_Scene_outages, [], []⟩
def d_Scene_length : He.DefD := ⟨("Scene", some "length"), "length", "Scene.length", defArgs s_Scene_length, defBody s_Scene_length, defScope s_Scene_length, [], []⟩
def d_Scene_check_client : He.DefD := ⟨("Scene", some "check_client"), "check_client", "Scene.check_client", defArgs s_Scene_check_client, defBody s_Scene_check_client, defScope s_Scene_check_client, [], []⟩
def d_Scene_slot_of : He.DefD := ⟨("Scene", some "slot_of"), "slot_of", "Scene.slot_of", defArgs s_Scene_slot_of, defBody s_Scene_slot_of, defScope s_Scene_slot_of, [], []⟩
def d_Scene_attempt_in : He.DefD := ⟨("Scene", some "attempt_in"), "attempt_in", "Scene.attempt_in", defArgs s_Scene_attempt_in, defBody s_Scene_attempt_in, defScope s_Scene_attempt_in, [], []⟩
def d_Scene_outage_at : He.DefD := ⟨("Scene", some "outage_at"), "outage_at", "Scene.outage_at", defArgs s_Scene_outage_at, defBody s_Scene_outage_at, defScope s_Scene_outage_at, [], []⟩
def d_Scene_listed_slots : He.DefD := ⟨("Scene", some "listed_slots"), "listed_slots", "Scene.listed_slots", defArgs s_Scene_listed_slots, defBody s_Scene_listed_slots, defScope s_Scene_listed_slots, [], []⟩
def d_Scene_moments : He.DefD := ⟨("Scene", some "moments"), "moments", "Scene.moments", defArgs s_Scene_moments, defBody s_Scene_moments, defScope s_Scene_moments, [], []⟩
def d_Run_init : He.DefD := ⟨("Run", some "__init__"), "__init__", "Run.__init__", defArgs s_Run_init, defBody s_Run_init, defScope s_Run_init, [], []⟩
def d_Run_advance : He.DefD := ⟨("Run", some "advance"), "advance", "Run.advance", defArgs s_Run_advance, defBody s_Run_advance, defScope s_Run_advance, [], []⟩
def d_Run_failing_until : He.DefD := ⟨("Run", some "failing_until"), "failing_until", "Run.failing_until", defArgs s_Run_failing_until, defBody s_Run_failing_until, defScope s_Run_failing_until, [], []⟩
def d_Run_skip_to : He.DefD := ⟨("Run", some "skip_to"), "skip_to", "Run.skip_to", defArgs s_Run_skip_to, defBody s_Run_skip_to, defScope s_Run_skip_to, [], []⟩
def d_Run_latest_moment : He.DefD := ⟨("Run", some "latest_moment"), "latest_moment", "Run.latest_moment", defArgs s_Run_latest_moment, defBody s_Run_latest_moment, defScope s_Run_latest_moment, [], []⟩
def d_Run_is_repeated : He.DefD := ⟨("Run", some "is_repeated"), "is_repeated", "Run.is_repeated", defArgs s_Run_is_repeated, defBody s_Run_is_repeated, defScope s_Run_is_repeated, [], []⟩
def d_Run_close : He.DefD := ⟨("Run", some "close"), "close", "Run.close", defArgs s_Run_close, defBody s_Run_close, defScope s_Run_close, [], []⟩
def d_Run_decide : He.DefD := ⟨("Run", some "decide"), "decide", "Run.decide", defArgs s_Run_decide, defBody s_Run_decide, defScope s_Run_decide, [], []⟩
def d_Run_scene : He.DefD := ⟨("Run", some "scene"), "scene", "Run.scene", defArgs s_Run_scene, defBody s_Run_scene, defScope s_Run_scene, [], []⟩
def d_Run_outcome : He.DefD := ⟨("Run", some "outcome"), "outcome", "Run.outcome", defArgs s_Run_outcome, defBody s_Run_outcome, defScope s_Run_outcome, [], []⟩
def d_Run_outcomes : He.DefD := ⟨("Run", some "outcomes"), "outcomes", "Run.outcomes", defArgs s_Run_outcomes, defBody s_Run_outcomes, defScope s_Run_outcomes, [], []⟩
def d_Run_order : He.DefD := ⟨("Run", some "order"), "order", "Run.order", defArgs s_Run_order, defBody s_Run_order, defScope s_Run_order, [], []⟩
def d_Run_is_active : He.DefD := ⟨("Run", some "is_active"), "is_active", "Run.is_active", defArgs s_Run_is_active, defBody s_Run_is_active, defScope s_Run_is_active, [], []⟩
def d_Run_active : He.DefD := ⟨("Run", some "active"), "active", "Run.active", defArgs s_Run_active, defBody s_Run_active, defScope s_Run_active, [], []⟩
def d_Run_attempting : He.DefD := ⟨("Run", some "attempting"), "attempting", "Run.attempting", defArgs s_Run_attempting, defBody s_Run_attempting, defScope s_Run_attempting, [], []⟩
def d_Run_busy_with : He.DefD := ⟨("Run", some "busy_with"), "busy_with", "Run.busy_with", defArgs s_Run_busy_with, defBody s_Run_busy_with, defScope s_Run_busy_with, [], []⟩
def d_Run_event : He.DefD := ⟨("Run", some "event"), "event", "Run.event", defArgs s_Run_event, defBody s_Run_event, defScope s_Run_event, [], []⟩
def d_check_run : He.DefD := ⟨("check_run", none), "check_run", "check_run", defArgs s_check_run, defBody s_check_run, defScope s_check_run, [], []⟩
def d_attempts_made : He.DefD := ⟨("attempts_made", none), "attempts_made", "attempts_made", defArgs s_attempts_made, defBody s_attempts_made, defScope s_attempts_made, [], []⟩
def d_reason_of : He.DefD := ⟨("reason_of", none), "reason_of", "reason_of", defArgs s_reason_of, defBody s_reason_of, defScope s_reason_of, [], []⟩
def d_reason : He.DefD := ⟨("reason", none), "reason", "reason", defArgs s_reason, defBody s_reason, defScope s_reason, [], []⟩
def d_end_of_window : He.DefD := ⟨("end_of_window", none), "end_of_window", "end_of_window", defArgs s_end_of_window, defBody s_end_of_window, defScope s_end_of_window, [], []⟩
def d_first_attempt : He.DefD := ⟨("first_attempt", none), "first_attempt", "first_attempt", defArgs s_first_attempt, defBody s_first_attempt, defScope s_first_attempt, [], []⟩
def d_behind_window : He.DefD := ⟨("behind_window", none), "behind_window", "behind_window", defArgs s_behind_window, defBody s_behind_window, defScope s_behind_window, [], []⟩
def d_check_bounds : He.DefD := ⟨("check_bounds", none), "check_bounds", "check_bounds", defArgs s_check_bounds, defBody s_check_bounds, defScope s_check_bounds, [], []⟩
def d_history : He.DefD := ⟨("history", none), "history", "history", defArgs s_history, defBody s_history, defScope s_history, [], []⟩
def d_without_outages : He.DefD := ⟨("without_outages", none), "without_outages", "without_outages", defArgs s_without_outages, defBody s_without_outages, defScope s_without_outages, [], []⟩
def d_busy_windows : He.DefD := ⟨("busy_windows", none), "busy_windows", "busy_windows", defArgs s_busy_windows, defBody s_busy_windows, defScope s_busy_windows, [], []⟩
def d_count_within : He.DefD := ⟨("count_within", none), "count_within", "count_within", defArgs s_count_within, defBody s_count_within, defScope s_count_within, [], []⟩
def d_failure_counts : He.DefD := ⟨("failure_counts", none), "failure_counts", "failure_counts", defArgs s_failure_counts, defBody s_failure_counts, defScope s_failure_counts, [], []⟩
def d_law_mixed : He.DefD := ⟨("_law_mixed", none), "_law_mixed", "_law_mixed", defArgs s_law_mixed, defBody s_law_mixed, defScope s_law_mixed, [], []⟩
def d_law_well : He.DefD := ⟨("_law_well", none), "_law_well", "_law_well", defArgs s_law_well, defBody s_law_well, defScope s_law_well, [], []⟩
def d_law_draw : He.DefD := ⟨("_law_draw", none), "_law_draw", "_law_draw", defArgs s_law_draw, defBody s_law_draw, defScope s_law_draw, [], []⟩
def d_law_one : He.DefD := ⟨("_law_one", none), "_law_one", "_law_one", defArgs s_law_one, defBody s_law_one, defScope s_law_one, [], []⟩
def d_law_gaps : He.DefD := ⟨("_law_gaps", none), "_law_gaps", "_law_gaps", defArgs s_law_gaps, defBody s_law_gaps, defScope s_law_gaps, [], []⟩
def d_law_windows : He.DefD := ⟨("_law_windows", none), "_law_windows", "_law_windows", defArgs s_law_windows, defBody s_law_windows, defScope s_law_windows, [], []⟩
def d_law_parts : He.DefD := ⟨("_law_parts", none), "_law_parts", "_law_parts", defArgs s_law_parts, defBody s_law_parts, defScope s_law_parts, [], []⟩
def d_law_made : He.DefD := ⟨("_law_made", none), "_law_made", "_law_made", defArgs s_law_made, defBody s_law_made, defScope s_law_made, [], []⟩
def d_law_has : He.DefD := ⟨("_law_has", none), "_law_has", "_law_has", defArgs s_law_has, defBody s_law_has, defScope s_law_has, [], []⟩
def d_law_place : He.DefD := ⟨("_law_place", none), "_law_place", "_law_place", defArgs s_law_place, defBody s_law_place, defScope s_law_place, [], []⟩
def d_law_looped : He.DefD := ⟨("_law_looped", none), "_law_looped", "_law_looped", defArgs s_law_looped, defBody s_law_looped, defScope s_law_looped, [], []⟩
def d_law_client_right : He.DefD := ⟨("_law_client_right", none), "_law_client_right", "_law_client_right", defArgs s_law_client_right, defBody s_law_client_right, defScope s_law_client_right, [], []⟩
def d_law_right : He.DefD := ⟨("_law_right", none), "_law_right", "_law_right", defArgs s_law_right, defBody s_law_right, defScope s_law_right, [], []⟩
def d_law : He.DefD := ⟨("law", none), "law", "law", defArgs s_law, defBody s_law, defScope s_law, [], []⟩
def fnL : List He.DefD := [d_is_integer, d_is_between, d_is_tail, d_Rule_init, d_Rule_gaps, d_Rule_tail, d_Rule_attempts, d_Rule_check_attempt, d_Rule_offset, d_Rule_offset_of, d_Rule_period, d_Rule_first_from, d_Rule_attempt_at, d_check_starts, d_is_window, d_check_outages, d_Scene_init, d_Scene_rule, d_Scene_starts, d_Scene_outages, d_Scene_length, d_Scene_check_client, d_Scene_slot_of, d_Scene_attempt_in, d_Scene_outage_at, d_Scene_listed_slots, d_Scene_moments, d_Run_init, d_Run_advance, d_Run_failing_until, d_Run_skip_to, d_Run_latest_moment, d_Run_is_repeated, d_Run_close, d_Run_decide, d_Run_scene, d_Run_outcome, d_Run_outcomes, d_Run_order, d_Run_is_active, d_Run_active, d_Run_attempting, d_Run_busy_with, d_Run_event, d_check_run, d_attempts_made, d_reason_of, d_reason, d_end_of_window, d_first_attempt, d_behind_window, d_check_bounds, d_history, d_without_outages, d_busy_windows, d_count_within, d_failure_counts, d_law_mixed, d_law_well, d_law_draw, d_law_one, d_law_gaps, d_law_windows, d_law_parts, d_law_made, d_law_has, d_law_place, d_law_looped, d_law_client_right, d_law_right, d_law]
def faL : List He.Fa := [.glo "is_integer", .glo "is_between", .glo "is_tail", .glo "check_starts", .glo "is_window", .glo "check_outages", .glo "check_run", .glo "attempts_made", .glo "reason_of", .glo "reason", .glo "end_of_window", .glo "first_attempt", .glo "behind_window", .glo "check_bounds", .glo "history", .glo "without_outages", .glo "busy_windows", .glo "count_within", .glo "failure_counts", .glo "_law_mixed", .glo "_law_well", .glo "_law_draw", .glo "_law_one", .glo "_law_gaps", .glo "_law_windows", .glo "_law_parts", .glo "_law_made", .glo "_law_has", .glo "_law_place", .glo "_law_looped", .glo "_law_client_right", .glo "_law_right", .glo "law", .glo "Rule", .glo "Scene", .glo "Run", .free "isinstance", .free "int", .free "bool", .free "list", .free "tuple", .free "str", .free "len", .free "all", .free "enumerate", .free "min", .free "max", .free "range", .free "sorted", .free "sum", .int "MOST_GAPS" 20, .int "MOST_GAP" 1000000000000, .int "MOST_FACTOR" 1000, .int "MOST_ATTEMPT" 1000, .int "MOST_CLIENTS" 40, .int "MOST_OUTAGES" 10, .int "MOST_ENTRIES" 1000, .cls "Rule", .mkr "Rule", .noat "Rule" "listed", .noat "Rule" "ending", .noat "Rule" "sums", .cls "Scene", .mkr "Scene", .noat "Scene" "its_rule", .noat "Scene" "its_starts", .noat "Scene" "windows", .noat "Scene" "its_length", .cls "Run", .mkr "Run", .noat "Run" "its_scene", .noat "Run" "pattern", .noat "Run" "begins", .noat "Run" "changes", .noat "Run" "services", .noat "Run" "closed", .noat "Run" "waiting", .noat "Run" "free_from", .meth "Rule" "gaps", .meth "Rule" "tail", .meth "Rule" "attempts", .meth "Rule" "check_attempt", .meth "Rule" "offset", .meth "Rule" "offset_of", .meth "Rule" "period", .meth "Rule" "first_from", .meth "Rule" "attempt_at", .meth "Scene" "rule", .meth "Scene" "starts", .meth "Scene" "outages", .meth "Scene" "length", .meth "Scene" "check_client", .meth "Scene" "slot_of", .meth "Scene" "attempt_in", .meth "Scene" "outage_at", .meth "Scene" "listed_slots", .meth "Scene" "moments", .meth "Run" "advance", .meth "Run" "failing_until", .meth "Run" "skip_to", .meth "Run" "latest_moment", .meth "Run" "is_repeated", .meth "Run" "close", .meth "Run" "decide", .meth "Run" "scene", .meth "Run" "outcome", .meth "Run" "outcomes", .meth "Run" "order", .meth "Run" "is_active", .meth "Run" "active", .meth "Run" "attempting", .meth "Run" "busy_with", .meth "Run" "event"]
/-- own classes: what isinstance leans on -/
def isB (K : PySem.W.Frag) (x : Str) : Bool := He.eqO (PySem.W.findIn K (.ref (He.ga K x)) "__class__") (some (some (.builtin "object.__class__"))) && (He.eqO (PySem.W.specialIn K (.builtin "object.__class__") "__get__") (some (some (.builtin "getset_descriptor.__get__"))) && (decide (PySem.W.takesIn K (.builtin "object.__class__") = some true) && decide (PySem.W.mroIn K (He.ga K x) (.type "object") = some true)))
def exB (K : PySem.W.Frag) : Bool := isB K "Rule" && (isB K "Scene" && isB K "Run")
end RS
end

section
set_option Elab.async false
set_option linter.all false
set_option maxRecDepth 100000
set_option maxHeartbeats 4000000
/-! rules that the layer lacks: xs.extend(t) of a tuple, min(d.values()), d != {} -/
namespace PySem
open PyProof.Rows
namespace RSx
theorem list_extend_tup (l : Addr) (items : Array Value) (n : Nat) (b : Addr) (items2 : Array Value) (n2 : Nat) (dd : Option Addr) (sl : Array (Option Value)) (hs0 : ¬(!items.isEmpty && Builtin.List.listTooLong (items.size + items2.size)) = true) (hs1 : items.size ≤ sizeLine) (hs2 : items.size + items2.size ≤ sizeLine + 1) :
    Meets (Builtin.«list.extend» ⟨[.ref l, .ref b], []⟩) (fun _ R s => s.heap.get? l = some { cls := .type "list", dict := none, data := .seq items n, slots := #[] } ∧ s.heap.get? b = some { cls := .type "tuple", dict := dd, data := .seq items2 n2, slots := sl } ∧ R (.ok (.ret Value.none)) { s with heap := s.heap.update l (Obj.mapSeq fun x => x ++ items2), toks := s.toks }) :=
  .of_wp fun prog w A R s h => by
    obtain ⟨hp, g, d, tk, os⟩ := s; obtain ⟨hl, hb, h⟩ := h; have f1 := AutoSeq1.idx_int; have f2 := AutoSeq1.sub_tuple_tuple; have f3 := AutoSeq1.sub_list_list; have f4 := AutoSeq1.sub_tuple_list; have f5 := AutoSeq1.sub_list_tuple;
    have hz' : (items ++ items2).size ≤ sizeLine + 1 := by rw [Array.size_append]; exact hs2
    wp_walk using (wpAny_updateSeq hl rfl (hz := hs1) (_hz' := hz')), wpAny_loadPart' hl, wpAny_loadPart' hb; exact ⟨_, rfl, h⟩
end RSx
end PySem
namespace RS
open PySem PySem.Spec PyProof.Rows L2
section
variable {X : Cx}
def rExtendT (K : PySem.W.Frag) : V → List V → Hp → VK → Prop := fun x vs H Q => ∃ l b xs zs, x = .ref l ∧ vs = [.ref b] ∧ H l = some (.lst xs) ∧ SqT K H b zs ∧ xs.length + zs.length ≤ sizeLine ∧ Q .non (upd H l (.lst (xs ++ zs)))
theorem mt_extendT : MtM X "list.extend" (rExtendT X.K) := by
  intro pins s σ H x vs v us Q I rx rv h
  obtain ⟨l, b, xs, zs, rfl, rfl, hH, hB, hz, q⟩ := h
  cases rx
  obtain ⟨u, rfl, ru⟩ := rv.one
  cases ru
  obtain ⟨z, its, n, r, hl, e⟩ := I.lstM hH
  obtain ⟨its2, r2, ⟨⟨oc, od, dt, sl⟩, ho, hc, n2, hd⟩, z2⟩ := I.tuple hB
  simp only at hc hd
  subst hc hd
  have hl2 := r2.length
  have hsz : its.toArray.size + its2.toArray.size ≤ sizeLine := by rw [List.size_toArray, List.size_toArray]; omega
  have hlong : ¬ (!its.toArray.isEmpty && Builtin.List.listTooLong (its.toArray.size + its2.toArray.size)) = true := by
    rw [notLongL hsz, Bool.and_false]
    exact Bool.false_ne_true
  refine call_meets F.slot_list_extend ⟨_, e, rfl⟩ F.entry_list_extend (F.args_list_extend_2 _ _)
    (PySem.RSx.list_extend_tup l its.toArray n b its2.toArray n2 od sl hlong (by rw [List.size_toArray]; omega) (by omega)) ⟨e, ho, ?_⟩
  refine ⟨.non, _, I.lset (its' := its ++ its2) hH e (by simp) (r.append r2) ?_, rfl, q⟩
  rw [List.length_append]
  omega
/-- d != {} and the like: the right one is empty -/
def rNeE : R2 := fun x y H Q => ∃ a b ks, x = .ref a ∧ y = .ref b ∧ H a = some (.dK ks) ∧ H b = some (.dK []) ∧ Q (.bl (!ks.isEmpty)) H
theorem op_neE (hu : X.A.units < cLine) : OpR X (compareOp .NotEq) rNeE := by
  intro pins s σ H x y v u Q I rx ry h
  obtain ⟨a, b, ks, rfl, rfl, ea, eb, q⟩ := h
  obtain rfl : v = Value.ref a := rx
  obtain rfl : u = Value.ref b := ry
  obtain ⟨_, ya, va, ra, da⟩ := (show ObjOk X.prog X.w H s.heap a (.dK ks) from I.hok a _ ea)
  obtain ⟨_, yb, vb, rb, db⟩ := (show ObjOk X.prog X.w H s.heap b (.dK []) from I.hok b _ eb)
  have e0 : vb = [] := by cases rb; rfl
  subst e0
  refine PySem.W.keq_ne (knd := mixKind X.prog X.w) (r := true) ya yb da db hu (fun e => ?_) (fin_bl I q ?_)
  · have : va = [] := List.length_eq_zero_iff.mp e
    subst this
    exact .nil
  · cases ra with
    | nil => rfl
    | cons r t => simp
/-- d.values() -/
def tVals (td : TE) : TE := fun σ H Q => td σ H fun x H1 => ∃ d kvs, x = .ref d ∧ H1 d = some (.dK kvs) ∧ ∀ p, H1 p = none → Q (.ref p) (upd H1 p (viewO "dict_values" p d))
theorem pe_vals {o : Expr} {td : TE} {apos cpos : Pos} (he : PE X o td) (hbase : attributeBase o "values" X.env (eval o X.env) = eval o X.env := by rfl) (hline : (apos.endLine == cpos.line) = true := by rfl) :
    PE X (.Call (.Attribute o "values" apos) [] [] cpos) (tVals td) := by
  refine ⟨fun pins s σ H Q I h => ?_⟩
  refine wpAny_Call_method (T := "dict") (id := "dict.values") hbase rfl hline F.plainAttrs_dict F.slot_dict_values F.type_dict_values (thn (he.run pins s σ H _ I h) fun u s1 ⟨x, H1, I1, rx, d, kvs, ex, hd, q⟩ => ?_)
  subst ex
  obtain rfl : u = Value.ref d := rx
  obtain ⟨_, hs, vs, kv, hm⟩ := dk_of I1.hok hd
  refine ⟨hm.typeIs, hm.mapOf.noDict, ?_⟩
  have fin : EP X pins σ Q (.ref s1.heap.objs.size) { s1 with heap := s1.heap.push { cls := .type "dict_values", data := .fields #[.ref d] } } :=
    ⟨.ref s1.heap.objs.size, _, I1.laid (t' := s1.toks) (fun b o q => Heap.get?_push_of_some _ q) (Nat.le_refl _) (viewO_ok (T := "dict_values") (d := d) (Heap.get?_push_size _ rfl)), rfl, q _ (I1.hok.fresh (Nat.le_refl _))⟩
  show wpAny _ _ (callWith cpos (.builtin "dict.values") [.ref d] [] []) _ X.xe s1
  exact method_meetsIn F.slot_dict_values F.entry_dict_values rfl (PySem.evalArgs_none ⟨rfl, hm.typeIs, F.args_dict_values_1 _, _, meets_dict_values (mixKind X.prog X.w) d hs, ⟨vs, hm⟩, fin⟩)
/-- min(d.values()): ints -/
def rMinVals : List V → Hp → VK → Prop := fun xs H Q => ∃ (p d : Addr) (kvs : List (Key × V)) (ns : List Int), xs = [.ref p] ∧ H p = some (viewO "dict_values" p d) ∧ H d = some (.dK kvs) ∧ kvs.map Prod.snd = ns.map V.int ∧ 0 < ns.length ∧ ∀ m, m ∈ ns → (∀ y, y ∈ ns → m ≤ y) → Q (.int m) H
theorem cr_minVals (hc : X.calm = true) : CallR X (.builtin "min") rMinVals := by
  intro pins s σ H xs us Q I rx h
  obtain ⟨p, d, kvs, ns, rfl, hp, hd, hns, hne, q⟩ := h
  rw [Vals.ref1 rx]
  obtain ⟨_, hs, vs, kv, o, es, ep, hm⟩ := dk_of I.hok hd
  have hm : s.heap.DictAt (mixKind X.prog X.w) d vs ep := ⟨o, es, hm⟩
  have hv : s.heap.get? p = some (DSub.viewOb "dict_values" d) := (show ObjOk X.prog X.w H s.heap p (viewO "dict_values" p d) from I.hok p _ hp).1
  have hkn : kvs.length = ns.length := by
    have e := congrArg List.length hns
    rw [List.length_map, List.length_map] at e
    exact e
  have hvn : vs.length = ns.length := kv.length.symm.trans hkn
  have hP : ∀ (i : Nat) (v : Value), (∃ k, vs[i]? = some (k, v)) → ∃ t, v = .int (ns.getD i 0) t := fun i v ⟨k, he⟩ => by
    have hi : i < vs.length := (List.getElem?_eq_some_iff.mp he).1
    have hi2 : i < kvs.length := by omega
    have hi3 : i < ns.length := by omega
    obtain ⟨u, e1, r⟩ := kv_get kv (i := i) (k := kvs[i].1) (v := kvs[i].2) (List.getElem?_eq_getElem hi2)
    have e2 : kvs[i].2 = V.int ns[i] := by
      have z : (kvs.map Prod.snd)[i]? = (ns.map V.int)[i]? := by rw [hns]
      rw [List.getElem?_map, List.getElem?_map, List.getElem?_eq_getElem hi2, List.getElem?_eq_getElem hi3] at z
      exact Option.some.inj z
    have e3 : ns.getD i 0 = ns[i] := by rw [List.getD_eq_getElem?_getD, List.getElem?_eq_getElem hi3] <;> rfl
    rw [he] at e1
    injection e1 with e1
    injection e1 with _ e4
    rw [← e4, e2] at r
    rw [e3]
    exact r
  have hlt : d < s.heap.objs.size := by
    obtain ⟨o, es, ho, _⟩ := hm
    exact Heap.lt_size ho
  refine call_min_walk ?_
  refine wpAny_pyIter_values (d := d) (knd := mixKind X.prog X.w) ⟨_, hv, rfl, rfl⟩ hm ?_
  refine ⟨s.heap.objs.size, [s.heap.objs.size, d], [s.heap.objs.size], vs.length, _, _, fun i j => decide (ns.getD i 0 < ns.getD j 0), rfl, Walks.dictValues (knd := mixKind X.prog X.w) (show X.A.in1.handled = none from I.ok.hd hc) s.heap.objs.size d (Nat.ne_of_lt hlt) vs ep,
    ⟨⟨_, Heap.get?_push_size _ rfl, rfl, rfl⟩, hm.push _⟩, fun b hb => ?_, by omega, CmpOf.ints_lt (fun i => ns.getD i 0) hP, fun v h' tk hv' hk => ?_⟩
  · show b < (s.heap.push _).objs.size
    rw [Heap.size_push]
    rcases List.mem_cons.mp hb with z | z
    · rw [z]
      exact Nat.lt_succ_self _
    · rw [List.mem_singleton.mp z]
      exact Nat.lt_succ_of_lt hlt
  · obtain ⟨t, rfl⟩ := hP _ _ hv'
    obtain ⟨m1', m2'⟩ := argBest_lt (fun i => ns.getD i 0) (vs.length - 1)
    have m1 : argBest (fun i j => decide (ns.getD i 0 < ns.getD j 0)) (vs.length - 1) ≤ vs.length - 1 := m1'
    have m2 : ∀ j, j ≤ vs.length - 1 → ns.getD (argBest (fun i j => decide (ns.getD i 0 < ns.getD j 0)) (vs.length - 1)) 0 ≤ ns.getD j 0 := m2'
    have hk2 : ∀ b o, s.heap.get? b = some o → h'.get? b = some o := fun b o e => by
      refine hk b o (fun z => ?_) (Heap.get?_push_of_some _ e)
      have z := List.mem_singleton.mp z
      rw [z] at e
      exact absurd (Heap.lt_size e) (Nat.lt_irrefl _)
    refine ⟨.int _, H, I.kept hk2, ⟨t, rfl⟩, q _ ?_ fun y hy => ?_⟩
    · rw [List.getD_eq_getElem?_getD, List.getElem?_eq_getElem (by omega), Option.getD_some]
      exact List.getElem_mem _
    · obtain ⟨j, hj, rfl⟩ := List.getElem_of_mem hy
      have := m2 j (by omega)
      rw [List.getD_eq_getElem?_getD (l := ns) (i := j), List.getElem?_eq_getElem hj, Option.getD_some] at this
      exact this
/-! ### the same rules where the context is a comprehension's block: the written part by name -/
theorem pe_fldK (K : PySem.W.Frag) {e : Expr} {f : Str} {pos : Pos} {ta : TE} (he : PE X e ta) (hb : attributeBase e f X.env (eval e X.env) = eval e X.env) (hK : X.K = K := by rfl) : PE X (.Attribute e f pos) (tFld K ta f) := hK ▸ pe_fld he hb
theorem ix_listK (K : PySem.W.Frag) (hK : X.K = K := by rfl) : IxR X (rIxL K) := hK ▸ ix_list
theorem ix_tupK (K : PySem.W.Frag) (hK : X.K = K := by rfl) : IxR X (rIxT K) := hK ▸ ix_tup
theorem sl_listK (K : PySem.W.Frag) (hK : X.K = K := by rfl) : SlR X (rSlL K) := hK ▸ sl_list
theorem sl_tupK (K : PySem.W.Frag) (hK : X.K = K := by rfl) : SlR X (rSlT K) := hK ▸ sl_tup
theorem op_eqDK (K : PySem.W.Frag) (hu : X.A.units + 64 < cLine) (hK : X.K = K := by rfl) : OpR X (compareOp .Eq) (rEqD K) := hK ▸ op_eqD hu
theorem op_neDK (K : PySem.W.Frag) (hu : X.A.units + 64 < cLine) (hK : X.K = K := by rfl) : OpR X (compareOp .NotEq) (rNeD K) := hK ▸ op_neD hu
theorem call_lenK (K : PySem.W.Frag) (hK : X.K = K := by rfl) : CallR X (.builtin "len") (fun xs H Q => ∃ p ys, xs = [.ref p] ∧ (SqL K H p ys ∨ SqT K H p ys) ∧ Q (.int ys.length) H) := hK ▸ call_len_seq
theorem pg_tupK (K : PySem.W.Frag) (n : Nat) {es : List Expr} {k : Nat} {pos : Pos} {t : TGs} (hc : X.calm = true) (h : PGs X es t) (hn : (assignEach es X.env).length = n := by rfl) (hst : (assignEach es X.env).findIdx? (·.1) = none := by rfl) (hK : X.K = K := by rfl) :
    PG X (.Tuple es k pos) (gTup K n t) := hK ▸ pg_tup hc h hn hst
/-- never asked -/
def tNevE : TE := fun _ _ _ => False
/-- a test that is never asked -/
def tNevT : TT := fun _ _ _ => False
theorem pt_never {e : Expr} : PT X e tNevT := ⟨fun _ _ _ _ _ _ h => h.elim⟩
theorem pe_never {e : Expr} : PE X e tNevE := ⟨fun _ _ _ _ _ _ h => h.elim⟩
end
end RS
end

section
set_option Elab.async false
set_option linter.all false
set_option maxRecDepth 100000
set_option maxHeartbeats 4000000
namespace RS
open PySem PySem.Spec PyProof.Rows L2
/-- what the head has told of the written part K, and what the module's names stand for -/
structure Txt (K : PySem.W.Frag) (mg : Str → Option Value) : Prop where
  c : He.SaysD faL fnL K
  x : exB K = true
  h : ∃ h : Heap, K.In h ∧ h.Ns mainGlobals mg
abbrev cRule (K : PySem.W.Frag) : Addr := He.ga K "Rule"
abbrev cScene (K : PySem.W.Frag) : Addr := He.ga K "Scene"
abbrev cRun (K : PySem.W.Frag) : Addr := He.ga K "Run"
section
variable {K : PySem.W.Frag} {mg : Str → Option Value}
theorem Txt.glo (T : Txt K mg) {x : Str} (i : Nat) (h : faL[i]? = some (.glo x) := by rfl) : mg x = some (.ref (He.ga K x)) := by
  obtain ⟨_, X, G⟩ := T.h
  exact He.glo_ok X G (T.c.fact i h)
theorem Txt.free (T : Txt K mg) {x : Str} (i : Nat) (h : faL[i]? = some (.free x) := by rfl) : mg x = none := by
  obtain ⟨_, X, G⟩ := T.h
  exact He.free_ok X G (T.c.fact i h)
theorem Txt.int (T : Txt K mg) {x : Str} {j : Int} (i : Nat) (h : faL[i]? = some (.int x j) := by rfl) : ∃ t, mg x = some (.int j t) := by
  obtain ⟨_, X, G⟩ := T.h
  exact He.int_ok X G (T.c.fact i h)
theorem Txt.inst (T : Txt K mg) : isB K "Rule" = true ∧ isB K "Scene" = true ∧ isB K "Run" = true := by
  obtain ⟨h1, h2⟩ := He.ba T.x
  obtain ⟨h2, h3⟩ := He.ba h2
  exact ⟨h1, h2, h3⟩
theorem Txt.g_is_integer (T : Txt K mg) : mg "is_integer" = some (.ref (He.ga K "is_integer")) := T.glo 0
theorem Txt.g_is_between (T : Txt K mg) : mg "is_between" = some (.ref (He.ga K "is_between")) := T.glo 1
theorem Txt.g_is_tail (T : Txt K mg) : mg "is_tail" = some (.ref (He.ga K "is_tail")) := T.glo 2
theorem Txt.g_check_starts (T : Txt K mg) : mg "check_starts" = some (.ref (He.ga K "check_starts")) := T.glo 3
theorem Txt.g_is_window (T : Txt K mg) : mg "is_window" = some (.ref (He.ga K "is_window")) := T.glo 4
theorem Txt.g_check_outages (T : Txt K mg) : mg "check_outages" = some (.ref (He.ga K "check_outages")) := T.glo 5
theorem Txt.g_check_run (T : Txt K mg) : mg "check_run" = some (.ref (He.ga K "check_run")) := T.glo 6
theorem Txt.g_attempts_made (T : Txt K mg) : mg "attempts_made" = some (.ref (He.ga K "attempts_made")) := T.glo 7
theorem Txt.g_reason_of (T : Txt K mg) : mg "reason_of" = some (.ref (He.ga K "reason_of")) := T.glo 8
theorem Txt.g_reason (T : Txt K mg) : mg "reason" = some (.ref (He.ga K "reason")) := T.glo 9
theorem Txt.g_end_of_window (T : Txt K mg) : mg "end_of_window" = some (.ref (He.ga K "end_of_window")) := T.glo 10
theorem Txt.g_first_attempt (T : Txt K mg) : mg "first_attempt" = some (.ref (He.ga K "first_attempt")) := T.glo 11
theorem Txt.g_behind_window (T : Txt K mg) : mg "behind_window" = some (.ref (He.ga K "behind_window")) := T.glo 12
theorem Txt.g_check_bounds (T : Txt K mg) : mg "check_bounds" = some (.ref (He.ga K "check_bounds")) := T.glo 13
theorem Txt.g_history (T : Txt K mg) : mg "history" = some (.ref (He.ga K "history")) := T.glo 14
theorem Txt.g_without_outages (T : Txt K mg) : mg "without_outages" = some (.ref (He.ga K "without_outages")) := T.glo 15
theorem Txt.g_busy_windows (T : Txt K mg) : mg "busy_windows" = some (.ref (He.ga K "busy_windows")) := T.glo 16
theorem Txt.g_count_within (T : Txt K mg) : mg "count_within" = some (.ref (He.ga K "count_within")) := T.glo 17
theorem Txt.g_failure_counts (T : Txt K mg) : mg "failure_counts" = some (.ref (He.ga K "failure_counts")) := T.glo 18
theorem Txt.g_law_mixed (T : Txt K mg) : mg "_law_mixed" = some (.ref (He.ga K "_law_mixed")) := T.glo 19
theorem Txt.g_law_well (T : Txt K mg) : mg "_law_well" = some (.ref (He.ga K "_law_well")) := T.glo 20
theorem Txt.g_law_draw (T : Txt K mg) : mg "_law_draw" = some (.ref (He.ga K "_law_draw")) := T.glo 21
theorem Txt.g_law_one (T : Txt K mg) : mg "_law_one" = some (.ref (He.ga K "_law_one")) := T.glo 22
theorem Txt.g_law_gaps (T : Txt K mg) : mg "_law_gaps" = some (.ref (He.ga K "_law_gaps")) := T.glo 23
theorem Txt.g_law_windows (T : Txt K mg) : mg "_law_windows" = some (.ref (He.ga K "_law_windows")) := T.glo 24
theorem Txt.g_law_parts (T : Txt K mg) : mg "_law_parts" = some (.ref (He.ga K "_law_parts")) := T.glo 25
theorem Txt.g_law_made (T : Txt K mg) : mg "_law_made" = some (.ref (He.ga K "_law_made")) := T.glo 26
theorem Txt.g_law_has (T : Txt K mg) : mg "_law_has" = some (.ref (He.ga K "_law_has")) := T.glo 27
theorem Txt.g_law_place (T : Txt K mg) : mg "_law_place" = some (.ref (He.ga K "_law_place")) := T.glo 28
theorem Txt.g_law_looped (T : Txt K mg) : mg "_law_looped" = some (.ref (He.ga K "_law_looped")) := T.glo 29
theorem Txt.g_law_client_right (T : Txt K mg) : mg "_law_client_right" = some (.ref (He.ga K "_law_client_right")) := T.glo 30
theorem Txt.g_law_right (T : Txt K mg) : mg "_law_right" = some (.ref (He.ga K "_law_right")) := T.glo 31
theorem Txt.g_law (T : Txt K mg) : mg "law" = some (.ref (He.ga K "law")) := T.glo 32
theorem Txt.g_Rule (T : Txt K mg) : mg "Rule" = some (.ref (cRule K)) := T.glo 33
theorem Txt.g_Scene (T : Txt K mg) : mg "Scene" = some (.ref (cScene K)) := T.glo 34
theorem Txt.g_Run (T : Txt K mg) : mg "Run" = some (.ref (cRun K)) := T.glo 35
theorem Txt.b_isinstance (T : Txt K mg) : mg "isinstance" = none := T.free 36
theorem Txt.b_int (T : Txt K mg) : mg "int" = none := T.free 37
theorem Txt.b_bool (T : Txt K mg) : mg "bool" = none := T.free 38
theorem Txt.b_list (T : Txt K mg) : mg "list" = none := T.free 39
theorem Txt.b_tuple (T : Txt K mg) : mg "tuple" = none := T.free 40
theorem Txt.b_str (T : Txt K mg) : mg "str" = none := T.free 41
theorem Txt.b_len (T : Txt K mg) : mg "len" = none := T.free 42
theorem Txt.b_all (T : Txt K mg) : mg "all" = none := T.free 43
theorem Txt.b_enumerate (T : Txt K mg) : mg "enumerate" = none := T.free 44
theorem Txt.b_min (T : Txt K mg) : mg "min" = none := T.free 45
theorem Txt.b_max (T : Txt K mg) : mg "max" = none := T.free 46
theorem Txt.b_range (T : Txt K mg) : mg "range" = none := T.free 47
theorem Txt.b_sorted (T : Txt K mg) : mg "sorted" = none := T.free 48
theorem Txt.b_sum (T : Txt K mg) : mg "sum" = none := T.free 49
theorem Txt.i_MOST_GAPS (T : Txt K mg) : ∃ t, mg "MOST_GAPS" = some (.int 20 t) := T.int 50
theorem Txt.i_MOST_GAP (T : Txt K mg) : ∃ t, mg "MOST_GAP" = some (.int 1000000000000 t) := T.int 51
theorem Txt.i_MOST_FACTOR (T : Txt K mg) : ∃ t, mg "MOST_FACTOR" = some (.int 1000 t) := T.int 52
theorem Txt.i_MOST_ATTEMPT (T : Txt K mg) : ∃ t, mg "MOST_ATTEMPT" = some (.int 1000 t) := T.int 53
theorem Txt.i_MOST_CLIENTS (T : Txt K mg) : ∃ t, mg "MOST_CLIENTS" = some (.int 40 t) := T.int 54
theorem Txt.i_MOST_OUTAGES (T : Txt K mg) : ∃ t, mg "MOST_OUTAGES" = some (.int 10 t) := T.int 55
theorem Txt.i_MOST_ENTRIES (T : Txt K mg) : ∃ t, mg "MOST_ENTRIES" = some (.int 1000 t) := T.int 56
theorem Txt.c_Rule (T : Txt K mg) : Cls K (cRule K) := He.cls_ok (T.c.fact 57 (f := .cls "Rule"))
theorem Txt.mk_Rule (T : Txt K mg) : Mk K (cRule K) (He.ma K (cRule K) "__init__") := He.mkr_ok (T.c.fact 58 (f := .mkr "Rule"))
theorem Txt.n_Rule_listed (T : Txt K mg) : NoAttr K (cRule K) "listed" := He.noat_ok (T.c.fact 59 (f := .noat "Rule" "listed"))
theorem Txt.n_Rule_ending (T : Txt K mg) : NoAttr K (cRule K) "ending" := He.noat_ok (T.c.fact 60 (f := .noat "Rule" "ending"))
theorem Txt.n_Rule_sums (T : Txt K mg) : NoAttr K (cRule K) "sums" := He.noat_ok (T.c.fact 61 (f := .noat "Rule" "sums"))
theorem Txt.c_Scene (T : Txt K mg) : Cls K (cScene K) := He.cls_ok (T.c.fact 62 (f := .cls "Scene"))
theorem Txt.mk_Scene (T : Txt K mg) : Mk K (cScene K) (He.ma K (cScene K) "__init__") := He.mkr_ok (T.c.fact 63 (f := .mkr "Scene"))
theorem Txt.n_Scene_its_rule (T : Txt K mg) : NoAttr K (cScene K) "its_rule" := He.noat_ok (T.c.fact 64 (f := .noat "Scene" "its_rule"))
theorem Txt.n_Scene_its_starts (T : Txt K mg) : NoAttr K (cScene K) "its_starts" := He.noat_ok (T.c.fact 65 (f := .noat "Scene" "its_starts"))
theorem Txt.n_Scene_windows (T : Txt K mg) : NoAttr K (cScene K) "windows" := He.noat_ok (T.c.fact 66 (f := .noat "Scene" "windows"))
theorem Txt.n_Scene_its_length (T : Txt K mg) : NoAttr K (cScene K) "its_length" := He.noat_ok (T.c.fact 67 (f := .noat "Scene" "its_length"))
theorem Txt.c_Run (T : Txt K mg) : Cls K (cRun K) := He.cls_ok (T.c.fact 68 (f := .cls "Run"))
theorem Txt.mk_Run (T : Txt K mg) : Mk K (cRun K) (He.ma K (cRun K) "__init__") := He.mkr_ok (T.c.fact 69 (f := .mkr "Run"))
theorem Txt.n_Run_its_scene (T : Txt K mg) : NoAttr K (cRun K) "its_scene" := He.noat_ok (T.c.fact 70 (f := .noat "Run" "its_scene"))
theorem Txt.n_Run_pattern (T : Txt K mg) : NoAttr K (cRun K) "pattern" := He.noat_ok (T.c.fact 71 (f := .noat "Run" "pattern"))
theorem Txt.n_Run_begins (T : Txt K mg) : NoAttr K (cRun K) "begins" := He.noat_ok (T.c.fact 72 (f := .noat "Run" "begins"))
theorem Txt.n_Run_changes (T : Txt K mg) : NoAttr K (cRun K) "changes" := He.noat_ok (T.c.fact 73 (f := .noat "Run" "changes"))
theorem Txt.n_Run_services (T : Txt K mg) : NoAttr K (cRun K) "services" := He.noat_ok (T.c.fact 74 (f := .noat "Run" "services"))
theorem Txt.n_Run_closed (T : Txt K mg) : NoAttr K (cRun K) "closed" := He.noat_ok (T.c.fact 75 (f := .noat "Run" "closed"))
theorem Txt.n_Run_waiting (T : Txt K mg) : NoAttr K (cRun K) "waiting" := He.noat_ok (T.c.fact 76 (f := .noat "Run" "waiting"))
theorem Txt.n_Run_free_from (T : Txt K mg) : NoAttr K (cRun K) "free_from" := He.noat_ok (T.c.fact 77 (f := .noat "Run" "free_from"))
theorem Txt.m_Rule_gaps (T : Txt K mg) : Meth K (cRule K) "gaps" (He.ma K (cRule K) "gaps") := He.meth_ok (T.c.fact 78 (f := .meth "Rule" "gaps"))
theorem Txt.m_Rule_tail (T : Txt K mg) : Meth K (cRule K) "tail" (He.ma K (cRule K) "tail") := He.meth_ok (T.c.fact 79 (f := .meth "Rule" "tail"))
theorem Txt.m_Rule_attempts (T : Txt K mg) : Meth K (cRule K) "attempts" (He.ma K (cRule K) "attempts") := He.meth_ok (T.c.fact 80 (f := .meth "Rule" "attempts"))
theorem Txt.m_Rule_check_attempt (T : Txt K mg) : Meth K (cRule K) "check_attempt" (He.ma K (cRule K) "check_attempt") := He.meth_ok (T.c.fact 81 (f := .meth "Rule" "check_attempt"))
theorem Txt.m_Rule_offset (T : Txt K mg) : Meth K (cRule K) "offset" (He.ma K (cRule K) "offset") := He.meth_ok (T.c.fact 82 (f := .meth "Rule" "offset"))
theorem Txt.m_Rule_offset_of (T : Txt K mg) : Meth K (cRule K) "offset_of" (He.ma K (cRule K) "offset_of") := He.meth_ok (T.c.fact 83 (f := .meth "Rule" "offset_of"))
theorem Txt.m_Rule_period (T : Txt K mg) : Meth K (cRule K) "period" (He.ma K (cRule K) "period") := He.meth_ok (T.c.fact 84 (f := .meth "Rule" "period"))
theorem Txt.m_Rule_first_from (T : Txt K mg) : Meth K (cRule K) "first_from" (He.ma K (cRule K) "first_from") := He.meth_ok (T.c.fact 85 (f := .meth "Rule" "first_from"))
theorem Txt.m_Rule_attempt_at (T : Txt K mg) : Meth K (cRule K) "attempt_at" (He.ma K (cRule K) "attempt_at") := He.meth_ok (T.c.fact 86 (f := .meth "Rule" "attempt_at"))
theorem Txt.m_Scene_rule (T : Txt K mg) : Meth K (cScene K) "rule" (He.ma K (cScene K) "rule") := He.meth_ok (T.c.fact 87 (f := .meth "Scene" "rule"))
theorem Txt.m_Scene_starts (T : Txt K mg) : Meth K (cScene K) "starts" (He.ma K (cScene K) "starts") := He.meth_ok (T.c.fact 88 (f := .meth "Scene" "starts"))
theorem Txt.m_Scene_outages (T : Txt K mg) : Meth K (cScene K) "outages" (He.ma K (cScene K) "outages") := He.meth_ok (T.c.fact 89 (f := .meth "Scene" "outages"))
theorem Txt.m_Scene_length (T : Txt K mg) : Meth K (cScene K) "length" (He.ma K (cScene K) "length") := He.meth_ok (T.c.fact 90 (f := .meth "Scene" "length"))
theorem Txt.m_Scene_check_client (T : Txt K mg) : Meth K (cScene K) "check_client" (He.ma K (cScene K) "check_client") := He.meth_ok (T.c.fact 91 (f := .meth "Scene" "check_client"))
theorem Txt.m_Scene_slot_of (T : Txt K mg) : Meth K (cScene K) "slot_of" (He.ma K (cScene K) "slot_of") := He.meth_ok (T.c.fact 92 (f := .meth "Scene" "slot_of"))
theorem Txt.m_Scene_attempt_in (T : Txt K mg) : Meth K (cScene K) "attempt_in" (He.ma K (cScene K) "attempt_in") := He.meth_ok (T.c.fact 93 (f := .meth "Scene" "attempt_in"))
theorem Txt.m_Scene_outage_at (T : Txt K mg) : Meth K (cScene K) "outage_at" (He.ma K (cScene K) "outage_at") := He.meth_ok (T.c.fact 94 (f := .meth "Scene" "outage_at"))
theorem Txt.m_Scene_listed_slots (T : Txt K mg) : Meth K (cScene K) "listed_slots" (He.ma K (cScene K) "listed_slots") := He.meth_ok (T.c.fact 95 (f := .meth "Scene" "listed_slots"))
theorem Txt.m_Scene_moments (T : Txt K mg) : Meth K (cScene K) "moments" (He.ma K (cScene K) "moments") := He.meth_ok (T.c.fact 96 (f := .meth "Scene" "moments"))
theorem Txt.m_Run_advance (T : Txt K mg) : Meth K (cRun K) "advance" (He.ma K (cRun K) "advance") := He.meth_ok (T.c.fact 97 (f := .meth "Run" "advance"))
theorem Txt.m_Run_failing_until (T : Txt K mg) : Meth K (cRun K) "failing_until" (He.ma K (cRun K) "failing_until") := He.meth_ok (T.c.fact 98 (f := .meth "Run" "failing_until"))
theorem Txt.m_Run_skip_to (T : Txt K mg) : Meth K (cRun K) "skip_to" (He.ma K (cRun K) "skip_to") := He.meth_ok (T.c.fact 99 (f := .meth "Run" "skip_to"))
theorem Txt.m_Run_latest_moment (T : Txt K mg) : Meth K (cRun K) "latest_moment" (He.ma K (cRun K) "latest_moment") := He.meth_ok (T.c.fact 100 (f := .meth "Run" "latest_moment"))
theorem Txt.m_Run_is_repeated (T : Txt K mg) : Meth K (cRun K) "is_repeated" (He.ma K (cRun K) "is_repeated") := He.meth_ok (T.c.fact 101 (f := .meth "Run" "is_repeated"))
theorem Txt.m_Run_close (T : Txt K mg) : Meth K (cRun K) "close" (He.ma K (cRun K) "close") := He.meth_ok (T.c.fact 102 (f := .meth "Run" "close"))
theorem Txt.m_Run_decide (T : Txt K mg) : Meth K (cRun K) "decide" (He.ma K (cRun K) "decide") := He.meth_ok (T.c.fact 103 (f := .meth "Run" "decide"))
theorem Txt.m_Run_scene (T : Txt K mg) : Meth K (cRun K) "scene" (He.ma K (cRun K) "scene") := He.meth_ok (T.c.fact 104 (f := .meth "Run" "scene"))
theorem Txt.m_Run_outcome (T : Txt K mg) : Meth K (cRun K) "outcome" (He.ma K (cRun K) "outcome") := He.meth_ok (T.c.fact 105 (f := .meth "Run" "outcome"))
theorem Txt.m_Run_outcomes (T : Txt K mg) : Meth K (cRun K) "outcomes" (He.ma K (cRun K) "outcomes") := He.meth_ok (T.c.fact 106 (f := .meth "Run" "outcomes"))
theorem Txt.m_Run_order (T : Txt K mg) : Meth K (cRun K) "order" (He.ma K (cRun K) "order") := He.meth_ok (T.c.fact 107 (f := .meth "Run" "order"))
theorem Txt.m_Run_is_active (T : Txt K mg) : Meth K (cRun K) "is_active" (He.ma K (cRun K) "is_active") := He.meth_ok (T.c.fact 108 (f := .meth "Run" "is_active"))
theorem Txt.m_Run_active (T : Txt K mg) : Meth K (cRun K) "active" (He.ma K (cRun K) "active") := He.meth_ok (T.c.fact 109 (f := .meth "Run" "active"))
theorem Txt.m_Run_attempting (T : Txt K mg) : Meth K (cRun K) "attempting" (He.ma K (cRun K) "attempting") := He.meth_ok (T.c.fact 110 (f := .meth "Run" "attempting"))
theorem Txt.m_Run_busy_with (T : Txt K mg) : Meth K (cRun K) "busy_with" (He.ma K (cRun K) "busy_with") := He.meth_ok (T.c.fact 111 (f := .meth "Run" "busy_with"))
theorem Txt.m_Run_event (T : Txt K mg) : Meth K (cRun K) "event" (He.ma K (cRun K) "event") := He.meth_ok (T.c.fact 112 (f := .meth "Run" "event"))
theorem Txt.f_is_integer (T : Txt K mg) : ∃ fd, FunD K "is_integer" "is_integer" (defArgs s_is_integer) (defBody s_is_integer) (defScope s_is_integer) [] [] (He.ga K "is_integer") fd := T.c.def_ 0 (d := d_is_integer)
theorem Txt.f_is_between (T : Txt K mg) : ∃ fd, FunD K "is_between" "is_between" (defArgs s_is_between) (defBody s_is_between) (defScope s_is_between) [] [] (He.ga K "is_between") fd := T.c.def_ 1 (d := d_is_between)
theorem Txt.f_is_tail (T : Txt K mg) : ∃ fd, FunD K "is_tail" "is_tail" (defArgs s_is_tail) (defBody s_is_tail) (defScope s_is_tail) [] [] (He.ga K "is_tail") fd := T.c.def_ 2 (d := d_is_tail)
theorem Txt.f_Rule_init (T : Txt K mg) : ∃ fd, FunD K "__init__" "Rule.__init__" (defArgs s_Rule_init) (defBody s_Rule_init) (defScope s_Rule_init) [] [] (He.ma K (cRule K) "__init__") fd := T.c.def_ 3 (d := d_Rule_init)
theorem Txt.f_Rule_gaps (T : Txt K mg) : ∃ fd, FunD K "gaps" "Rule.gaps" (defArgs s_Rule_gaps) (defBody s_Rule_gaps) (defScope s_Rule_gaps) [] [] (He.ma K (cRule K) "gaps") fd := T.c.def_ 4 (d := d_Rule_gaps)
theorem Txt.f_Rule_tail (T : Txt K mg) : ∃ fd, FunD K "tail" "Rule.tail" (defArgs s_Rule_tail) (defBody s_Rule_tail) (defScope s_Rule_tail) [] [] (He.ma K (cRule K) "tail") fd := T.c.def_ 5 (d := d_Rule_tail)
theorem Txt.f_Rule_attempts (T : Txt K mg) : ∃ fd, FunD K "attempts" "Rule.attempts" (defArgs s_Rule_attempts) (defBody s_Rule_attempts) (defScope s_Rule_attempts) [] [] (He.ma K (cRule K) "attempts") fd := T.c.def_ 6 (d := d_Rule_attempts)
theorem Txt.f_Rule_check_attempt (T : Txt K mg) : ∃ fd, FunD K "check_attempt" "Rule.check_attempt" (defArgs s_Rule_check_attempt) (defBody s_Rule_check_attempt) (defScope s_Rule_check_attempt) [] [] (He.ma K (cRule K) "check_attempt") fd := T.c.def_ 7 (d := d_Rule_check_attempt)
theorem Txt.f_Rule_offset (T : Txt K mg) : ∃ fd, FunD K "offset" "Rule.offset" (defArgs s_Rule_offset) (defBody s_Rule_offset) (defScope s_Rule_offset) [] [] (He.ma K (cRule K) "offset") fd := T.c.def_ 8 (d := d_Rule_offset)
theorem Txt.f_Rule_offset_of (T : Txt K mg) : ∃ fd, FunD K "offset_of" "Rule.offset_of" (defArgs s_Rule_offset_of) (defBody s_Rule_offset_of) (defScope s_Rule_offset_of) [] [] (He.ma K (cRule K) "offset_of") fd := T.c.def_ 9 (d := d_Rule_offset_of)
theorem Txt.f_Rule_period (T : Txt K mg) : ∃ fd, FunD K "period" "Rule.period" (defArgs s_Rule_period) (defBody s_Rule_period) (defScope s_Rule_period) [] [] (He.ma K (cRule K) "period") fd := T.c.def_ 10 (d := d_Rule_period)
theorem Txt.f_Rule_first_from (T : Txt K mg) : ∃ fd, FunD K "first_from" "Rule.first_from" (defArgs s_Rule_first_from) (defBody s_Rule_first_from) (defScope s_Rule_first_from) [] [] (He.ma K (cRule K) "first_from") fd := T.c.def_ 11 (d := d_Rule_first_from)
theorem Txt.f_Rule_attempt_at (T : Txt K mg) : ∃ fd, FunD K "attempt_at" "Rule.attempt_at" (defArgs s_Rule_attempt_at) (defBody s_Rule_attempt_at) (defScope s_Rule_attempt_at) [] [] (He.ma K (cRule K) "attempt_at") fd := T.c.def_ 12 (d := d_Rule_attempt_at)
theorem Txt.f_check_starts (T : Txt K mg) : ∃ fd, FunD K "check_starts" "check_starts" (defArgs s_check_starts) (defBody s_check_starts) (defScope s_check_starts) [] [] (He.ga K "check_starts") fd := T.c.def_ 13 (d := d_check_starts)
theorem Txt.f_is_window (T : Txt K mg) : ∃ fd, FunD K "is_window" "is_window" (defArgs s_is_window) (defBody s_is_window) (defScope s_is_window) [] [] (He.ga K "is_window") fd := T.c.def_ 14 (d := d_is_window)
theorem Txt.f_check_outages (T : Txt K mg) : ∃ fd, FunD K "check_outages" "check_outages" (defArgs s_check_outages) (defBody s_check_outages) (defScope s_check_outages) [] [] (He.ga K "check_outages") fd := T.c.def_ 15 (d := d_check_outages)
theorem Txt.f_Scene_init (T : Txt K mg) : ∃ fd, FunD K "__init__" "Scene.__init__" (defArgs s_Scene_init) (defBody s_Scene_init) (defScope s_Scene_init) [] [(("outages" : Str), V.non), (("length" : Str), V.int 1)] (He.ma K (cScene K) "__init__") fd := T.c.def_ 16 (d := d_Scene_init)
theorem Txt.f_Scene_rule (T : Txt K mg) : ∃ fd, FunD K "rule" "Scene.rule" (defArgs s_Scene_rule) (defBody s_Scene_rule) (defScope s_Scene_rule) [] [] (He.ma K (cScene K) "rule") fd := T.c.def_ 17 (d := d_Scene_rule)
theorem Txt.f_Scene_starts (T : Txt K mg) : ∃ fd, FunD K "starts" "Scene.starts" (defArgs s_Scene_starts) (defBody s_Scene_starts) (defScope s_Scene_starts) [] [] (He.ma K (cScene K) "starts") fd := T.c.def_ 18 (d := d_Scene_starts)
theorem Txt.f_Scene_outages (T : Txt K mg) : ∃ fd, FunD K "outages" "Scene.outages" (defArgs s_Scene_outages) (defBody s_Scene_outages) (defScope s_Scene_outages) [] [] (He.ma K (cScene K) "outages") fd := T.c.def_ 19 (d := d_Scene_outages)
theorem Txt.f_Scene_length (T : Txt K mg) : ∃ fd, FunD K "length" "Scene.length" (defArgs s_Scene_length) (defBody s_Scene_length) (defScope s_Scene_length) [] [] (He.ma K (cScene K) "length") fd := T.c.def_ 20 (d := d_Scene_length)
theorem Txt.f_Scene_check_client (T : Txt K mg) : ∃ fd, FunD K "check_client" "Scene.check_client" (defArgs s_Scene_check_client) (defBody s_Scene_check_client) (defScope s_Scene_check_client) [] [] (He.ma K (cScene K) "check_client") fd := T.c.def_ 21 (d := d_Scene_check_client)
theorem Txt.f_Scene_slot_of (T : Txt K mg) : ∃ fd, FunD K "slot_of" "Scene.slot_of" (defArgs s_Scene_slot_of) (defBody s_Scene_slot_of) (defScope s_Scene_slot_of) [] [] (He.ma K (cScene K) "slot_of") fd := T.c.def_ 22 (d := d_Scene_slot_of)
theorem Txt.f_Scene_attempt_in (T : Txt K mg) : ∃ fd, FunD K "attempt_in" "Scene.attempt_in" (defArgs s_Scene_attempt_in) (defBody s_Scene_attempt_in) (defScope s_Scene_attempt_in) [] [] (He.ma K (cScene K) "attempt_in") fd := T.c.def_ 23 (d := d_Scene_attempt_in)
theorem Txt.f_Scene_outage_at (T : Txt K mg) : ∃ fd, FunD K "outage_at" "Scene.outage_at" (defArgs s_Scene_outage_at) (defBody s_Scene_outage_at) (defScope s_Scene_outage_at) [] [] (He.ma K (cScene K) "outage_at") fd := T.c.def_ 24 (d := d_Scene_outage_at)
theorem Txt.f_Scene_listed_slots (T : Txt K mg) : ∃ fd, FunD K "listed_slots" "Scene.listed_slots" (defArgs s_Scene_listed_slots) (defBody s_Scene_listed_slots) (defScope s_Scene_listed_slots) [] [] (He.ma K (cScene K) "listed_slots") fd := T.c.def_ 25 (d := d_Scene_listed_slots)
theorem Txt.f_Scene_moments (T : Txt K mg) : ∃ fd, FunD K "moments" "Scene.moments" (defArgs s_Scene_moments) (defBody s_Scene_moments) (defScope s_Scene_moments) [] [] (He.ma K (cScene K) "moments") fd := T.c.def_ 26 (d := d_Scene_moments)
theorem Txt.f_Run_init (T : Txt K mg) : ∃ fd, FunD K "__init__" "Run.__init__" (defArgs s_Run_init) (defBody s_Run_init) (defScope s_Run_init) [] [] (He.ma K (cRun K) "__init__") fd := T.c.def_ 27 (d := d_Run_init)
theorem Txt.f_Run_advance (T : Txt K mg) : ∃ fd, FunD K "advance" "Run.advance" (defArgs s_Run_advance) (defBody s_Run_advance) (defScope s_Run_advance) [] [] (He.ma K (cRun K) "advance") fd := T.c.def_ 28 (d := d_Run_advance)
theorem Txt.f_Run_failing_until (T : Txt K mg) : ∃ fd, FunD K "failing_until" "Run.failing_until" (defArgs s_Run_failing_until) (defBody s_Run_failing_until) (defScope s_Run_failing_until) [] [] (He.ma K (cRun K) "failing_until") fd := T.c.def_ 29 (d := d_Run_failing_until)
theorem Txt.f_Run_skip_to (T : Txt K mg) : ∃ fd, FunD K "skip_to" "Run.skip_to" (defArgs s_Run_skip_to) (defBody s_Run_skip_to) (defScope s_Run_skip_to) [] [] (He.ma K (cRun K) "skip_to") fd := T.c.def_ 30 (d := d_Run_skip_to)
theorem Txt.f_Run_latest_moment (T : Txt K mg) : ∃ fd, FunD K "latest_moment" "Run.latest_moment" (defArgs s_Run_latest_moment) (defBody s_Run_latest_moment) (defScope s_Run_latest_moment) [] [] (He.ma K (cRun K) "latest_moment") fd := T.c.def_ 31 (d := d_Run_latest_moment)
theorem Txt.f_Run_is_repeated (T : Txt K mg) : ∃ fd, FunD K "is_repeated" "Run.is_repeated" (defArgs s_Run_is_repeated) (defBody s_Run_is_repeated) (defScope s_Run_is_repeated) [] [] (He.ma K (cRun K) "is_repeated") fd := T.c.def_ 32 (d := d_Run_is_repeated)
theorem Txt.f_Run_close (T : Txt K mg) : ∃ fd, FunD K "close" "Run.close" (defArgs s_Run_close) (defBody s_Run_close) (defScope s_Run_close) [] [] (He.ma K (cRun K) "close") fd := T.c.def_ 33 (d := d_Run_close)
theorem Txt.f_Run_decide (T : Txt K mg) : ∃ fd, FunD K "decide" "Run.decide" (defArgs s_Run_decide) (defBody s_Run_decide) (defScope s_Run_decide) [] [] (He.ma K (cRun K) "decide") fd := T.c.def_ 34 (d := d_Run_decide)
theorem Txt.f_Run_scene (T : Txt K mg) : ∃ fd, FunD K "scene" "Run.scene" (defArgs s_Run_scene) (defBody s_Run_scene) (defScope s_Run_scene) [] [] (He.ma K (cRun K) "scene") fd := T.c.def_ 35 (d := d_Run_scene)
theorem Txt.f_Run_outcome (T : Txt K mg) : ∃ fd, FunD K "outcome" "Run.outcome" (defArgs s_Run_outcome) (defBody s_Run_outcome) (defScope s_Run_outcome) [] [] (He.ma K (cRun K) "outcome") fd := T.c.def_ 36 (d := d_Run_outcome)
theorem Txt.f_Run_outcomes (T : Txt K mg) : ∃ fd, FunD K "outcomes" "Run.outcomes" (defArgs s_Run_outcomes) (defBody s_Run_outcomes) (defScope s_Run_outcomes) [] [] (He.ma K (cRun K) "outcomes") fd := T.c.def_ 37 (d := d_Run_outcomes)
theorem Txt.f_Run_order (T : Txt K mg) : ∃ fd, FunD K "order" "Run.order" (defArgs s_Run_order) (defBody s_Run_order) (defScope s_Run_order) [] [] (He.ma K (cRun K) "order") fd := T.c.def_ 38 (d := d_Run_order)
theorem Txt.f_Run_is_active (T : Txt K mg) : ∃ fd, FunD K "is_active" "Run.is_active" (defArgs s_Run_is_active) (defBody s_Run_is_active) (defScope s_Run_is_active) [] [] (He.ma K (cRun K) "is_active") fd := T.c.def_ 39 (d := d_Run_is_active)
theorem Txt.f_Run_active (T : Txt K mg) : ∃ fd, FunD K "active" "Run.active" (defArgs s_Run_active) (defBody s_Run_active) (defScope s_Run_active) [] [] (He.ma K (cRun K) "active") fd := T.c.def_ 40 (d := d_Run_active)
theorem Txt.f_Run_attempting (T : Txt K mg) : ∃ fd, FunD K "attempting" "Run.attempting" (defArgs s_Run_attempting) (defBody s_Run_attempting) (defScope s_Run_attempting) [] [] (He.ma K (cRun K) "attempting") fd := T.c.def_ 41 (d := d_Run_attempting)
theorem Txt.f_Run_busy_with (T : Txt K mg) : ∃ fd, FunD K "busy_with" "Run.busy_with" (defArgs s_Run_busy_with) (defBody s_Run_busy_with) (defScope s_Run_busy_with) [] [] (He.ma K (cRun K) "busy_with") fd := T.c.def_ 42 (d := d_Run_busy_with)
theorem Txt.f_Run_event (T : Txt K mg) : ∃ fd, FunD K "event" "Run.event" (defArgs s_Run_event) (defBody s_Run_event) (defScope s_Run_event) [] [] (He.ma K (cRun K) "event") fd := T.c.def_ 43 (d := d_Run_event)
theorem Txt.f_check_run (T : Txt K mg) : ∃ fd, FunD K "check_run" "check_run" (defArgs s_check_run) (defBody s_check_run) (defScope s_check_run) [] [] (He.ga K "check_run") fd := T.c.def_ 44 (d := d_check_run)
theorem Txt.f_attempts_made (T : Txt K mg) : ∃ fd, FunD K "attempts_made" "attempts_made" (defArgs s_attempts_made) (defBody s_attempts_made) (defScope s_attempts_made) [] [] (He.ga K "attempts_made") fd := T.c.def_ 45 (d := d_attempts_made)
theorem Txt.f_reason_of (T : Txt K mg) : ∃ fd, FunD K "reason_of" "reason_of" (defArgs s_reason_of) (defBody s_reason_of) (defScope s_reason_of) [] [] (He.ga K "reason_of") fd := T.c.def_ 46 (d := d_reason_of)
theorem Txt.f_reason (T : Txt K mg) : ∃ fd, FunD K "reason" "reason" (defArgs s_reason) (defBody s_reason) (defScope s_reason) [] [] (He.ga K "reason") fd := T.c.def_ 47 (d := d_reason)
theorem Txt.f_end_of_window (T : Txt K mg) : ∃ fd, FunD K "end_of_window" "end_of_window" (defArgs s_end_of_window) (defBody s_end_of_window) (defScope s_end_of_window) [] [] (He.ga K "end_of_window") fd := T.c.def_ 48 (d := d_end_of_window)
theorem Txt.f_first_attempt (T : Txt K mg) : ∃ fd, FunD K "first_attempt" "first_attempt" (defArgs s_first_attempt) (defBody s_first_attempt) (defScope s_first_attempt) [] [] (He.ga K "first_attempt") fd := T.c.def_ 49 (d := d_first_attempt)
theorem Txt.f_behind_window (T : Txt K mg) : ∃ fd, FunD K "behind_window" "behind_window" (defArgs s_behind_window) (defBody s_behind_window) (defScope s_behind_window) [] [] (He.ga K "behind_window") fd := T.c.def_ 50 (d := d_behind_window)
theorem Txt.f_check_bounds (T : Txt K mg) : ∃ fd, FunD K "check_bounds" "check_bounds" (defArgs s_check_bounds) (defBody s_check_bounds) (defScope s_check_bounds) [] [] (He.ga K "check_bounds") fd := T.c.def_ 51 (d := d_check_bounds)
theorem Txt.f_history (T : Txt K mg) : ∃ fd, FunD K "history" "history" (defArgs s_history) (defBody s_history) (defScope s_history) [] [] (He.ga K "history") fd := T.c.def_ 52 (d := d_history)
theorem Txt.f_without_outages (T : Txt K mg) : ∃ fd, FunD K "without_outages" "without_outages" (defArgs s_without_outages) (defBody s_without_outages) (defScope s_without_outages) [] [] (He.ga K "without_outages") fd := T.c.def_ 53 (d := d_without_outages)
theorem Txt.f_busy_windows (T : Txt K mg) : ∃ fd, FunD K "busy_windows" "busy_windows" (defArgs s_busy_windows) (defBody s_busy_windows) (defScope s_busy_windows) [] [] (He.ga K "busy_windows") fd := T.c.def_ 54 (d := d_busy_windows)
theorem Txt.f_count_within (T : Txt K mg) : ∃ fd, FunD K "count_within" "count_within" (defArgs s_count_within) (defBody s_count_within) (defScope s_count_within) [] [] (He.ga K "count_within") fd := T.c.def_ 55 (d := d_count_within)
theorem Txt.f_failure_counts (T : Txt K mg) : ∃ fd, FunD K "failure_counts" "failure_counts" (defArgs s_failure_counts) (defBody s_failure_counts) (defScope s_failure_counts) [] [] (He.ga K "failure_counts") fd := T.c.def_ 56 (d := d_failure_counts)
theorem Txt.f_law_mixed (T : Txt K mg) : ∃ fd, FunD K "_law_mixed" "_law_mixed" (defArgs s_law_mixed) (defBody s_law_mixed) (defScope s_law_mixed) [] [] (He.ga K "_law_mixed") fd := T.c.def_ 57 (d := d_law_mixed)
theorem Txt.f_law_well (T : Txt K mg) : ∃ fd, FunD K "_law_well" "_law_well" (defArgs s_law_well) (defBody s_law_well) (defScope s_law_well) [] [] (He.ga K "_law_well") fd := T.c.def_ 58 (d := d_law_well)
theorem Txt.f_law_draw (T : Txt K mg) : ∃ fd, FunD K "_law_draw" "_law_draw" (defArgs s_law_draw) (defBody s_law_draw) (defScope s_law_draw) [] [] (He.ga K "_law_draw") fd := T.c.def_ 59 (d := d_law_draw)
theorem Txt.f_law_one (T : Txt K mg) : ∃ fd, FunD K "_law_one" "_law_one" (defArgs s_law_one) (defBody s_law_one) (defScope s_law_one) [] [] (He.ga K "_law_one") fd := T.c.def_ 60 (d := d_law_one)
theorem Txt.f_law_gaps (T : Txt K mg) : ∃ fd, FunD K "_law_gaps" "_law_gaps" (defArgs s_law_gaps) (defBody s_law_gaps) (defScope s_law_gaps) [] [] (He.ga K "_law_gaps") fd := T.c.def_ 61 (d := d_law_gaps)
theorem Txt.f_law_windows (T : Txt K mg) : ∃ fd, FunD K "_law_windows" "_law_windows" (defArgs s_law_windows) (defBody s_law_windows) (defScope s_law_windows) [] [] (He.ga K "_law_windows") fd := T.c.def_ 62 (d := d_law_windows)
theorem Txt.f_law_parts (T : Txt K mg) : ∃ fd, FunD K "_law_parts" "_law_parts" (defArgs s_law_parts) (defBody s_law_parts) (defScope s_law_parts) [] [] (He.ga K "_law_parts") fd := T.c.def_ 63 (d := d_law_parts)
theorem Txt.f_law_made (T : Txt K mg) : ∃ fd, FunD K "_law_made" "_law_made" (defArgs s_law_made) (defBody s_law_made) (defScope s_law_made) [] [] (He.ga K "_law_made") fd := T.c.def_ 64 (d := d_law_made)
theorem Txt.f_law_has (T : Txt K mg) : ∃ fd, FunD K "_law_has" "_law_has" (defArgs s_law_has) (defBody s_law_has) (defScope s_law_has) [] [] (He.ga K "_law_has") fd := T.c.def_ 65 (d := d_law_has)
theorem Txt.f_law_place (T : Txt K mg) : ∃ fd, FunD K "_law_place" "_law_place" (defArgs s_law_place) (defBody s_law_place) (defScope s_law_place) [] [] (He.ga K "_law_place") fd := T.c.def_ 66 (d := d_law_place)
theorem Txt.f_law_looped (T : Txt K mg) : ∃ fd, FunD K "_law_looped" "_law_looped" (defArgs s_law_looped) (defBody s_law_looped) (defScope s_law_looped) [] [] (He.ga K "_law_looped") fd := T.c.def_ 67 (d := d_law_looped)
theorem Txt.f_law_client_right (T : Txt K mg) : ∃ fd, FunD K "_law_client_right" "_law_client_right" (defArgs s_law_client_right) (defBody s_law_client_right) (defScope s_law_client_right) [] [] (He.ga K "_law_client_right") fd := T.c.def_ 68 (d := d_law_client_right)
theorem Txt.f_law_right (T : Txt K mg) : ∃ fd, FunD K "_law_right" "_law_right" (defArgs s_law_right) (defBody s_law_right) (defScope s_law_right) [] [] (He.ga K "_law_right") fd := T.c.def_ 69 (d := d_law_right)
theorem Txt.f_law (T : Txt K mg) : ∃ fd, FunD K "law" "law" (defArgs s_law) (defBody s_law) (defScope s_law) [] [] (He.ga K "law") fd := T.c.def_ 70 (d := d_law)
end
end RS
end

section
set_option Elab.async false
set_option linter.all false
set_option maxRecDepth 100000
set_option maxHeartbeats 4000000
namespace RS
open PySem PySem.Spec PyProof.Rows L2 Evl
/-! ### the fields of the three classes -/
def ruleF (l t s : Addr) : List (Str × V) := [("listed", .ref l), ("ending", .ref t), ("sums", .ref s)]
def sceneF (r st ws : Addr) (ln : Int) : List (Str × V) := [("its_rule", .ref r), ("its_starts", .ref st), ("windows", .ref ws), ("its_length", .int ln)]
def runF (sc r b ch ds dc dw : Addr) (fr : Int) : List (Str × V) := [("its_scene", .ref sc), ("pattern", .ref r), ("begins", .ref b), ("changes", .ref ch), ("services", .ref ds), ("closed", .ref dc), ("waiting", .ref dw), ("free_from", .int fr)]
theorem lk_listed {l t s : Addr} : (ruleF l t s).lookup ("listed" : Str) = some (V.ref l) := by kernel_rfl
theorem lk_ending {l t s : Addr} : (ruleF l t s).lookup ("ending" : Str) = some (V.ref t) := by kernel_rfl
theorem lk_sums {l t s : Addr} : (ruleF l t s).lookup ("sums" : Str) = some (V.ref s) := by kernel_rfl
theorem lk_its_rule {r st ws : Addr} {ln : Int} : (sceneF r st ws ln).lookup ("its_rule" : Str) = some (V.ref r) := by kernel_rfl
theorem lk_its_starts {r st ws : Addr} {ln : Int} : (sceneF r st ws ln).lookup ("its_starts" : Str) = some (V.ref st) := by kernel_rfl
theorem lk_windows {r st ws : Addr} {ln : Int} : (sceneF r st ws ln).lookup ("windows" : Str) = some (V.ref ws) := by kernel_rfl
theorem lk_its_length {r st ws : Addr} {ln : Int} : (sceneF r st ws ln).lookup ("its_length" : Str) = some (V.int ln) := by kernel_rfl
section
variable {sc r b ch ds dc dw : Addr} {fr : Int}
theorem lk_its_scene : (runF sc r b ch ds dc dw fr).lookup ("its_scene" : Str) = some (V.ref sc) := by kernel_rfl
theorem lk_pattern : (runF sc r b ch ds dc dw fr).lookup ("pattern" : Str) = some (V.ref r) := by kernel_rfl
theorem lk_begins : (runF sc r b ch ds dc dw fr).lookup ("begins" : Str) = some (V.ref b) := by kernel_rfl
theorem lk_changes : (runF sc r b ch ds dc dw fr).lookup ("changes" : Str) = some (V.ref ch) := by kernel_rfl
theorem lk_services : (runF sc r b ch ds dc dw fr).lookup ("services" : Str) = some (V.ref ds) := by kernel_rfl
theorem lk_closed : (runF sc r b ch ds dc dw fr).lookup ("closed" : Str) = some (V.ref dc) := by kernel_rfl
theorem lk_waiting : (runF sc r b ch ds dc dw fr).lookup ("waiting" : Str) = some (V.ref dw) := by kernel_rfl
theorem lk_free_from : (runF sc r b ch ds dc dw fr).lookup ("free_from" : Str) = some (V.int fr) := by kernel_rfl
theorem pt_free_from {x : Int} : putF "free_from" (.int x) (runF sc r b ch ds dc dw fr) = runF sc r b ch ds dc dw x := by kernel_rfl
theorem pt_run : putF "free_from" (.int fr) (putF "waiting" (.ref dw) (putF "closed" (.ref dc) (putF "services" (.ref ds) (putF "changes" (.ref ch) (putF "begins" (.ref b) (putF "pattern" (.ref r) (putF "its_scene" (.ref sc) []))))))) = runF sc r b ch ds dc dw fr := by kernel_rfl
end
theorem lp {f : Str} {v : V} {n : Nat} : ∀ {fs : List (Str × V)}, fs.length ≤ n → (putF f v fs).length ≤ n + 1
  | [], _ => by
    show 1 ≤ n + 1
    omega
  | (g, x) :: r, h => by
    show (if g = f then (g, v) :: r else (g, x) :: putF f v r).length ≤ n + 1
    have h : r.length + 1 ≤ n := h
    split
    · show r.length + 1 ≤ n + 1
      omega
    · obtain ⟨m, rfl⟩ : ∃ m, n = m + 1 := ⟨n - 1, by omega⟩
      have := lp (f := f) (v := v) (n := m) (fs := r) (by omega)
      show (putF f v r).length + 1 ≤ m + 1 + 1
      omega
theorem lz : ([] : List (Str × V)).length ≤ 0 := Nat.le_refl 0
theorem l1k {fs : List (Str × V)} {n : Nat} (h : fs.length ≤ n) (hn : n < 1000) : fs.length < 1000 := Nat.lt_of_le_of_lt h hn
theorem pt_rule {l t s : Addr} : putF "sums" (.ref s) (putF "ending" (.ref t) (putF "listed" (.ref l) [])) = ruleF l t s := by kernel_rfl
theorem pt_rule' {l t s : Addr} : putF "sums" (.ref s) (putF "ending" (.ref t) (putF "listed" (.ref l) [])) = ruleF l t s := pt_rule
theorem pt_scene {r st ws : Addr} {ln : Int} : putF "its_length" (.int ln) (putF "windows" (.ref ws) (putF "its_starts" (.ref st) (putF "its_rule" (.ref r) []))) = sceneF r st ws ln := by kernel_rfl

/-! ### evaluation: more of it -/
section
variable {K : PySem.W.Frag} {σ : L2.St} {G H H' : Hp} {ta tb te tx td : TE} {t u : TT} {x y z v : V} {r : R2}
/-- a list, new or old, that holds xs -/
def EvS (te : TE) (σ : L2.St) (G : Hp) (xs : List V) : Prop := ∀ H1, Ex G H1 → ∀ Q : VK, (∀ p H2, Ex H1 H2 → H2 p = some (.lst xs) → Q (.ref p) H2) → te σ H1 Q
def EvSU (te : TE) (σ : L2.St) (G : Hp) (xs : List V) : Prop := ∀ H1, Ex G H1 → ∀ Q : VK, (∀ p H2, Ex H1 H2 → H2 p = some (.tup xs) → Q (.ref p) H2) → te σ H1 Q
/-- a new list of which P is true -/
def EvP (te : TE) (σ : L2.St) (G : Hp) (P : List V → Prop) : Prop := ∀ H1, Ex G H1 → ∀ Q : VK, (∀ p H2 xs, P xs → H1 p = none → Ex H1 H2 → H2 p = some (.lst xs) → Q (.ref p) H2) → te σ H1 Q
theorem es_of {a : Addr} {xs : List V} (h : Ev te σ G (.ref a)) (hx : G a = some (.lst xs)) : EvS te σ G xs := fun H1 e Q q => h H1 e Q fun H2 e2 => q a H2 e2 (e2 a _ (e a _ hx))
theorem es_new {xs : List V} (h : EvL te σ G xs) : EvS te σ G xs := fun H1 e Q q => h H1 e Q fun p H2 _ e2 hp => q p H2 e2 hp
theorem esu_of {a : Addr} {xs : List V} (h : Ev te σ G (.ref a)) (hx : G a = some (.tup xs)) : EvSU te σ G xs := fun H1 e Q q => h H1 e Q fun H2 e2 => q a H2 e2 (e2 a _ (e a _ hx))
theorem esu_new {xs : List V} (h : EvU te σ G xs) : EvSU te σ G xs := fun H1 e Q q => h H1 e Q fun p H2 _ e2 hp => q p H2 e2 hp
theorem EvS.mono {xs : List V} (e : Ex G H) (h : EvS te σ G xs) : EvS te σ H xs := fun H1 a Q q => h H1 (e.trans a) Q q
theorem EvU.mono {xs : List V} (e : Ex G H) (h : EvU te σ G xs) : EvU te σ H xs := fun H1 a Q q => h H1 (e.trans a) Q q
theorem ev_fld {a C dx : Addr} {fs : List (Str × V)} {f : Str} (h : Ev ta σ G (.ref a)) (ho : G a = some (.ins C dx fs)) (hc : Cls K C) (hn : NoAttr K C f) (hl : fs.lookup f = some v) : Ev (tFld K ta f) σ G v := fun H1 e Q q =>
  h H1 e _ fun H2 e2 => ⟨a, C, dx, fs, v, rfl, e2 a _ (e a _ ho), hc, hn, hl, q H2 e2⟩
theorem ev_meth {a C dx : Addr} {fs : List (Str × V)} {m : Str} {sp : Sp} {vs : List V} {E : XK} {t : TA} (h : Ev ta σ G (.ref a)) (ho : G a = some (.ins C dx fs)) (hl : fs.lookup m = none) (ha : EvA t σ G vs) (hs : SpV sp (.ref a :: vs) G z) :
    Ev (tMeth C m sp [] E ta t) σ G z := fun H1 e Q q => h H1 e _ fun H2 e2 => ⟨a, dx, fs, rfl, e2 a _ (e a _ ho), hl, ha H2 (e.trans e2) _ fun H3 e3 => by
      rw [List.append_nil]
      exact hs H3 ((e.trans e2).trans e3) Q (fun H4 e4 => q H4 ((e2.trans e3).trans e4)) E⟩
theorem el_meth {a C dx : Addr} {fs : List (Str × V)} {m : Str} {sp : Sp} {vs xs : List V} {E : XK} {t : TA} (h : Ev ta σ G (.ref a)) (ho : G a = some (.ins C dx fs)) (hl : fs.lookup m = none) (ha : EvA t σ G vs) (hs : SpL sp (.ref a :: vs) G xs) :
    EvL (tMeth C m sp [] E ta t) σ G xs := fun H1 e Q q => h H1 e _ fun H2 e2 => ⟨a, dx, fs, rfl, e2 a _ (e a _ ho), hl, ha H2 (e.trans e2) _ fun H3 e3 => by
      rw [List.append_nil]
      exact hs H3 ((e.trans e2).trans e3) Q (fun p H4 hp e4 h4 => q p H4 (fresh_back (e2.trans e3) hp) ((e2.trans e3).trans e4) h4) E⟩
theorem ev_fn {sp : Sp} {vs : List V} {E : XK} {t : TA} (ha : EvA t σ G vs) (hs : SpV sp vs G z) : Ev (tCall sp [] E t) σ G z := ev_call ha (by rw [List.append_nil]; exact hs)
theorem el_fn {sp : Sp} {vs xs : List V} {E : XK} {t : TA} (ha : EvA t σ G vs) (hs : SpL sp vs G xs) : EvL (tCall sp [] E t) σ G xs := el_call ha (by rw [List.append_nil]; exact hs)
/-- promises of two shapes: a value, a new list -/
def SpR (P : List V → Hp → V → Prop) : Sp := fun vs H Q _ => ∃ z, P vs H z ∧ ∀ H', Ex H H' → Q z H'
def SpN (P : List V → Hp → List V → Prop) : Sp := fun vs H Q _ => ∃ xs, P vs H xs ∧ ∀ p H', H p = none → Ex H H' → H' p = some (.lst xs) → Q (.ref p) H'
theorem sp_r {P : List V → Hp → V → Prop} {vs : List V} (h : ∀ H1, Ex G H1 → P vs H1 z) : SpV (SpR P) vs G z := fun H1 e Q q E => ⟨z, h H1 e, fun H' e' => q H' e'⟩
theorem sp_n {P : List V → Hp → List V → Prop} {vs xs : List V} (h : ∀ H1, Ex G H1 → P vs H1 xs) : SpL (SpN P) vs G xs := fun H1 e Q q E => ⟨xs, h H1 e, fun p H' hp e' h' => q p H' hp e' h'⟩
theorem ev_isN : Ev ta σ G x → Ev (tOp (fun x y H Q => y = .non ∧ Q (.bl (decide (x = .non))) H) ta (tC .non)) σ G (.bl (decide (x = .non))) := fun h => ev_op h ev_c fun H1 _ _ q => ⟨rfl, q H1 (Ex.refl H1)⟩
theorem ev_notN : Ev ta σ G x → Ev (tOp (fun x y H Q => y = .non ∧ Q (.bl (!decide (x = .non))) H) ta (tC .non)) σ G (.bl (!decide (x = .non))) := fun h => ev_op h ev_c fun H1 _ _ q => ⟨rfl, q H1 (Ex.refl H1)⟩
/-- an item of a list, new or old; of a tuple -/
theorem ev_ixS {xs : List V} {i : Int} (h : EvS ta σ G xs) (hi : Ev tb σ G (.int i)) (ha : atI xs i = some v) : Ev (tOp (rIxL K) ta tb) σ G v := fun H1 e Q q =>
  h H1 e _ fun p H2 e2 hp => hi H2 (e.trans e2) _ fun H3 e3 => ⟨p, xs, i, v, rfl, rfl, sq_of (e3 p _ hp), ha, q H3 (e2.trans e3)⟩
theorem ev_ixU {xs : List V} {i : Int} (h : EvSU ta σ G xs) (hi : Ev tb σ G (.int i)) (ha : atI xs i = some v) : Ev (tOp (rIxT K) ta tb) σ G v := fun H1 e Q q =>
  h H1 e _ fun p H2 e2 hp => hi H2 (e.trans e2) _ fun H3 e3 => ⟨p, xs, i, v, rfl, rfl, st_of (e3 p _ hp), ha, q H3 (e2.trans e3)⟩
theorem ev_lenS {xs : List V} (h : EvS ta σ G xs) : Ev (tCB (rLenS K) (tCons ta tNil)) σ G (.int (xs.length : Int)) := fun H1 e Q q =>
  h H1 e _ fun p H2 e2 hp => ⟨p, xs, rfl, Or.inl (sq_of hp), q H2 e2⟩
theorem ev_lenU {xs : List V} (h : EvSU ta σ G xs) : Ev (tCB (rLenS K) (tCons ta tNil)) σ G (.int (xs.length : Int)) := fun H1 e Q q =>
  h H1 e _ fun p H2 e2 hp => ⟨p, xs, rfl, Or.inr (st_of hp), q H2 e2⟩
theorem el_listS {xs : List V} (h : EvS ta σ G xs) : EvL (tCB (rListS K) (tCons ta tNil)) σ G xs := fun H1 e Q q =>
  h H1 e _ fun p H2 e2 hp => ⟨p, xs, rfl, Or.inl (sq_of hp), fun l hl => q l _ (fresh_back e2 hl) (e2.trans (Ex.new hl)) upd_same⟩
theorem el_cat {xs ys : List V} (h : EvS ta σ G xs) (h' : EvS tb σ G ys) (hz : xs.length + ys.length ≤ 100000) : EvL (tOp rCat ta tb) σ G (xs ++ ys) := fun H1 e Q q =>
  h H1 e _ fun p H2 e2 hp => h' H2 (e.trans e2) _ fun p' H3 e3 hp' => ⟨p, p', xs, ys, rfl, rfl, e3 p _ hp, hp', sz_of hz, fun l hl => q l _ (fresh_back (e2.trans e3) hl) ((e2.trans e3).trans (Ex.new hl)) upd_same⟩
theorem ev_sum {ns : List Int} (h : EvS ta σ G (ns.map V.int)) : Ev (tCB (rSum K) (tCons ta tNil)) σ G (.int ns.sum) := fun H1 e Q q =>
  h H1 e _ fun p H2 e2 hp => ⟨p, ns, rfl, sq_of hp, q H2 e2⟩
theorem ev_max {ns : List Int} {M : Int} (h : EvS ta σ G (ns.map V.int)) (hM : M ∈ ns) (hle : ∀ y ∈ ns, y ≤ M) : Ev (tCB (rMax K) (tCons ta tNil)) σ G (.int M) := fun H1 e Q q =>
  h H1 e _ fun p H2 e2 hp => ⟨p, ns, rfl, sq_of hp, List.length_pos_of_mem hM, fun m h1 h2 => by
    have e1 := h2 M hM
    have e3 := hle m h1
    have : m = M := by omega
    rw [this]
    exact q H2 e2⟩
theorem ev_all {bs : List Bool} (h : EvS ta σ G (bs.map V.bl)) : Ev (tCB (rAll K) (tCons ta tNil)) σ G (.bl (bs.all id)) := fun H1 e Q q =>
  h H1 e _ fun p H2 e2 hp => ⟨p, bs, rfl, sq_of hp, q H2 e2⟩
theorem ev_min2 {i j : Int} (ha : Ev ta σ G (.int i)) (hb : Ev tb σ G (.int j)) : Ev (tCB (fun xs H Q => ∃ i j, xs = [.int i, .int j] ∧ Q (.int (if j < i then j else i)) H) (tCons ta (tCons tb tNil))) σ G (.int (if j < i then j else i)) := fun H1 e Q q =>
  ha H1 e _ fun H2 e2 => hb H2 (e.trans e2) _ fun H3 e3 => ⟨i, j, rfl, q H3 (e2.trans e3)⟩
theorem ev_int1 {i : Int} (ha : Ev ta σ G (.int i)) : Ev (tCB (fun xs H Q => (∃ i, xs = [.int i] ∧ Q (.int i) H) ∨ ∃ k, xs = [.bl k] ∧ Q (.int (if k then 1 else 0)) H) (tCons ta tNil)) σ G (.int i) := fun H1 e Q q =>
  ha H1 e _ fun H2 e2 => .inl ⟨i, rfl, q H2 e2⟩
theorem ev_intB {k : Bool} (ha : Ev ta σ G (.bl k)) : Ev (tCB (fun xs H Q => (∃ i, xs = [.int i] ∧ Q (.int i) H) ∨ ∃ k, xs = [.bl k] ∧ Q (.int (if k then 1 else 0)) H) (tCons ta tNil)) σ G (.int (if k then 1 else 0)) := fun H1 e Q q =>
  ha H1 e _ fun H2 e2 => .inr ⟨k, rfl, q H2 e2⟩
theorem ep_sorted {ns : List Int} (h : EvS ta σ G (ns.map V.int)) : EvP (tCB (rSortedI K) (tCons ta tNil)) σ G (fun xs => ∃ ns' : List Int, xs = ns'.map V.int ∧ ns'.Perm ns ∧ ns'.Pairwise (· ≤ ·)) := fun H1 e Q q =>
  h H1 e _ fun p H2 e2 hp => ⟨p, ns, rfl, sq_of hp, fun ns' l h1 h2 hl => q l _ _ ⟨ns', rfl, h1, h2⟩ (fresh_back e2 hl) (e2.trans (Ex.new hl)) upd_same⟩
/-- dicts: is a key there, its value -/
theorem ev_din {d : Addr} {kvs : List (Key × V)} {k : Key} (hk : Ev ta σ G (kV k)) (hd : Ev td σ G (.ref d)) (h : G d = some (.dK kvs)) : Ev (tDIn ta td) σ G (.bl (valV kvs k).isSome) := fun H1 e Q q =>
  hk H1 e _ fun H2 e2 => hd H2 (e.trans e2) _ fun H3 e3 => ⟨d, _, rfl, DGet.k (((e.trans e2).trans e3) d _ h), q H3 (e2.trans e3)⟩
theorem ev_dget {d : Addr} {kvs : List (Key × V)} {k : Key} (hd : Ev td σ G (.ref d)) (hk : Ev ta σ G (kV k)) (h : G d = some (.dK kvs)) (hv : valV kvs k = some v) : Ev (tDGet td ta) σ G v := fun H1 e Q q =>
  hd H1 e _ fun H2 e2 => hk H2 (e.trans e2) _ fun H3 e3 => ⟨d, v, rfl, hv ▸ DGet.k (((e.trans e2).trans e3) d _ h), q H3 (e2.trans e3)⟩
theorem ev_chain {r' : R2} {tc : TE} {k k' : Bool} {w : V} (ha : Ev ta σ G x) (hb : Ev tb σ G y) (hr : RV r x y G (.bl k)) (hc : k = true → Ev tc σ G w) (hr' : k = true → RV r' y w G (.bl k')) : Ev (tChain r r' ta tb tc) σ G (.bl (k && k')) := fun H1 e Q q =>
  ha H1 e _ fun H2 e2 => hb H2 (e.trans e2) _ fun H3 e3 => hr H3 ((e.trans e2).trans e3) _ fun H4 e4 => ⟨k, rfl, by
    cases k with
    | true =>
      show tc σ H4 fun w' H5 => r' y w' H5 Q
      exact hc rfl H4 (((e.trans e2).trans e3).trans e4) _ fun H5 e5 => hr' rfl H5 ((((e.trans e2).trans e3).trans e4).trans e5) Q fun H6 e6 => q H6 ((((e2.trans e3).trans e4).trans e5).trans e6)
    | false =>
      show Q (.bl false) H4
      exact q H4 ((e2.trans e3).trans e4)⟩
theorem et_andF (h : EvT t σ G false) : EvT (tAnd t u) σ G false := fun H1 e Q q => h H1 e _ q
theorem et_orT (h : EvT t σ G true) : EvT (tOr t u) σ G true := fun H1 e Q q => h H1 e _ q
theorem ev_andF (h : Ev ta σ G (.bl false)) : Ev (tAndV ta tb) σ G (.bl false) := fun H1 e Q q => h H1 e _ fun H2 e2 => ⟨false, rfl, q H2 e2⟩
theorem ev_orT (h : Ev ta σ G (.bl true)) : Ev (tOrV ta tb) σ G (.bl true) := fun H1 e Q q => h H1 e _ fun H2 e2 => ⟨true, rfl, q H2 e2⟩
theorem ev_ifT (h : EvT t σ G true) (h1 : Ev ta σ G v) : Ev (tIf t ta tb) σ G v := ev_if h (fun _ => h1) fun z => nomatch z
theorem ev_ifF (h : EvT t σ G false) (h1 : Ev tb σ G v) : Ev (tIf t ta tb) σ G v := ev_if h (fun z => nomatch z) fun _ => h1
theorem el_is {xs ys : List V} (h : EvL te σ G xs) (e : xs = ys) : EvL te σ G ys := e ▸ h
theorem es_is {xs ys : List V} (h : EvS te σ G xs) (e : xs = ys) : EvS te σ G ys := e ▸ h
/-- isinstance -/
theorem ev_isi {c : V} {tv cv : Value} {b : Bool} (ha : Ev ta σ G x) (hb : Ev tb σ G c) (hc : ClsV c cv) (ht : ∀ H1, Ex G H1 → TyX K H1 x tv) (hk : PySem.W.kitOne K tv cv = some b) : Ev (tCB (rIsi K) (tCons ta (tCons tb tNil))) σ G (.bl b) := fun H1 e Q q =>
  ha H1 e _ fun H2 e2 => hb H2 (e.trans e2) _ fun H3 e3 => ⟨x, c, tv, cv, b, rfl, hc, ht H3 ((e.trans e2).trans e3), hk, q H3 (e2.trans e3)⟩
end
/-! ### statements over what is known (G) and what stands (H) -/
section
variable {K : PySem.W.Frag} {σ : L2.St} {G H H' : Hp} {ta tb te tx td : TE} {t u : TT} {x y z v : V} {D : Ends} {tz tu tw : TS}
theorem x_asg {i : Nat} (e : Ex G H) (h : Ev te σ G v) (k : ∀ H1, Ex G H1 → Ex H H1 → tz D (σ.set i (some v)) H1) : tSeq (tAsg te (gName i)) tz D σ H := h H e _ fun H1 e1 => k H1 (e.trans e1) e1
theorem x_asgL {i : Nat} {xs : List V} (e : Ex G H) (h : EvL te σ G xs) (k : ∀ p H1, Ex G H1 → H p = none → Ex H H1 → H1 p = some (.lst xs) → tz D (σ.set i (some (.ref p))) H1) : tSeq (tAsg te (gName i)) tz D σ H := h H e _ fun p H1 hp e1 h1 => k p H1 (e.trans e1) hp e1 h1
theorem x_ret (e : Ex G H) (h : Ev te σ G v) (k : ∀ H1, Ex G H1 → Ex H H1 → D.rt v H1) : tRet te D σ H := h H e _ fun H1 e1 => k H1 (e.trans e1) e1
theorem x_retL {xs : List V} (e : Ex G H) (h : EvL te σ G xs) (k : ∀ p H1, Ex G H1 → H p = none → Ex H H1 → H1 p = some (.lst xs) → D.rt (.ref p) H1) : tRet te D σ H := h H e _ fun p H1 hp e1 h1 => k p H1 (e.trans e1) hp e1 h1
theorem x_retU {xs : List V} (e : Ex G H) (h : EvU te σ G xs) (k : ∀ p H1, Ex G H1 → H p = none → Ex H H1 → H1 p = some (.tup xs) → D.rt (.ref p) H1) : tRet te D σ H := h H e _ fun p H1 hp e1 h1 => k p H1 (e.trans e1) hp e1 h1
/-- an if whose test is known to be false, true -/
theorem x_no (e : Ex G H) (h : EvT t σ G false) (k : ∀ H1, Ex G H1 → Ex H H1 → tz D σ H1) : tSeq (tIfS t tu tNext) tz D σ H := h H e _ fun H1 e1 => by
  show tz D σ H1
  exact k H1 (e.trans e1) e1
theorem x_noL (e : Ex G H) (h : EvT t σ G false) (k : ∀ H1, Ex G H1 → Ex H H1 → D.nx σ H1) : tIfS t tu tNext D σ H := h H e _ fun H1 e1 => by
  show D.nx σ H1
  exact k H1 (e.trans e1) e1
theorem x_else (e : Ex G H) (h : EvT t σ G false) (k : ∀ H1, Ex G H1 → Ex H H1 → tw D σ H1) : tIfS t tu tw D σ H := h H e _ fun H1 e1 => by
  show tw D σ H1
  exact k H1 (e.trans e1) e1
theorem x_yes (e : Ex G H) (h : EvT t σ G true) (k : ∀ H1, Ex G H1 → Ex H H1 → tu { D with nx := tz D } σ H1) : tSeq (tIfS t tu tw) tz D σ H := h H e _ fun H1 e1 => by
  show tu { D with nx := tz D } σ H1
  exact k H1 (e.trans e1) e1
theorem x_if {b : Bool} (e : Ex G H) (h : EvT t σ G b) (h1 : b = true → ∀ H1, Ex G H1 → Ex H H1 → tu { D with nx := tz D } σ H1) (h2 : b = false → ∀ H1, Ex G H1 → Ex H H1 → tz D σ H1) : tSeq (tIfS t tu tNext) tz D σ H := h H e _ fun H1 e1 => by
  cases b with
  | true => exact h1 rfl H1 (e.trans e1) e1
  | false => exact h2 rfl H1 (e.trans e1) e1
/-- xs.extend(t), t a tuple; xs.extend(ys), ys a new list -/
theorem s_extT {l b : Addr} {xs zs : List V} (hl : H l = some (.lst xs)) (ha : Ev ta σ H (.ref l)) (h : Ev te σ H (.ref b)) (hb : H b = some (.tup zs)) (hz : xs.length + zs.length ≤ 100000) (k : ∀ H1, Ex H H1 → D.nx σ (upd H1 l (.lst (xs ++ zs)))) :
    tDrop (tBM K "list" (rExtendT K) ta (tCons te tNil)) D σ H := ha H (Ex.refl H) _ fun H1 e1 =>
  ⟨Or.inl ⟨rfl, xs, sq_of (e1 l _ hl)⟩, h H1 e1 _ fun H2 e2 => ⟨l, b, xs, zs, rfl, rfl, e2 l _ (e1 l _ hl), st_of (e2 b _ (e1 b _ hb)), sz_of hz, k H2 (e1.trans e2)⟩⟩
theorem s_extL {l : Addr} {xs zs : List V} (hl : H l = some (.lst xs)) (ha : Ev ta σ H (.ref l)) (h : EvS te σ H zs) (hz : xs.length + zs.length ≤ 100000) (k : ∀ H1, Ex H H1 → D.nx σ (upd H1 l (.lst (xs ++ zs)))) :
    tDrop (tBM K "list" rExtend ta (tCons te tNil)) D σ H := ha H (Ex.refl H) _ fun H1 e1 =>
  ⟨Or.inl ⟨rfl, xs, sq_of (e1 l _ hl)⟩, h H1 e1 _ fun p H2 e2 hp => ⟨l, p, xs, zs, rfl, rfl, e2 l _ (e1 l _ hl), hp, sz_of hz, k H2 (e1.trans e2)⟩⟩
/-- o.f = e -/
theorem x_fld {a C dx : Addr} {fs : List (Str × V)} {f : Str} (e : Ex G H) (hv : Ev te σ G y) (ha : Ev ta σ G (.ref a)) (ho : H a = some (.ins C dx fs)) (hc : Cls K C) (hn : NoAttr K C f) (hl : fs.length < 1000) (k : ∀ H1, Ex H H1 → tz D σ (upd H1 a (.ins C dx (putF f y fs)))) :
    tSeq (sFld K ta te f) tz D σ H := hv H e _ fun H1 e1 => ha H1 (e.trans e1) _ fun H2 e2 => ⟨a, C, dx, fs, rfl, e2 _ _ (e1 _ _ ho), hc, hn, hl, k H2 (e1.trans e2)⟩
theorem x_fldL {a C dx : Addr} {fs : List (Str × V)} {f : Str} {xs : List V} (e : Ex G H) (hv : EvL te σ G xs) (ha : Ev ta σ G (.ref a)) (ho : H a = some (.ins C dx fs)) (hc : Cls K C) (hn : NoAttr K C f) (hl : fs.length < 1000)
    (k : ∀ p H1, H p = none → Ex H H1 → H1 p = some (.lst xs) → tz D σ (upd H1 a (.ins C dx (putF f (.ref p) fs)))) : tSeq (sFld K ta te f) tz D σ H := hv H e _ fun p H1 hp e1 h1 => ha H1 (e.trans e1) _ fun H2 e2 => ⟨a, C, dx, fs, rfl, e2 _ _ (e1 _ _ ho), hc, hn, hl, k p H2 hp (e1.trans e2) (e2 _ _ h1)⟩
theorem x_drop (e : Ex G H) (h : Ev te σ G v) (k : ∀ H1, Ex G H1 → Ex H H1 → tz D σ H1) : tSeq (tDrop te) tz D σ H := h H e _ fun H1 e1 => k H1 (e.trans e1) e1
end
/-! ### loops -/
section
variable {K : PySem.W.Frag} {σ : L2.St} {G H H' : Hp} {ta tb te tl : TE} {t : TT} {D : Ends} {tz tu : TS}
theorem g_pair {T : Addr} {x y : V} {i j : Nat} {Q : L2.St → Hp → Prop} (h : SqT K H T [x, y]) (q : Q ((σ.set i (some x)).set j (some y)) H) : gTup K 2 (gCons (gName i) (gCons (gName j) gNil)) (.ref T) σ H Q :=
  ⟨T, [x, y], rfl, h, rfl, x, [y], rfl, y, [], rfl, rfl, q⟩
/-- for i, x in enumerate(xs) -/
theorem x_forE {p : Addr} {xs : List V} {i j : Nat} (e : Ex G H) (h : Ev tl σ G (.ref p)) (hp : G p = some (.lst xs)) (Pv : Nat → L2.St → Hp → Prop) (h0 : ∀ H1, Ex G H1 → Ex H H1 → Pv 0 σ H1) (hG : ∀ m σ' H', m ≤ xs.length → Pv m σ' H' → Ex G H')
    (hs : ∀ m x σ' H' H'', xs[m]? = some x → Pv m σ' H' → Ex H' H'' → tu { D with nx := Pv (m + 1), ct := Pv (m + 1), bk := tz D } ((σ'.set i (some (.int (m : Int)))).set j (some x)) H'') (hd : ∀ σ' H', Pv xs.length σ' H' → tz D σ' H') :
    tSeq (tFor (iEnum K (tCons tl tNil)) (gTup K 2 (gCons (gName i) (gCons (gName j) gNil))) tu) tz D σ H := h H e _ fun H1 e1 => by
  refine ⟨p, xs, rfl, sq_of (e1 p _ (e p _ hp)), for_it (D := { D with nx := tz D }) walk_enum Pv (h0 H1 (e.trans e1) e1) (fun m σ' H' hm q => sq_of (hG m σ' H' hm q p _ hp)) (fun m x σ' H' H'' hm q y => ?_) hd⟩
  obtain ⟨T, a, b, rfl, hT, rfl, ha, hb⟩ := y
  cases ha
  exact g_pair (st_of upd_same) (hs m b σ' H' _ hb q (Ex.new hT))
/-- .. the last statement -/
theorem x_forEL {p : Addr} {xs : List V} {i j : Nat} (e : Ex G H) (h : Ev tl σ G (.ref p)) (hp : G p = some (.lst xs)) (Pv : Nat → L2.St → Hp → Prop) (h0 : ∀ H1, Ex G H1 → Ex H H1 → Pv 0 σ H1) (hG : ∀ m σ' H', m ≤ xs.length → Pv m σ' H' → Ex G H')
    (hs : ∀ m x σ' H' H'', xs[m]? = some x → Pv m σ' H' → Ex H' H'' → tu { D with nx := Pv (m + 1), ct := Pv (m + 1), bk := D.nx } ((σ'.set i (some (.int (m : Int)))).set j (some x)) H'') (hd : ∀ σ' H', Pv xs.length σ' H' → D.nx σ' H') :
    tFor (iEnum K (tCons tl tNil)) (gTup K 2 (gCons (gName i) (gCons (gName j) gNil))) tu D σ H := h H e _ fun H1 e1 => by
  refine ⟨p, xs, rfl, sq_of (e1 p _ (e p _ hp)), for_it walk_enum Pv (h0 H1 (e.trans e1) e1) (fun m σ' H' hm q => sq_of (hG m σ' H' hm q p _ hp)) (fun m x σ' H' H'' hm q y => ?_) hd⟩
  obtain ⟨T, a, b, rfl, hT, rfl, ha, hb⟩ := y
  cases ha
  exact g_pair (st_of upd_same) (hs m b σ' H' _ hb q (Ex.new hT))
/-- for x in xs -/
theorem x_for {p : Addr} {xs : List V} {g : TG} (e : Ex G H) (h : Ev tl σ G (.ref p)) (hp : ∀ H1, Ex G H1 → SqL K H1 p xs) (Pv : Nat → L2.St → Hp → Prop) (h0 : ∀ H1, Ex G H1 → Ex H H1 → Pv 0 σ H1) (hG : ∀ m σ' H', m ≤ xs.length → Pv m σ' H' → SqL K H' p xs)
    (hs : ∀ m x σ' H', xs[m]? = some x → Pv m σ' H' → g x σ' H' fun σ2 H2 => tu { D with nx := Pv (m + 1), ct := Pv (m + 1), bk := tz D } σ2 H2) (hd : ∀ σ' H', Pv xs.length σ' H' → tz D σ' H') :
    tSeq (tFor (iList K tl) g tu) tz D σ H := h H e _ fun H1 e1 => ⟨p, rfl, ⟨xs, hp H1 (e.trans e1)⟩, for_list (D := { D with nx := tz D }) Pv (h0 H1 (e.trans e1) e1) hG hs hd⟩
theorem x_forLst {p : Addr} {xs : List V} {g : TG} (e : Ex G H) (h : Ev tl σ G (.ref p)) (hp : ∀ H1, Ex G H1 → SqL K H1 p xs) (Pv : Nat → L2.St → Hp → Prop) (h0 : ∀ H1, Ex G H1 → Ex H H1 → Pv 0 σ H1) (hG : ∀ m σ' H', m ≤ xs.length → Pv m σ' H' → SqL K H' p xs)
    (hs : ∀ m x σ' H', xs[m]? = some x → Pv m σ' H' → g x σ' H' fun σ2 H2 => tu { D with nx := Pv (m + 1), ct := Pv (m + 1), bk := D.nx } σ2 H2) (hd : ∀ σ' H', Pv xs.length σ' H' → D.nx σ' H') :
    tFor (iList K tl) g tu D σ H := h H e _ fun H1 e1 => ⟨p, rfl, ⟨xs, hp H1 (e.trans e1)⟩, for_list Pv (h0 H1 (e.trans e1) e1) hG hs hd⟩
end
/-! ### comprehensions -/
section
variable {K : PySem.W.Frag} {σ : L2.St} {G H H' : Hp} {ta tb te tl : TE} {t : TT} {g : TG} {wi : TI} {vs : List Nat}
/-- what is walked: n turns that yield as Y tells, while all that is known stands -/
def EvI (wi : TI) (σ : L2.St) (G : Hp) (n : Nat) (Y : Nat → Hp → V → Hp → Prop) : Prop := ∀ H1, Ex G H1 → ∀ R : It → Hp → Prop, (∀ J H2 Gd, Ex H1 H2 → Walk J n Gd Y → (∀ H3, Ex H2 H3 → Gd H3) → R J H2) → wi σ H1 R
/-- the target at turn i: the slots are then σ2 -/
def Tg (g : TG) (Y : Nat → Hp → V → Hp → Prop) (σ : L2.St) (i : Nat) (σ2 : L2.St) : Prop := ∀ x H' H'', Y i H' x H'' → Ex H' H'' ∧ ∀ Kk : L2.St → Hp → Prop, Kk σ2 H'' → g x σ H'' Kk
theorem ei_list {xs : List V} (h : EvS tl σ G xs) : EvI (iList K tl) σ G xs.length (YAt xs) := fun H1 e R q => h H1 e _ fun p H2 e2 hp => ⟨p, rfl, ⟨xs, sq_of hp⟩, q _ H2 _ e2 walk_list fun H3 e3 => sq_of (e3 p _ hp)⟩
theorem ei_listK {p : Addr} {xs : List V} (h : Ev tl σ G (.ref p)) (hp : ∀ H1, Ex G H1 → SqL K H1 p xs) : EvI (iList K tl) σ G xs.length (YAt xs) := fun H1 e R q => h H1 e _ fun H2 e2 => ⟨p, rfl, ⟨xs, hp H2 (e.trans e2)⟩, q _ H2 _ e2 walk_list fun H3 e3 => hp H3 ((e.trans e2).trans e3)⟩
theorem ei_range {n : Int} {N : Nat} (h : Ev tl σ G (.int n)) (hn : n = (N : Int)) (hz : N ≤ 100000) : EvI (iRng1 (tCons tl tNil)) σ G N (YFn fun i => .int (i : Int)) := fun H1 e R q => h H1 e _ fun H2 e2 => ⟨n, rfl, by omega, by omega, by
  have e3 : n.toNat = N := by omega
  rw [e3]
  exact q _ H2 (fun _ => True) e2 (walk_range.mono (fun _ h => h) fun i H x H' _ _ y => ⟨y.1, y.2.trans (by show V.int (0 + (i : Int)) = V.int (i : Int); rw [Int.zero_add])⟩) fun _ _ => trivial⟩
theorem ei_enum {xs : List V} (h : EvS tl σ G xs) : EvI (iEnum K (tCons tl tNil)) σ G xs.length (YPair (fun i => some (.int (i : Nat))) (fun i => xs[i]?)) := fun H1 e R q => h H1 e _ fun p H2 e2 hp => ⟨p, xs, rfl, sq_of hp, q _ H2 _ e2 walk_enum fun H3 e3 => sq_of (e3 p _ hp)⟩
theorem tg_at {xs : List V} {j i : Nat} {x : V} (h : xs[i]? = some x) : Tg (gName j) (YAt xs) σ i (σ.set j (some x)) := fun y H' H'' ⟨e, hy⟩ => by
  subst e
  rw [h] at hy
  cases hy
  exact ⟨Ex.refl _, fun _ q => q⟩
theorem tg_fn {f : Nat → V} {j i : Nat} : Tg (gName j) (YFn f) σ i (σ.set j (some (f i))) := fun y H' H'' ⟨e, hy⟩ => by
  subst e hy
  exact ⟨Ex.refl _, fun _ q => q⟩
theorem tg_pair {f1 f2 : Nat → Option V} {j1 j2 i : Nat} {x y : V} (h1 : f1 i = some x) (h2 : f2 i = some y) : Tg (gTup K 2 (gCons (gName j1) (gCons (gName j2) gNil))) (YPair f1 f2) σ i ((σ.set j1 (some x)).set j2 (some y)) := fun z H' H'' hz => by
  obtain ⟨T, a, b, rfl, hT, rfl, ha, hb⟩ := hz
  rw [h1] at ha
  rw [h2] at hb
  cases ha
  cases hb
  exact ⟨Ex.new hT, fun _ q => ⟨T, _, rfl, st_of upd_same, rfl, x, _, rfl, y, _, rfl, rfl, q⟩⟩
theorem et_yes : EvT tYes σ G true := fun H1 _ _ q => q H1 (Ex.refl H1)
theorem el_comp {n : Nat} {Y : Nat → Hp → V → Hp → Prop} (hI : EvI wi σ G n Y) (S : Nat → L2.St) (hT : ∀ i, i < n → Tg g Y (wipe σ vs) i (S i)) (hw : ∀ i, i < n → wipe (S i) vs = wipe σ vs) (f : Nat → Bool) (v : Nat → V)
    (ht : ∀ i, i < n → EvT t (S i) G (f i)) (he : ∀ i, i < n → f i = true → Ev te (S i) G (v i)) (hz : n ≤ 40000) : EvL (tLc wi g t te vs) σ G (given n f v) := fun H0 e Q q => hI H0 e _ fun J H1 Gd e1 w hG Dl hD =>
  lc_it w (Cw H1 f v Dl) ⟨hD, Ex.new hD, upd_same⟩ (fun i H' _ p => hG H' p.2.1) (fun i x H' H'' hi p y => by
    obtain ⟨e2, hg⟩ := hT i hi x H' H'' y
    refine hg _ ⟨hw i hi, ?_⟩
    exact cw_turn (H := H1) ⟨p.1, p.2.1.trans e2, e2 _ _ p.2.2⟩ (by omega) ((ht i hi).mono (e.trans e1)) fun hf => (he i hi hf).mono (e.trans e1)) (fun H' p => q Dl H' (fresh_back e1 p.1) (e1.trans p.2.1) p.2.2)
theorem given_list {α : Type} (ns : List α) (d : α) (F : α → Bool) (W : α → V) : given ns.length (fun i => F (ns.getD i d)) (fun i => W (ns.getD i d)) = (ns.filter F).map W := by
  have h : ∀ l : List α, (List.range l.length).map (fun i => l.getD i d) = l := fun l => by
    refine List.ext_getElem (by simp) fun i h1 h2 => ?_
    simp [List.getD_eq_getElem?_getD, List.getElem?_eq_getElem h2]
  unfold given
  conv => rhs; rw [← h ns]
  rw [List.filter_map, List.map_map]
  rfl
/-- [e for x in xs if t], xs the values of ns -/
theorem el_map {α : Type} {xs : List V} {ns : List α} {φ : α → V} {j : Nat} (d : α) (h : EvS tl σ G xs) (hx : xs = ns.map φ) (F : α → Bool) (W : α → V) (hw : ∀ x, wipe ((wipe σ vs).set j (some x)) vs = wipe σ vs)
    (ht : ∀ x ∈ ns, EvT t ((wipe σ vs).set j (some (φ x))) G (F x)) (he : ∀ x ∈ ns, F x = true → Ev te ((wipe σ vs).set j (some (φ x))) G (W x)) (hz : ns.length ≤ 40000) : EvL (tLc (iList K tl) (gName j) t te vs) σ G ((ns.filter F).map W) := by
  subst hx
  have hm : ∀ i, i < (ns.map φ).length → ns.getD i d ∈ ns ∧ (ns.map φ)[i]? = some (φ (ns.getD i d)) := fun i hi => by
    rw [List.length_map] at hi
    rw [List.getD_eq_getElem?_getD, List.getElem?_eq_getElem hi, List.getElem?_map, List.getElem?_eq_getElem hi]
    exact ⟨List.getElem_mem hi, rfl⟩
  have k := el_comp (g := gName j) (t := t) (te := te) (wi := iList K tl) (ei_list h) (fun i => (wipe σ vs).set j (some (φ (ns.getD i d)))) (fun i hi => tg_at (hm i hi).2) (fun i _ => hw _) (fun i => F (ns.getD i d)) (fun i => W (ns.getD i d)) (fun i hi => ht _ (hm i hi).1) (fun i hi => he _ (hm i hi).1) (by rw [List.length_map]; exact hz)
  rw [List.length_map, given_list] at k
  exact k
end
/-- the heap without some addresses -/
def hide (H : Hp) (l : List Addr) : Hp := fun b => if b ∈ l then none else H b
theorem hide_in {H : Hp} {l : List Addr} {b : Addr} (h : b ∈ l) : hide H l b = none := if_pos h
theorem hide_out {H : Hp} {l : List Addr} {b : Addr} (h : b ∉ l) : hide H l b = H b := if_neg h
theorem hide_ex {H : Hp} {l : List Addr} : Ex (hide H l) H := fun b o e => by
  unfold hide at e
  split at e
  · cases e
  · exact e
/-- an object stored twice, other things laid in between -/
theorem upd_upd_of {H H' : Hp} {a : Addr} {o u : HO} (_e : Ex (upd H a o) H') : upd H' a u = upd H' a u := rfl
/-- all but some addresses stay -/
def ExB (l : List Addr) (H H' : Hp) : Prop := ∀ b o, b ∉ l → H b = some o → H' b = some o
theorem ExB.refl {l : List Addr} {H : Hp} : ExB l H H := fun _ _ _ h => h
theorem ExB.trans {l : List Addr} {H H1 H2 : Hp} (a : ExB l H H1) (b : ExB l H1 H2) : ExB l H H2 := fun x o hx h => b x o hx (a x o hx h)
theorem ExB.of {l : List Addr} {H H' : Hp} (e : Ex H H') : ExB l H H' := fun b o _ h => e b o h
theorem ExB.ex {l : List Addr} {G H H' : Hp} (e : ExB l H H') (g : Ex G H) (hn : ∀ b ∈ l, G b = none) : Ex G H' := fun b o h => e b o (fun z => by rw [hn b z] at h; cases h) (g b o h)
theorem ExB.upd {l : List Addr} {H : Hp} {a : Addr} {o : HO} (h : a ∈ l) : ExB l H (upd H a o) := fun b u hb e => by
  rw [upd_ne (fun z => hb (by rw [z]; exact h))]
  exact e
theorem ExB.mono {l m : List Addr} {H H' : Hp} (e : ExB l H H') (h : ∀ b ∈ l, b ∈ m) : ExB m H H' := fun b o hb z => e b o (fun q => hb (h b q)) z
end RS
end

section
set_option Elab.async false
set_option linter.all false
set_option maxRecDepth 100000
set_option maxHeartbeats 4000000
namespace RS
open PySem PySem.Spec PyProof.Rows L2 Evl
/-! ### comparisons whose answer is known -/
section
variable {G : Hp} {x y : V} {b : Bool}
theorem rv_eqB (hs : scal x y = true) (h : decide (x = y) = b) : RV rEq x y G (.bl b) := fun H1 _ _ q => ⟨hs, by rw [h]; exact q H1 (Ex.refl H1)⟩
theorem rv_neB (hs : scal x y = true) (h : (!decide (x = y)) = b) : RV rNe x y G (.bl b) := fun H1 _ _ q => ⟨hs, by rw [h]; exact q H1 (Ex.refl H1)⟩
theorem rv_eqI {i j : Int} (h : decide (i = j) = b) : RV rEq (.int i) (.int j) G (.bl b) := rv_eqB rfl (by
  rw [← h]
  by_cases e : i = j
  · rw [e]; simp
  · rw [decide_eq_false e]
    exact decide_eq_false fun z => e (V.int.inj z))
theorem rv_neI {i j : Int} (h : (!decide (i = j)) = b) : RV rNe (.int i) (.int j) G (.bl b) := rv_neB rfl (by
  rw [← h]
  by_cases e : i = j
  · rw [e]; simp
  · rw [decide_eq_false e, decide_eq_false fun z => e (V.int.inj z)])
theorem rv_eqS {i j : Str} (h : decide (i = j) = b) : RV rEq (.str i) (.str j) G (.bl b) := rv_eqB rfl (by
  rw [← h]
  by_cases e : i = j
  · rw [e]; simp
  · rw [decide_eq_false e]
    exact decide_eq_false fun z => e (V.str.inj z))
theorem rv_neS {i j : Str} (h : (!decide (i = j)) = b) : RV rNe (.str i) (.str j) G (.bl b) := rv_neB rfl (by
  rw [← h]
  by_cases e : i = j
  · rw [e]; simp
  · rw [decide_eq_false e, decide_eq_false fun z => e (V.str.inj z)])
theorem rv_B {g : Int → Int → Bool} {i j : Int} (h : g i j = b) : RV (rI0 fun i j => .bl (g i j)) (.int i) (.int j) G (.bl b) := fun H1 _ Q q => ⟨i, j, rfl, rfl, by
  show Q (V.bl (g i j)) H1
  rw [h]
  exact q H1 (Ex.refl H1)⟩
end
theorem iteT' {A B : Prop} {b : Bool} (hb : b = true) (h : A) : if b = true then A else B := by
  rw [hb]
  exact h
theorem iteF' {A B : Prop} {b : Bool} (hb : b = false) (h : B) : if b = true then A else B := by
  rw [hb]
  exact h
theorem start_eq (N : List Str) (vs : List V) : start N vs = vs.map some ++ List.replicate (N.length - vs.length) none := rfl
/-! ### a def, a method, an __init__ that keep their promises -/
structure CalG (P : Program) (w : World) (K : PySem.W.Frag) (mg : Str → Option Value) (base : Heap) (k : Nat) (x : Str) (f : Addr) (fd : FuncData) (ps : List Str) (sp : Sp) : Prop where
  gl : mg x = some (.ref f)
  kp : PySem.W.keepIn K (.ref f) = true
  ok : FnOk P w K mg base CX0 k f fd ps sp
  b : Binds K fd ps []
structure CalM (P : Program) (w : World) (K : PySem.W.Frag) (mg : Str → Option Value) (base : Heap) (k : Nat) (C : Addr) (m : Str) (f : Addr) (fd : FuncData) (ps : List Str) (sp : Sp) : Prop where
  at_ : Meth K C m f
  ok : FnOk P w K mg base CX0 k f fd ps sp
  b : Binds K fd ps []
structure CalI (P : Program) (w : World) (K : PySem.W.Frag) (mg : Str → Option Value) (base : Heap) (k : Nat) (f : Addr) (fd : FuncData) (ps : List Str) (sp : Sp) : Prop where
  ok : FnOk P w K mg base CX0 k f fd ps sp
  b : Binds K fd ps []
section
variable {P : Program} {w : World} {K : PySem.W.Frag} {mg : Str → Option Value} {base : Heap}
/-! ### wholes -/
def sp_is_integer : Sp := SpR fun vs _ z => ∃ i, vs = [.int i] ∧ z = .bl true
theorem ok_is_integer (T : Txt K mg) : ∃ fd, CalG P w K mg base 1 "is_integer" (He.ga K "is_integer") fd ["value"] sp_is_integer := by
  obtain ⟨fd, F⟩ := T.f_is_integer
  refine ⟨fd, T.g_is_integer, F.kp, F.ok sc_is_integer (fun vs H Q E h => ?_) (fun cdv A outer s H vs Q E hr h => ?_), F.bindsN fun _ _ _ _ _ _ us hl => match us, hl with | [_], _ => rfl⟩
  · obtain ⟨_, ⟨i, rfl, _⟩, _⟩ := h
    rfl
  · obtain ⟨z, ⟨i, rfl, rfl⟩, k⟩ := h
    refine ⟨_, PSs.nox (pss_one (ps_ret (pe_and (pe_callB call_isi (by rfl) T.b_isinstance (by decide +kernel) (pa_cons (pv 0) (pa_cons (pe_bltn (v := .ty "int") (u := .type "int") (by rfl) T.b_int (by decide +kernel) rfl) pa_nil))) (pe_one (pe_not (pe_callB call_isi (by rfl) T.b_isinstance (by decide +kernel) (pa_cons (pv 0) (pa_cons (pe_bltn (v := .ty "bool") (u := .type "bool") (by rfl) T.b_bool (by decide +kernel) rfl) pa_nil)))))))), ?_⟩
    exact x_ret (Ex.refl H) (ev_andV (ev_isi (b := true) (ev_var rfl) ev_c (.ty _) (fun _ _ => .base (.int i)) (kit_ty (by decide +kernel))) fun _ => ev_notV (ev_isi (b := false) (ev_var rfl) ev_c (.ty _) (fun _ _ => .base (.int i)) (kit_ty (by decide +kernel)))) fun H1 e _ => k H1 e
theorem v_is_integer {G : Hp} (i : Int) : SpV sp_is_integer [.int i] G (.bl true) := sp_r fun _ _ => ⟨i, rfl, rfl⟩
def sp_is_between : Sp := SpR fun vs _ z => ∃ i lo hi, vs = [.int i, .int lo, .int hi] ∧ z = .bl (decide (lo ≤ i) && decide (i ≤ hi))
theorem ok_is_between (T : Txt K mg) : ∃ fd, CalG P w K mg base 2 "is_between" (He.ga K "is_between") fd ["value", "low", "high"] sp_is_between := by
  obtain ⟨fd_is_integer, c_is_integer⟩ := ok_is_integer (P := P) (w := w) (base := base) T
  obtain ⟨fd, F⟩ := T.f_is_between
  refine ⟨fd, T.g_is_between, F.kp, F.ok sc_is_between (fun vs H Q E h => ?_) (fun cdv A outer s H vs Q E hr h => ?_), F.bindsN fun _ _ _ _ _ _ us hl => match us, hl with | [_, _, _], _ => rfl⟩
  · obtain ⟨_, ⟨i, lo, hi, rfl, _⟩, _⟩ := h
    rfl
  · obtain ⟨z, ⟨i, lo, hi, rfl, rfl⟩, k⟩ := h
    refine ⟨_, PSs.nox (pss_one (ps_ret (pe_and (pe_call c_is_integer.ok (hr.mono (by decide)) (by rfl) c_is_integer.gl c_is_integer.kp c_is_integer.b .nil pass0 (pa_cons (pv 0) pa_nil)) (pe_one (pe_chain op_le op_le (pv 1) (pv 0) (pv 2)))))), ?_⟩
    exact x_ret (Ex.refl H) (ev_andV (ev_fn (ea_cons (ev_var rfl) ea_nil) (v_is_integer i)) fun _ => ev_chain (ev_var rfl) (ev_var rfl) rv_I0 (fun _ => ev_var rfl) (fun _ => rv_I0)) fun H1 e _ => k H1 e
theorem v_is_between {G : Hp} (i lo hi : Int) : SpV sp_is_between [.int i, .int lo, .int hi] G (.bl (decide (lo ≤ i) && decide (i ≤ hi))) := sp_r fun _ _ => ⟨i, lo, hi, rfl, rfl⟩
end
end RS
end

section
set_option Elab.async false
set_option linter.all false
set_option maxRecDepth 100000
set_option maxHeartbeats 4000000
namespace RS
open PySem PySem.Spec PyProof.Rows L2 Evl
/-! ### a rule that stands -/
structure RA where
  r : Addr
  dx : Addr
  l : Addr
  t : Addr
  s : Addr
def sumsV (gs : List Int) : List V := (List.range (gs.length + 1)).map fun k => V.int (pre gs k)
structure RuleA (K : PySem.W.Frag) (G : Hp) (a : RA) (gs : List Int) (n : Nat) : Prop where
  o : G a.r = some (.ins (cRule K) a.dx (ruleF a.l a.t a.s))
  l : G a.l = some (.lst (gs.map V.int))
  t : G a.t = some (.tup [.str "repeat", .int n])
  s : G a.s = some (.lst (sumsV gs))
  ok : RuleOk gs n
  hi : ∀ g ∈ gs, g ≤ 1000
  sz : gs.length ≤ 20
theorem RuleA.mono {K : PySem.W.Frag} {G H : Hp} {a : RA} {gs : List Int} {n : Nat} (R : RuleA K G a gs n) (e : Ex G H) : RuleA K H a gs n :=
  ⟨e _ _ R.o, e _ _ R.l, e _ _ R.t, e _ _ R.s, R.ok, R.hi, R.sz⟩
theorem pre_hi {gs : List Int} (h : ∀ g ∈ gs, g ≤ 1000) (k : Nat) : pre gs k ≤ 1000 * (gs.length : Int) := by
  have h0 : ∀ l : List Int, (∀ g ∈ l, g ≤ 1000) → l.sum ≤ 1000 * (l.length : Int) := by
    intro l
    induction l with
    | nil => intro _; simp
    | cons a r ih =>
      intro hl
      have h1 := ih fun g hg => hl g (List.mem_cons_of_mem _ hg)
      have h2 := hl a List.mem_cons_self
      rw [List.sum_cons, List.length_cons]
      omega
  have h1 := h0 (gs.take k) fun g hg => h g (List.mem_of_mem_take hg)
  have h2 : (gs.take k).length ≤ gs.length := by rw [List.length_take]; omega
  unfold pre
  omega
theorem pre_ge0 {gs : List Int} {n : Nat} (R : RuleOk gs n) {k : Nat} (h : k ≤ gs.length) : 0 ≤ pre gs k := by
  have := pre_mono R (Nat.zero_le k) h
  rw [pre_zero] at this
  omega
theorem RuleA.per_le {K : PySem.W.Frag} {G : Hp} {a : RA} {gs : List Int} {n : Nat} (R : RuleA K G a gs n) : per gs n ≤ 20000 := by
  have h1 := pre_hi R.hi gs.length
  have h2 := pre_ge0 R.ok (k := uu gs n) (by unfold uu; omega)
  have h3 := R.sz
  unfold per
  omega
theorem sumsV_len (gs : List Int) : (sumsV gs).length = gs.length + 1 := by
  unfold sumsV
  rw [List.length_map, List.length_range]
theorem sumsV_at {gs : List Int} {k : Nat} (h : k ≤ gs.length) : (sumsV gs)[k]? = some (.int (pre gs k)) := by
  unfold sumsV
  rw [List.getElem?_map, List.getElem?_range (by omega)]
  rfl
theorem atI_neg {xs : List V} {v : V} (h0 : 0 < xs.length) (h : xs[xs.length - 1]? = some v) : atI xs (-1) = some v := by
  unfold atI ixN
  rw [if_neg (by decide), if_pos (by omega)]
  have e : (-1 + (xs.length : Int)).toNat = xs.length - 1 := by omega
  rw [e]
  exact h
theorem sumsV_last (gs : List Int) : atI (sumsV gs) (-1) = some (.int (pre gs gs.length)) := by
  refine atI_neg (by rw [sumsV_len]; omega) ?_
  rw [sumsV_len]
  exact sumsV_at (Nat.le_refl _)
theorem sumsV_atI {gs : List Int} {k : Nat} {i : Int} (e : i = (k : Int)) (h : k ≤ gs.length) : atI (sumsV gs) i = some (.int (pre gs k)) := by
  rw [e]
  exact atI_nat (sumsV_at h)
theorem nend : ¬ (("repeat" : Str) = "end") := by decide +kernel
theorem ntimes : ¬ (("repeat" : Str) = "times") := by decide +kernel
section
variable {P : Program} {w : World} {K : PySem.W.Frag} {mg : Str → Option Value} {base : Heap} {G : Hp} {a : RA} {gs : List Int} {n : Nat} {σ : L2.St} {ta : TE}
theorem e_listed (T : Txt K mg) (R : RuleA K G a gs n) (h : Ev ta σ G (.ref a.r)) : Ev (tFld K ta "listed") σ G (.ref a.l) := ev_fld h R.o T.c_Rule T.n_Rule_listed lk_listed
theorem e_ending (T : Txt K mg) (R : RuleA K G a gs n) (h : Ev ta σ G (.ref a.r)) : Ev (tFld K ta "ending") σ G (.ref a.t) := ev_fld h R.o T.c_Rule T.n_Rule_ending lk_ending
theorem e_sums (T : Txt K mg) (R : RuleA K G a gs n) (h : Ev ta σ G (.ref a.r)) : Ev (tFld K ta "sums") σ G (.ref a.s) := ev_fld h R.o T.c_Rule T.n_Rule_sums lk_sums
/-- self.ending[0], self.ending[1] -/
theorem e_end0 (T : Txt K mg) (R : RuleA K G a gs n) (h : Ev ta σ G (.ref a.r)) : Ev (tOp (rIxT K) (tFld K ta "ending") (tC (.int 0))) σ G (.str "repeat") := ev_ixU (esu_of (e_ending T R h) R.t) ev_c rfl
theorem e_end1 (T : Txt K mg) (R : RuleA K G a gs n) (h : Ev ta σ G (.ref a.r)) : Ev (tOp (rIxT K) (tFld K ta "ending") (tC (.int 1))) σ G (.int n) := ev_ixU (esu_of (e_ending T R h) R.t) ev_c rfl
theorem e_len_listed (T : Txt K mg) (R : RuleA K G a gs n) (h : Ev ta σ G (.ref a.r)) : Ev (tCB (rLenS K) (tCons (tFld K ta "listed") tNil)) σ G (.int (gs.length : Int)) :=
  ev_is (ev_lenS (es_of (e_listed T R h) R.l)) (by rw [List.length_map])
theorem e_len_sums (T : Txt K mg) (R : RuleA K G a gs n) (h : Ev ta σ G (.ref a.r)) : Ev (tCB (rLenS K) (tCons (tFld K ta "sums") tNil)) σ G (.int ((gs.length + 1 : Nat) : Int)) :=
  ev_is (ev_lenS (es_of (e_sums T R h) R.s)) (by rw [sumsV_len])
theorem e_sums_last (T : Txt K mg) (R : RuleA K G a gs n) (h : Ev ta σ G (.ref a.r)) : Ev (tOp (rIxL K) (tFld K ta "sums") (tUn (rU fun i => .int (-i)) (tC (.int 1)))) σ G (.int (pre gs gs.length)) :=
  ev_ixS (es_of (e_sums T R h) R.s) (ev_un ev_c ru_neg) (sumsV_last gs)
/-! ### the methods -/
def sp_is_tail : Sp := SpR fun vs H z => ∃ (t : Addr) (n m : Int), vs = [.ref t, .int m] ∧ H t = some (.tup [.str "repeat", .int n]) ∧ 1 ≤ n ∧ n ≤ m ∧ z = .bl true
theorem ok_is_tail (T : Txt K mg) : ∃ fd, CalG P w K mg base 3 "is_tail" (He.ga K "is_tail") fd ["tail", "gap_count"] sp_is_tail := by
  obtain ⟨fd_is_between, c_is_between⟩ := ok_is_between (P := P) (w := w) (base := base) T
  obtain ⟨fd, F⟩ := T.f_is_tail
  refine ⟨fd, T.g_is_tail, F.kp, F.ok sc_is_tail (fun vs H Q E h => ?_) (fun cdv A outer s H vs Q E hr h => ?_), F.bindsN fun _ _ _ _ _ _ us hl => match us, hl with | [_, _], _ => rfl⟩
  · obtain ⟨_, ⟨t, n, m, rfl, _⟩, _⟩ := h
    rfl
  · obtain ⟨z, ⟨t, n, m, rfl, ht, h1, h2, rfl⟩, k⟩ := h
    refine ⟨_, PSs.nox (pss_cons (ps_if (PW.pt (pw_or (pt_not (pt_val (pe_callB call_isi (by rfl) T.b_isinstance (by decide +kernel) (pa_cons (pv 0) (pa_cons (pe_bltn (v := .ty "tuple") (u := .type "tuple") (by rfl) T.b_tuple (by decide +kernel) rfl) pa_nil))))) (pw_or (pt_cmpR op_eq (pe_callB call_len_seq (by rfl) T.b_len (by decide +kernel) (pa_cons (pv 0) pa_nil)) pe_int (nomark _)) (pw_or1 (pt_not (pt_val (pe_callB call_isi (by rfl) T.b_isinstance (by decide +kernel) (pa_cons (pe_ix ix_tup (pv 0) pe_int (fun _ _ => rfl)) (pa_cons (pe_bltn (v := .ty "str") (u := .type "str") (by rfl) T.b_str (by decide +kernel) rfl) pa_nil))))))))) (pss_one (ps_ret pe_bl)) pss_nil)
      (pss_cons (ps_if (pt_cmpR op_eq (pe_ix ix_tup (pv 0) pe_int (fun _ _ => rfl)) pe_str (nomark _)) (pss_one ps_never) pss_nil)
      (pss_cons (ps_if (PW.pt (pw_or (pt_cmpR op_ne (pe_callB call_len_seq (by rfl) T.b_len (by decide +kernel) (pa_cons (pv 0) pa_nil)) pe_int (nomark _)) (pw_or1 (pt_cmpR op_eq (pv 1) pe_int (nomark _))))) (pss_one (ps_ret pe_bl)) pss_nil)
      (pss_cons (ps_if (pt_cmpR op_eq (pe_ix ix_tup (pv 0) pe_int (fun _ _ => rfl)) pe_str (nomark _)) (pss_one ps_never) pss_nil)
      (pss_one (ps_ret (pe_and (pe_cmpR op_eq (pe_ix ix_tup (pv 0) pe_int (fun _ _ => rfl)) pe_str (nomark _)) (pe_one (pe_call c_is_between.ok (hr.mono (by decide)) (by rfl) c_is_between.gl c_is_between.kp c_is_between.b .nil pass0 (pa_cons (pe_ix ix_tup (pv 0) pe_int (fun _ _ => rfl)) (pa_cons pe_int (pa_cons (pv 1) pa_nil)))))))))))), ?_⟩
    have e0 : ∀ {G : Hp} {v : Option V}, G t = some (.tup [.str "repeat", .int n]) → Ev (tOp (rIxT K) (tVar 0) (tC (.int 0))) [some (.ref t), some (.int m)] G (.str "repeat") := fun h => ev_ixU (esu_of (ev_var rfl) h) ev_c rfl
    have e1 : ∀ {G : Hp}, G t = some (.tup [.str "repeat", .int n]) → Ev (tOp (rIxT K) (tVar 0) (tC (.int 1))) [some (.ref t), some (.int m)] G (.int n) := fun h => ev_ixU (esu_of (ev_var rfl) h) ev_c rfl
    have el : ∀ {G : Hp}, G t = some (.tup [.str "repeat", .int n]) → Ev (tCB (rLenS K) (tCons (tVar 0) tNil)) [some (.ref t), some (.int m)] G (.int 2) := fun h => ev_lenU (esu_of (ev_var rfl) h)
    refine x_no (Ex.refl H) (et_or (a := false) (et_not (a := true) (et_B (ev_isi (b := true) (ev_var rfl) ev_c (.ty _) (fun _ e => .base (.tup (e _ _ ht))) (kit_ty (by decide +kernel)))))
      fun _ => et_or (a := false) (et_test (ev_op (el ht) ev_c (rv_eqI rfl))) fun _ => et_not (a := true) (et_B (ev_isi (b := true) (e0 (v := none) ht) ev_c (.ty _) (fun _ _ => .base (.str _)) (kit_ty (by decide +kernel))))) fun H1 e1' _ => ?_
    refine x_no e1' (et_test (ev_op (e0 (v := none) ht) ev_c (rv_eqS (decide_eq_false nend)))) fun H2 e2 _ => ?_
    refine x_no e2 (et_or (a := false) (et_test (ev_op (el ht) ev_c (rv_neI rfl))) fun _ => et_test (ev_op (ev_var rfl) ev_c (rv_eqI (b := false) (decide_eq_false (by omega))))) fun H3 e3 _ => ?_
    refine x_no e3 (et_test (ev_op (e0 (v := none) ht) ev_c (rv_eqS (decide_eq_false ntimes)))) fun H4 e4 _ => ?_
    refine x_ret e4 (ev_is (ev_andV (a := true) (ev_op (e0 (v := none) ht) ev_c (rv_eqS (by simp))) fun _ => ev_fn (ea_cons (e1 ht) (ea_cons ev_c (ea_cons (ev_var rfl) ea_nil))) (v_is_between n 1 m)) ?_) fun H5 e5 _ => k H5 e5
    rw [decide_eq_true h1, decide_eq_true h2]
    rfl
theorem v_is_tail {G : Hp} {t : Addr} {n m : Int} (ht : G t = some (.tup [.str "repeat", .int n])) (h1 : 1 ≤ n) (h2 : n ≤ m) : SpV sp_is_tail [.ref t, .int m] G (.bl true) := sp_r fun _ e => ⟨t, n, m, rfl, e _ _ ht, h1, h2, rfl⟩
/-- a promise of a method of a rule that stands: its further arguments, its value -/
def SpRule (K : PySem.W.Frag) (A : List Int → Nat → RA → List V → V → Prop) (k : Nat) : Sp := SpR fun vs H z => ∃ (a : RA) (gs : List Int) (n : Nat) (us : List V), vs = .ref a.r :: us ∧ us.length = k ∧ RuleA K H a gs n ∧ A gs n a us z
theorem v_rule {A : List Int → Nat → RA → List V → V → Prop} {k : Nat} {us : List V} {z : V} (R : RuleA K G a gs n) (h : A gs n a us z) (hk : us.length = k) : SpV (SpRule K A k) (.ref a.r :: us) G z := sp_r fun _ e => ⟨a, gs, n, us, rfl, hk, R.mono e, h⟩
theorem SpRule.len {A : List Int → Nat → RA → List V → V → Prop} {k : Nat} {vs : List V} {H : Hp} {Q : VK} {E : XK} (h : SpRule K A k vs H Q E) : vs.length = k + 1 := by
  obtain ⟨_, ⟨_, _, _, us, rfl, hk, _⟩, _⟩ := h
  rw [List.length_cons, hk]
def sp_Rule_tail (K : PySem.W.Frag) : Sp := SpRule K (fun _ _ a us z => us = [] ∧ z = .ref a.t) 0
theorem ok_Rule_tail (T : Txt K mg) : ∃ fd, CalM P w K mg base 1 (cRule K) "tail" (He.ma K (cRule K) "tail") fd ["self"] (sp_Rule_tail K) := by
  obtain ⟨fd, F⟩ := T.f_Rule_tail
  refine ⟨fd, T.m_Rule_tail, F.ok sc_Rule_tail (fun vs H Q E h => ?_) (fun cdv A outer s H vs Q E hr h => ?_), F.bindsN fun _ _ _ _ _ _ us hl => match us, hl with | [_], _ => rfl⟩
  · exact h.len
  · obtain ⟨z, ⟨a, gs, n, us, rfl, _, R, rfl, rfl⟩, k⟩ := h
    refine ⟨_, PSs.nox (pss_one (ps_ret (pe_fld (pv 0) rfl))), ?_⟩
    exact x_ret (Ex.refl H) (e_ending T R (ev_var rfl)) fun H1 e _ => k H1 e
def sp_Rule_attempts (K : PySem.W.Frag) : Sp := SpRule K (fun _ _ _ us z => us = [] ∧ z = .non) 0
theorem ok_Rule_attempts (T : Txt K mg) : ∃ fd, CalM P w K mg base 1 (cRule K) "attempts" (He.ma K (cRule K) "attempts") fd ["self"] (sp_Rule_attempts K) := by
  obtain ⟨fd, F⟩ := T.f_Rule_attempts
  refine ⟨fd, T.m_Rule_attempts, F.ok sc_Rule_attempts (fun vs H Q E h => ?_) (fun cdv A outer s H vs Q E hr h => ?_), F.bindsN fun _ _ _ _ _ _ us hl => match us, hl with | [_], _ => rfl⟩
  · exact h.len
  · obtain ⟨z, ⟨a, gs, n, us, rfl, _, R, rfl, rfl⟩, k⟩ := h
    refine ⟨_, PSs.nox (pss_one (ps_ret (pe_ifExp (pt_cmpR op_eq (pe_ix ix_tup (pe_fld (pv 0) rfl) pe_int (fun _ _ => rfl)) pe_str (nomark _)) pe_never pe_non))), ?_⟩
    exact x_ret (Ex.refl H) (ev_if (b := false) (et_test (ev_op (e_end0 T R (ev_var rfl)) ev_c (rv_eqS (decide_eq_false nend)))) (fun z => nomatch z) fun _ => ev_c) fun H1 e _ => k H1 e
def sp_Rule_period (K : PySem.W.Frag) : Sp := SpRule K (fun gs n _ us z => us = [] ∧ z = .int (per gs n)) 0
theorem ok_Rule_period (T : Txt K mg) : ∃ fd, CalM P w K mg base 1 (cRule K) "period" (He.ma K (cRule K) "period") fd ["self"] (sp_Rule_period K) := by
  obtain ⟨fd, F⟩ := T.f_Rule_period
  refine ⟨fd, T.m_Rule_period, F.ok sc_Rule_period (fun vs H Q E h => ?_) (fun cdv A outer s H vs Q E hr h => ?_), F.bindsN fun _ _ _ _ _ _ us hl => match us, hl with | [_], _ => rfl⟩
  · exact h.len
  · obtain ⟨z, ⟨a, gs, n, us, rfl, _, R, rfl, rfl⟩, k⟩ := h
    refine ⟨_, PSs.nox (pss_cons (ps_if (pt_cmpR op_ne (pe_ix ix_tup (pe_fld (pv 0) rfl) pe_int (fun _ _ => rfl)) pe_str (nomark _)) (pss_one (ps_ret pe_non)) pss_nil)
      (pss_one (ps_ret (pe_op op_sub (pe_ix ix_list (pe_fld (pv 0) rfl) (pe_un un_neg pe_int) (fun _ _ => rfl)) (pe_ix ix_list (pe_fld (pv 0) rfl) (pe_op op_sub (pe_callB call_len_seq (by rfl) T.b_len (by decide +kernel) (pa_cons (pe_fld (pv 0) rfl) pa_nil)) (pe_ix ix_tup (pe_fld (pv 0) rfl) pe_int (fun _ _ => rfl))) (fun _ _ => rfl)))))), ?_⟩
    have hu := uu_add R.ok
    refine x_no (Ex.refl H) (et_test (ev_op (e_end0 T R (ev_var rfl)) ev_c (rv_neS (by simp)))) fun H1 e1 _ => ?_
    exact x_ret e1 (ev_op (e_sums_last T R (ev_var rfl)) (ev_ixS (es_of (e_sums T R (ev_var rfl)) R.s) (ev_op (e_len_listed T R (ev_var rfl)) (e_end1 T R (ev_var rfl)) rv_I0) (sumsV_atI (k := uu gs n) (by omega) (by omega))) rv_I0) fun H2 e2 _ => k H2 e2
def sp_Rule_gaps (K : PySem.W.Frag) : Sp := SpN fun vs H xs => ∃ (a : RA) (gs : List Int) (n : Nat), vs = [.ref a.r] ∧ RuleA K H a gs n ∧ xs = gs.map V.int
theorem ok_Rule_gaps (T : Txt K mg) : ∃ fd, CalM P w K mg base 1 (cRule K) "gaps" (He.ma K (cRule K) "gaps") fd ["self"] (sp_Rule_gaps K) := by
  obtain ⟨fd, F⟩ := T.f_Rule_gaps
  refine ⟨fd, T.m_Rule_gaps, F.ok sc_Rule_gaps (fun vs H Q E h => ?_) (fun cdv A outer s H vs Q E hr h => ?_), F.bindsN fun _ _ _ _ _ _ us hl => match us, hl with | [_], _ => rfl⟩
  · obtain ⟨_, ⟨_, _, _, rfl, _⟩, _⟩ := h
    rfl
  · obtain ⟨z, ⟨a, gs, n, rfl, R, rfl⟩, k⟩ := h
    refine ⟨_, PSs.nox (pss_one (ps_ret (pe_callTy call_list_of (by rfl) T.b_list (by decide +kernel) (pa_cons (pe_fld (pv 0) rfl) pa_nil)))), ?_⟩
    exact x_retL (Ex.refl H) (el_listS (es_of (e_listed T R (ev_var rfl)) R.l)) fun p H1 e hp _ h1 => k p H1 hp e h1
theorem l_gaps (R : RuleA K G a gs n) : SpL (sp_Rule_gaps K) [.ref a.r] G (gs.map V.int) := sp_n fun _ e => ⟨a, gs, n, rfl, R.mono e, rfl⟩
def sp_Rule_check_attempt (K : PySem.W.Frag) : Sp := SpRule K (fun _ _ _ us z => ∃ k : Nat, us = [.int k] ∧ z = .non) 1
theorem ok_Rule_check_attempt (T : Txt K mg) : ∃ fd, CalM P w K mg base 2 (cRule K) "check_attempt" (He.ma K (cRule K) "check_attempt") fd ["self", "attempt"] (sp_Rule_check_attempt K) := by
  obtain ⟨fd_is_integer, c_is_integer⟩ := ok_is_integer (P := P) (w := w) (base := base) T
  obtain ⟨fd, F⟩ := T.f_Rule_check_attempt
  refine ⟨fd, T.m_Rule_check_attempt, F.ok sc_Rule_check_attempt (fun vs H Q E h => ?_) (fun cdv A outer s H vs Q E hr h => ?_), F.bindsN fun _ _ _ _ _ _ us hl => match us, hl with | [_, _], _ => rfl⟩
  · exact h.len
  · obtain ⟨z, ⟨a, gs, n, us, rfl, _, R, j, rfl, rfl⟩, k⟩ := h
    refine ⟨_, PSs.nox (pss_cons (ps_if (PW.pt (pw_or (pt_not (pt_val (pe_call c_is_integer.ok (hr.mono (by decide)) (by rfl) c_is_integer.gl c_is_integer.kp c_is_integer.b .nil pass0 (pa_cons (pv 1) pa_nil)))) (pw_or1 (pt_cmpR op_lt (pv 1) pe_int (nomark _))))) (pss_one ps_never) pss_nil)
      (pss_cons (ps_if (PW.pt (pw_and (pt_cmpR op_eq (pe_ix ix_tup (pe_fld (pv 0) rfl) pe_int (fun _ _ => rfl)) pe_str (nomark _)) (pw_and1 pt_never))) (pss_one ps_never) pss_nil)
      (pss_one (ps_if (PW.pt (pw_and (pt_cmpR op_eq (pe_ix ix_tup (pe_fld (pv 0) rfl) pe_int (fun _ _ => rfl)) pe_str (nomark _)) (pw_and1 pt_never))) (pss_one ps_never) pss_nil)))), ?_⟩
    refine x_no (Ex.refl H) (et_or (a := false) (et_not (a := true) (et_B (ev_fn (ea_cons (ev_var rfl) ea_nil) (v_is_integer _)))) fun _ => et_test (ev_op (ev_var rfl) ev_c (rv_B (decide_eq_false (by omega))))) fun H1 e1 _ => ?_
    refine x_no e1 (et_andF (et_test (ev_op (e_end0 T R (ev_var rfl)) ev_c (rv_eqS (decide_eq_false nend))))) fun H2 e2 _ => ?_
    exact x_noL e2 (et_andF (et_test (ev_op (e_end0 T R (ev_var rfl)) ev_c (rv_eqS (decide_eq_false ntimes))))) fun H3 e3 _ => k H3 e3
theorem fdiv_nat (i j : Nat) : Int.fdiv (i : Int) (j : Int) = ((i / j : Nat) : Int) := by
  rw [Int.fdiv_eq_ediv_of_nonneg _ (by omega)]
  rfl
theorem fmod_nat (i j : Nat) : Int.fmod (i : Int) (j : Int) = ((i % j : Nat) : Int) := by
  rw [Int.fmod_eq_emod_of_nonneg _ (by omega)]
  rfl
def sp_Rule_offset_of (K : PySem.W.Frag) : Sp := SpRule K (fun gs n _ us z => ∃ k : Nat, us = [.int k] ∧ z = .int (off gs n k)) 1
theorem ok_Rule_offset_of (T : Txt K mg) : ∃ fd, CalM P w K mg base 2 (cRule K) "offset_of" (He.ma K (cRule K) "offset_of") fd ["self", "attempt"] (sp_Rule_offset_of K) := by
  obtain ⟨fd_Rule_period, c_Rule_period⟩ := ok_Rule_period (P := P) (w := w) (base := base) T
  obtain ⟨fd, F⟩ := T.f_Rule_offset_of
  refine ⟨fd, T.m_Rule_offset_of, F.ok sc_Rule_offset_of (fun vs H Q E h => ?_) (fun cdv A outer s H vs Q E hr h => ?_), F.bindsN fun _ _ _ _ _ _ us hl => match us, hl with | [_, _], _ => rfl⟩
  · exact h.len
  · obtain ⟨z, ⟨a, gs, n, us, rfl, _, R, j, rfl, rfl⟩, k⟩ := h
    refine ⟨_, PSs.nox (pss_cons (ps_if (pt_cmpR op_lt (pv 1) (pe_callB call_len_seq (by rfl) T.b_len (by decide +kernel) (pa_cons (pe_fld (pv 0) rfl) pa_nil)) (nomark _)) (pss_one (ps_ret (pe_ix ix_list (pe_fld (pv 0) rfl) (pv 1) (fun _ _ => rfl)))) pss_nil)
      (pss_cons (ps_set (i := 2) sc_Rule_offset_of.nd rfl (by first | exact Or.inl rfl | exact Or.inr rfl) (pe_op op_sub (pv 1) (pe_callB call_len_seq (by rfl) T.b_len (by decide +kernel) (pa_cons (pe_fld (pv 0) rfl) pa_nil))))
      (pss_cons (ps_if (pt_cmpR op_eq (pe_ix ix_tup (pe_fld (pv 0) rfl) pe_int (fun _ _ => rfl)) pe_str (nomark _)) (pss_cons ps_never
      (pss_one ps_never)) pss_nil)
      (pss_cons (ps_set (i := 4) sc_Rule_offset_of.nd rfl (by first | exact Or.inl rfl | exact Or.inr rfl) (pe_ix ix_tup (pe_fld (pv 0) rfl) pe_int (fun _ _ => rfl)))
      (pss_cons (ps_set (i := 5) sc_Rule_offset_of.nd rfl (by first | exact Or.inl rfl | exact Or.inr rfl) (pe_op op_sub (pe_callB call_len_seq (by rfl) T.b_len (by decide +kernel) (pa_cons (pe_fld (pv 0) rfl) pa_nil)) (pv 4)))
      (pss_cons (ps_set (i := 6) sc_Rule_offset_of.nd rfl (by first | exact Or.inl rfl | exact Or.inr rfl) (pe_op op_sub (pe_ix ix_list (pe_fld (pv 0) rfl) (pe_op op_add (pv 5) (pe_op op_modN (pv 2) (pv 4))) (fun _ _ => rfl)) (pe_ix ix_list (pe_fld (pv 0) rfl) (pv 5) (fun _ _ => rfl))))
      (pss_one (ps_ret (pe_op op_add (pe_op op_add (pe_ix ix_list (pe_fld (pv 0) rfl) (pe_un un_neg pe_int) (fun _ _ => rfl)) (pe_op op_mul (pe_op op_fdivN (pv 2) (pv 4)) (pe_meth0 (pv 0) T.c_Rule c_Rule_period.at_ c_Rule_period.ok (hr.mono (by decide)) c_Rule_period.b .nil pass0))) (pv 6)))))))))), ?_⟩
    have hu := uu_add R.ok
    have h1 := R.ok.n1
    have hn20 := R.sz
    have hp := R.per_le
    have hp1 := per_pos R.ok
    refine x_if (Ex.refl H) (et_test (ev_op (ev_var rfl) (e_len_sums T R (ev_var rfl)) rv_I0)) (fun hb H1 e1 _ => ?_) fun hb H1 e1 _ => ?_
    · have hj : j ≤ gs.length := by
        have := of_decide_eq_true hb
        omega
      refine x_ret e1 (ev_ixS (es_of (e_sums T R (ev_var rfl)) R.s) (ev_var rfl) (sumsV_atI rfl hj)) fun H2 e2 _ => ?_
      rw [← off_low R.ok hj]
      exact k H2 e2
    · have hj : gs.length < j := by
        have := of_decide_eq_false hb
        omega
      refine x_asg e1 (v := .int ((j - gs.length : Nat) : Int)) (ev_is (ev_op (ev_var rfl) (e_len_listed T R (ev_var rfl)) rv_I0) (by congr 1; omega)) fun H2 e2 _ => ?_
      refine x_no e2 (et_test (ev_op (e_end0 T R (ev_var rfl)) ev_c (rv_eqS (decide_eq_false ntimes)))) fun H3 e3 _ => ?_
      refine x_asg e3 (e_end1 T R (ev_var rfl)) fun H4 e4 _ => ?_
      refine x_asg e4 (v := .int ((uu gs n : Nat) : Int)) (ev_is (ev_op (e_len_listed T R (ev_var rfl)) (ev_var rfl) rv_I0) (by congr 1; omega)) fun H5 e5 _ => ?_
      have hm : (j - gs.length) % n < n := Nat.mod_lt _ (by omega)
      refine x_asg e5 (ev_op (ev_ixS (es_of (e_sums T R (ev_var rfl)) R.s) (ev_op (ev_var rfl) (ev_op (ev_var rfl) (ev_var rfl) (rv_I (by omega))) rv_I0) (sumsV_atI (k := uu gs n + (j - gs.length) % n) (by rw [fmod_nat]; omega) (by omega)))
        (ev_ixS (es_of (e_sums T R (ev_var rfl)) R.s) (ev_var rfl) (sumsV_atI rfl (by omega))) rv_I0) fun H6 e6 _ => ?_
      refine x_ret e6 (ev_op (ev_op (e_sums_last T R (ev_var rfl)) (ev_op (ev_op (ev_var rfl) (ev_var rfl) (rv_I ⟨by omega, by omega⟩)) (ev_meth (ev_var rfl) R.o (by kernel_rfl) ea_nil (v_rule R ⟨rfl, rfl⟩ rfl)) (rv_I (.inr ⟨by omega, by omega⟩))) rv_I0) (ev_var rfl) rv_I0) fun H7 e7 _ => ?_
      have e : off gs n j = pre gs gs.length + Int.fdiv ((j - gs.length : Nat) : Int) (n : Int) * per gs n + (pre gs (uu gs n + (j - gs.length) % n) - pre gs (uu gs n)) := by
        unfold off
        rw [if_neg (by omega), fdiv_nat]
      rw [← e]
      exact k H7 e7
theorem v_offset_of (R : RuleA K G a gs n) (k : Nat) : SpV (sp_Rule_offset_of K) [.ref a.r, .int k] G (.int (off gs n k)) := v_rule R ⟨k, rfl, rfl⟩ rfl
def sp_Rule_offset (K : PySem.W.Frag) : Sp := SpRule K (fun gs n _ us z => ∃ k : Nat, us = [.int k] ∧ z = .int (off gs n k)) 1
theorem ok_Rule_offset (T : Txt K mg) : ∃ fd, CalM P w K mg base 3 (cRule K) "offset" (He.ma K (cRule K) "offset") fd ["self", "attempt"] (sp_Rule_offset K) := by
  obtain ⟨fd_Rule_check_attempt, c_Rule_check_attempt⟩ := ok_Rule_check_attempt (P := P) (w := w) (base := base) T
  obtain ⟨fd_Rule_offset_of, c_Rule_offset_of⟩ := ok_Rule_offset_of (P := P) (w := w) (base := base) T
  obtain ⟨fd, F⟩ := T.f_Rule_offset
  refine ⟨fd, T.m_Rule_offset, F.ok sc_Rule_offset (fun vs H Q E h => ?_) (fun cdv A outer s H vs Q E hr h => ?_), F.bindsN fun _ _ _ _ _ _ us hl => match us, hl with | [_, _], _ => rfl⟩
  · exact h.len
  · obtain ⟨z, ⟨a, gs, n, us, rfl, _, R, j, rfl, rfl⟩, k⟩ := h
    refine ⟨_, PSs.nox (pss_cons (ps_expr (pe_meth (pv 0) T.c_Rule c_Rule_check_attempt.at_ c_Rule_check_attempt.ok (hr.mono (by decide)) c_Rule_check_attempt.b .nil pass0 (pa_cons (pv 1) pa_nil)))
      (pss_one (ps_ret (pe_meth (pv 0) T.c_Rule c_Rule_offset_of.at_ c_Rule_offset_of.ok (hr.mono (by decide)) c_Rule_offset_of.b .nil pass0 (pa_cons (pv 1) pa_nil))))), ?_⟩
    refine x_drop (Ex.refl H) (ev_meth (ev_var rfl) R.o (by kernel_rfl) (ea_cons (ev_var rfl) ea_nil) (v_rule R ⟨j, rfl, rfl⟩ rfl)) fun H1 e1 _ => ?_
    exact x_ret e1 (ev_meth (ev_var rfl) R.o (by kernel_rfl) (ea_cons (ev_var rfl) ea_nil) (v_offset_of R j)) fun H2 e2 _ => k H2 e2
def sp_Rule_first_from (K : PySem.W.Frag) : Sp := SpRule K (fun gs n _ us z => ∃ d : Int, us = [.int d] ∧ z = .int (first gs n d : Nat)) 1
theorem ok_Rule_first_from (T : Txt K mg) : ∃ fd, CalM P w K mg base 3 (cRule K) "first_from" (He.ma K (cRule K) "first_from") fd ["self", "distance"] (sp_Rule_first_from K) := by
  obtain ⟨fd_Rule_offset_of, c_Rule_offset_of⟩ := ok_Rule_offset_of (P := P) (w := w) (base := base) T
  obtain ⟨fd_Rule_period, c_Rule_period⟩ := ok_Rule_period (P := P) (w := w) (base := base) T
  obtain ⟨fd_is_integer, c_is_integer⟩ := ok_is_integer (P := P) (w := w) (base := base) T
  obtain ⟨fd, F⟩ := T.f_Rule_first_from
  refine ⟨fd, T.m_Rule_first_from, F.ok sc_Rule_first_from (fun vs H Q E h => ?_) (fun cdv A outer s H vs Q E hr h => ?_), F.bindsN fun _ _ _ _ _ _ us hl => match us, hl with | [_, _], _ => rfl⟩
  · exact h.len
  · obtain ⟨z, ⟨a, gs, n, us, rfl, _, R, d, rfl, rfl⟩, k⟩ := h
    refine ⟨_, PSs.nox (pss_cons (ps_if (pt_not (pt_val (pe_call c_is_integer.ok (hr.mono (by decide)) (by rfl) c_is_integer.gl c_is_integer.kp c_is_integer.b .nil pass0 (pa_cons (pv 1) pa_nil)))) (pss_one ps_never) pss_nil)
      (pss_cons (ps_for PassesOwn.never rfl (pi_enum (by rfl) T.b_enumerate (pa_cons (pe_fld (pv 0) rfl) pa_nil)) (pg_tup rfl (pgs_cons (pg_name (i := 2) sc_Rule_first_from.nd rfl (by first | exact Or.inl rfl | exact Or.inr rfl)) (pgs_cons (pg_name (i := 3) sc_Rule_first_from.nd rfl (by first | exact Or.inl rfl | exact Or.inr rfl)) pgs_nil))) (pss_one (ps_if (pt_cmpR op_ge (pv 3) (pv 1) (nomark _)) (pss_one (ps_ret (pv 2))) pss_nil)))
      (pss_cons (ps_if (pt_cmpR op_eq (pe_ix ix_tup (pe_fld (pv 0) rfl) pe_int (fun _ _ => rfl)) pe_str (nomark _)) (pss_one (ps_ret pe_non)) pss_nil)
      (pss_cons (ps_set (i := 2) sc_Rule_first_from.nd rfl (by first | exact Or.inl rfl | exact Or.inr rfl) (pe_callB call_len_seq (by rfl) T.b_len (by decide +kernel) (pa_cons (pe_fld (pv 0) rfl) pa_nil)))
      (pss_cons (ps_if (pt_cmpR op_eq (pe_ix ix_tup (pe_fld (pv 0) rfl) pe_int (fun _ _ => rfl)) pe_str (nomark _)) (pss_one (ps_set (i := 2) sc_Rule_first_from.nd rfl (by first | exact Or.inl rfl | exact Or.inr rfl) (pe_op op_add (pv 2) (pe_op op_mul (pe_op op_fdivN (pe_op op_sub (pv 1) (pe_ix ix_list (pe_fld (pv 0) rfl) (pe_un un_neg pe_int) (fun _ _ => rfl))) (pe_meth0 (pv 0) T.c_Rule c_Rule_period.at_ c_Rule_period.ok (hr.mono (by decide)) c_Rule_period.b .nil pass0)) (pe_ix ix_tup (pe_fld (pv 0) rfl) pe_int (fun _ _ => rfl)))))) pss_nil)
      (pss_cons (ps_while PassesOwn.never (pt_cmpR op_lt (pe_meth (pv 0) T.c_Rule c_Rule_offset_of.at_ c_Rule_offset_of.ok (hr.mono (by decide)) c_Rule_offset_of.b .nil pass0 (pa_cons (pv 2) pa_nil)) (pv 1) (nomark _)) (pss_one (ps_set (i := 2) sc_Rule_first_from.nd rfl (by first | exact Or.inl rfl | exact Or.inr rfl) (pe_op op_add (pv 2) pe_int))))
      (pss_one (ps_ret (pv 2))))))))), ?_⟩
    have hu := uu_add R.ok
    have h1 := R.ok.n1
    have hn20 := R.sz
    have hp := R.per_le
    have hp1 := per_pos R.ok
    refine x_no (Ex.refl H) (et_not (a := true) (et_B (ev_fn (ea_cons (ev_var rfl) ea_nil) (v_is_integer _)))) fun H1 e1 _ => ?_
    refine x_forE e1 (e_sums T R (ev_var rfl)) R.s (fun i σ' H' => (∃ u v : Option V, σ' = [some (.ref a.r), some (.int d), u, v]) ∧ Ex H H' ∧ ∀ j, j < i → j ≤ gs.length → pre gs j < d) (fun H2 e2 _ => ⟨⟨none, none, rfl⟩, e2, fun j hj => absurd hj (Nat.not_lt_zero _)⟩) (fun _ _ _ _ q => q.2.1) ?_ ?_
    · rintro i x σ' H' H'' hx ⟨⟨u, v, rfl⟩, e2, hlow⟩ e3
      have hi : i ≤ gs.length := by
        have := (List.getElem?_eq_some_iff.mp hx).1
        rw [sumsV_len] at this
        omega
      rw [sumsV_at hi] at hx
      cases hx
      refine (et_test (ev_op (ev_var rfl) (ev_var rfl) rv_I0) : EvT _ _ H _) H'' (e2.trans e3) _ fun H3 e4 => ?_
      by_cases hd : d ≤ pre gs i
      · refine iteT' (decide_eq_true hd) ?_
        refine x_ret ((e2.trans e3).trans e4) (ev_var rfl) fun H4 e5 _ => ?_
        have hf : IsFirst gs n d i := ⟨by rw [off_low R.ok hi]; exact hd, fun j hj => by rw [off_low R.ok (by omega)]; exact hlow j hj (by omega)⟩
        rw [← hf.eq R.ok]
        exact k H4 e5
      · refine iteF' (decide_eq_false hd) ?_
        exact ⟨⟨_, _, rfl⟩, (e2.trans e3).trans e4, fun j hj hjl => by
          rcases Nat.lt_or_ge j i with q | q
          · exact hlow j q hjl
          · have : j = i := by omega
            rw [this]
            omega⟩
    · rintro σ' H' ⟨⟨u, v, rfl⟩, e2, hlow⟩
      rw [sumsV_len] at hlow
      have hS := hlow gs.length (by omega) (Nat.le_refl _)
      refine x_no e2 (et_test (ev_op (e_end0 T R (ev_var rfl)) ev_c (rv_eqS (decide_eq_false nend)))) fun H2 e3 _ => ?_
      refine x_asg e3 (e_len_listed T R (ev_var rfl)) fun H3 e4 _ => ?_
      refine x_yes e4 (et_test (ev_op (e_end0 T R (ev_var rfl)) ev_c (rv_eqS (by simp)))) fun H4 e5 _ => ?_
      have hq : 0 ≤ (d - pre gs gs.length) / per gs n := Int.ediv_nonneg (by omega) (by omega)
      refine s_asg ((ev_is (v := _) (w := .int ((gs.length + ((d - pre gs gs.length) / per gs n).toNat * n : Nat) : Int)) (ev_op (ev_var rfl) (ev_op (ev_op (ev_op (ev_var rfl) (e_sums_last T R (ev_var rfl)) rv_I0) (ev_meth (ev_var rfl) R.o (by kernel_rfl) ea_nil (v_rule R ⟨rfl, rfl⟩ rfl)) (rv_I ⟨by omega, by omega⟩)) (e_end1 T R (ev_var rfl)) (rv_I (.inr ⟨by omega, by omega⟩))) rv_I0) ?_ : Ev _ _ H _).mono e5) fun H5 e6 => ?_
      · congr 1
        rw [Int.fdiv_eq_ediv_of_nonneg _ (by omega)]
        have e7 : ((gs.length + ((d - pre gs gs.length) / per gs n).toNat * n : Nat) : Int) = (gs.length : Int) + (((d - pre gs gs.length) / per gs n).toNat : Int) * (n : Int) := by
          rw [Int.natCast_add, Int.natCast_mul]
        rw [e7]
        have e8 : (((d - pre gs gs.length) / per gs n).toNat : Int) = (d - pre gs gs.length) / per gs n := by omega
        rw [e8]
      have e6 := e5.trans e6
      generalize hm : ((d - pre gs gs.length) / per gs n).toNat = m
      refine q_while (fun μ σ' H' => ∃ (j : Nat) (v : Option V), σ' = [some (.ref a.r), some (.int d), some (.int (j : Int)), v] ∧ Ex H H' ∧ (∀ i, i < j → off gs n i < d) ∧ μ = (d - off gs n j).toNat) _ ⟨gs.length + m * n, v, rfl, e6, fun i hi => ?_, rfl⟩ ?_
      · have h2 := off_lt R.ok hi
        rw [off_block R.ok] at h2
        have h3 := Int.mul_ediv_add_emod (d - pre gs gs.length) (per gs n)
        have h4 := Int.emod_nonneg (d - pre gs gs.length) (show per gs n ≠ 0 by omega)
        have h5 : (m : Int) = (d - pre gs gs.length) / per gs n := by omega
        rw [h5, Int.mul_comm] at h2
        omega
      · rintro μ σ' H' ⟨j, v, rfl, e7, hlow', rfl⟩
        refine ⟨decide (off gs n j < d), (et_test (ev_op (ev_meth (ev_var rfl) R.o (by kernel_rfl) (ea_cons (ev_var rfl) ea_nil) (v_offset_of R j)) (ev_var rfl) rv_I0)).mono e7, fun hb H6 e8 => ?_, fun hb H6 e8 => ?_⟩
        · have hb := of_decide_eq_true hb
          have h2 := off_succ R.ok j
          refine ⟨_, fun σ2 H2 q => q, s_asg ((ev_op (ev_var rfl) ev_c rv_I0 : Ev _ _ H _).mono (e7.trans e8)) fun H7 e9 => ⟨_, ?_, j + 1, v, ?_, (e7.trans e8).trans e9, fun i hi => ?_, rfl⟩⟩
          · omega
          · rfl
          · rcases Nat.lt_or_ge i j with q | q
            · exact hlow' i q
            · have : i = j := by omega
              rw [this]
              exact hb
        · have hb := of_decide_eq_false hb
          refine x_ret (e7.trans e8) (ev_var rfl) fun H7 e9 _ => ?_
          have hf : IsFirst gs n d j := ⟨by omega, hlow'⟩
          rw [← hf.eq R.ok]
          exact k H7 e9
theorem v_first_from (R : RuleA K G a gs n) (d : Int) : SpV (sp_Rule_first_from K) [.ref a.r, .int d] G (.int (first gs n d : Nat)) := v_rule R ⟨d, rfl, rfl⟩ rfl
/-- the attempt in a distance, or None -/
noncomputable def atV (gs : List Int) (n : Nat) (d : Int) : V := if hitB gs n d = true then .int (first gs n d : Nat) else .non
def sp_Rule_attempt_at (K : PySem.W.Frag) : Sp := SpRule K (fun gs n _ us z => ∃ d : Int, us = [.int d] ∧ z = atV gs n d) 1
theorem ok_Rule_attempt_at (T : Txt K mg) : ∃ fd, CalM P w K mg base 4 (cRule K) "attempt_at" (He.ma K (cRule K) "attempt_at") fd ["self", "distance"] (sp_Rule_attempt_at K) := by
  obtain ⟨fd_Rule_first_from, c_Rule_first_from⟩ := ok_Rule_first_from (P := P) (w := w) (base := base) T
  obtain ⟨fd_Rule_offset_of, c_Rule_offset_of⟩ := ok_Rule_offset_of (P := P) (w := w) (base := base) T
  obtain ⟨fd, F⟩ := T.f_Rule_attempt_at
  refine ⟨fd, T.m_Rule_attempt_at, F.ok sc_Rule_attempt_at (fun vs H Q E h => ?_) (fun cdv A outer s H vs Q E hr h => ?_), F.bindsN fun _ _ _ _ _ _ us hl => match us, hl with | [_, _], _ => rfl⟩
  · exact h.len
  · obtain ⟨z, ⟨a, gs, n, us, rfl, _, R, d, rfl, rfl⟩, k⟩ := h
    refine ⟨_, PSs.nox (pss_cons (ps_set (i := 2) sc_Rule_attempt_at.nd rfl (by first | exact Or.inl rfl | exact Or.inr rfl) (pe_meth (pv 0) T.c_Rule c_Rule_first_from.at_ c_Rule_first_from.ok (hr.mono (by decide)) c_Rule_first_from.b .nil pass0 (pa_cons (pv 1) pa_nil)))
      (pss_cons (ps_if (PW.pt (pw_or (pt_cmpR op_isN (pv 2) pe_non (nomark _)) (pw_or1 (pt_cmpR op_ne (pe_meth (pv 0) T.c_Rule c_Rule_offset_of.at_ c_Rule_offset_of.ok (hr.mono (by decide)) c_Rule_offset_of.b .nil pass0 (pa_cons (pv 2) pa_nil)) (pv 1) (nomark _))))) (pss_one (ps_ret pe_non)) pss_nil)
      (pss_one (ps_ret (pv 2))))), ?_⟩
    refine x_asg (Ex.refl H) (ev_meth (ev_var rfl) R.o (by kernel_rfl) (ea_cons (ev_var rfl) ea_nil) (v_first_from R d)) fun H1 e1 _ => ?_
    refine x_if e1 (et_or (a := false) (et_test (ev_is (ev_isN (ev_var rfl)) rfl)) fun _ => et_test (ev_op (ev_meth (ev_var rfl) R.o (by kernel_rfl) (ea_cons (ev_var rfl) ea_nil) (v_offset_of R _)) (ev_var rfl) (rv_neI rfl))) (fun hb H2 e2 _ => ?_) fun hb H2 e2 _ => ?_
    · have hb : (!hitB gs n d) = true := hb
      refine x_ret e2 ev_c fun H3 e3 _ => ?_
      have q : atV gs n d = .non := by
        unfold atV
        rw [if_neg (by simpa using hb)]
      rw [← q]
      exact k H3 e3
    · have hb : (!hitB gs n d) = false := hb
      refine x_ret e2 (ev_var rfl) fun H3 e3 _ => ?_
      have q : atV gs n d = .int (first gs n d : Nat) := by
        unfold atV
        rw [if_pos (by simpa using hb)]
      rw [← q]
      exact k H3 e3
theorem v_attempt_at (R : RuleA K G a gs n) (d : Int) : SpV (sp_Rule_attempt_at K) [.ref a.r, .int d] G (atV gs n d) := v_rule R ⟨d, rfl, rfl⟩ rfl
theorem atV_non (gs : List Int) (n : Nat) (d : Int) : decide (atV gs n d = .non) = !hitB gs n d := by
  unfold atV
  cases hitB gs n d <;> simp
def sp_Rule_init (K : PySem.W.Frag) : Sp := fun vs H Q _ => ∃ (x dx gl tl : Addr) (gs : List Int) (n : Nat), vs = [.ref x, .ref gl, .ref tl] ∧ H x = some (.ins (cRule K) dx []) ∧ H gl = some (.lst (gs.map V.int)) ∧ H tl = some (.tup [.str "repeat", .int n]) ∧ RuleOk gs n ∧ (∀ g ∈ gs, g ≤ 1000) ∧ gs.length ≤ 20 ∧
  ∀ (H' : Hp) (a : RA), a.r = x → H a.l = none → H a.s = none → RuleA K H' a gs n → ExB [x] H H' → Q .non H'
theorem ok_Rule_init (T : Txt K mg) : ∃ fd, CalI P w K mg base 4 (He.ma K (cRule K) "__init__") fd ["self", "gaps", "tail"] (sp_Rule_init K) := by
  obtain ⟨t_MOST_GAP, i_MOST_GAP⟩ := T.i_MOST_GAP
  obtain ⟨t_MOST_GAPS, i_MOST_GAPS⟩ := T.i_MOST_GAPS
  obtain ⟨fd_is_between, c_is_between⟩ := ok_is_between (P := P) (w := w) (base := base) T
  obtain ⟨fd_is_tail, c_is_tail⟩ := ok_is_tail (P := P) (w := w) (base := base) T
  obtain ⟨fd, F⟩ := T.f_Rule_init
  refine ⟨fd, F.ok sc_Rule_init (fun vs H Q E h => ?_) (fun cdv A outer s H vs Q E hr h => ?_), F.bindsN fun _ _ _ _ _ _ us hl => match us, hl with | [_, _, _], _ => rfl⟩
  · obtain ⟨_, _, _, _, _, _, rfl, _⟩ := h
    rfl
  · obtain ⟨x, dx, gl, tl, gs, n, rfl, hx, hgl, htl, ok, hi, sz, k⟩ := h
    refine ⟨_, PSs.nox (pss_cons (ps_if (PW.pt (pw_or (pt_not (pt_val (pe_callB call_isi (by rfl) T.b_isinstance (by decide +kernel) (pa_cons (pv 1) (pa_cons (pe_bltn (v := .ty "list") (u := .type "list") (by rfl) T.b_list (by decide +kernel) rfl) pa_nil))))) (pw_or1 (pt_cmpR op_gt (pe_callB call_len_seq (by rfl) T.b_len (by decide +kernel) (pa_cons (pv 1) pa_nil)) (pe_glob (v := .int 20) (by rfl) i_MOST_GAPS ⟨_, rfl⟩) (nomark _))))) (pss_one ps_never) pss_nil)
      (pss_cons (ps_if (pt_not (pt_val (pe_callB (cr_all rfl) (by rfl) T.b_all (by decide +kernel) (pa_cons (pe_lc (own := [("gap", 3)]) rfl sc_Rule_init.nd (pi_list (pv 1)) (blkOk_by (own := [("gap", 3)]) (N := ["self", "gaps", "tail", "gap"]) (sc := defScope s_Rule_init) (by decide +kernel)) (fun _ _ _ _ _ => (pg_name (i := 3) sc_Rule_init.nd rfl (by first | exact Or.inl rfl | exact Or.inr rfl))) (fun _ _ _ _ _ => pts_nil) (fun _ _ _ _ _ => (pe_call c_is_between.ok (hr.mono (by decide)) (by rfl) c_is_between.gl c_is_between.kp c_is_between.b .nil pass0 (pa_cons (pv 3) (pa_cons pe_int (pa_cons (pe_glob (v := .int 1000000000000) (by rfl) i_MOST_GAP ⟨_, rfl⟩) pa_nil)))))) pa_nil)))) (pss_one ps_never) pss_nil)
      (pss_cons (ps_if (pt_not (pt_val (pe_call c_is_tail.ok (hr.mono (by decide)) (by rfl) c_is_tail.gl c_is_tail.kp c_is_tail.b .nil pass0 (pa_cons (pv 2) (pa_cons (pe_callB call_len_seq (by rfl) T.b_len (by decide +kernel) (pa_cons (pv 1) pa_nil)) pa_nil))))) (pss_one ps_never) pss_nil)
      (pss_cons (ps_fld (pv 0) (pe_callTy call_list_of (by rfl) T.b_list (by decide +kernel) (pa_cons (pv 1) pa_nil)) rfl)
      (pss_cons (ps_fld (pv 0) (pv 2) rfl)
      (pss_cons (ps_fld (pv 0) (pe_lst (pa_cons pe_int pa_nil)) rfl)
      (pss_one (ps_for PassesOwn.never rfl (pi_list (pv 1)) (pg_name (i := 3) sc_Rule_init.nd rfl (by first | exact Or.inl rfl | exact Or.inr rfl)) (pss_one (ps_expr (pe_bm PySem.F.plainAttrs_list PySem.F.slot_list_append PySem.F.type_list_append mt_append (pe_fld (pv 0) rfl) (pa_cons (pe_op op_add (pe_ix ix_list (pe_fld (pv 0) rfl) (pe_un un_neg pe_int) (fun _ _ => rfl)) (pv 3)) pa_nil)))))))))))), ?_⟩
    have hne1 : x ≠ gl := ne_of hx hgl (by intro z; cases z)
    have hne2 : x ≠ tl := ne_of hx htl (by intro z; cases z)
    have elen : ∀ {σ : L2.St}, σ[1]? = some (some (.ref gl)) → Ev (tCB (rLenS K) (tCons (tVar 1) tNil)) σ H (.int (gs.length : Int)) := fun h => ev_is (ev_lenS (es_of (ev_var h) hgl)) (by rw [List.length_map])
    refine x_no (Ex.refl H) (et_or (a := false) (et_not (a := true) (et_B (ev_isi (b := true) (ev_var rfl) ev_c (.ty _) (fun _ e => .base (.lst (e _ _ hgl))) (kit_ty (by decide +kernel))))) fun _ => et_test (ev_op (elen rfl) ev_c (rv_B (decide_eq_false (by omega))))) fun H1 e1 _ => ?_
    refine x_no e1 (et_not (a := true) (et_B (ev_is (ev_all (bs := gs.map fun _ => true) (es_new ?_)) ?_))) fun H2 e2 _ => ?_
    · refine el_is (el_map (0 : Int) (es_of (ev_var rfl) hgl) rfl (fun _ => true) (fun _ => V.bl true) (fun _ => rfl) (fun g hg => et_yes)
        (fun g hg _ => ev_is (ev_fn (ea_cons (ev_var rfl) (ea_cons ev_c (ea_cons ev_c ea_nil))) (v_is_between g 1 1000000000000)) (by
          have h1 := ok.pos g hg
          have h2 := hi g hg
          rw [decide_eq_true h1, decide_eq_true (show g ≤ 1000000000000 by omega)]
          rfl)) (by omega)) ?_
      rw [List.filter_eq_self.mpr (fun _ _ => rfl), List.map_map]
      rfl
    · congr 1
      rw [List.all_eq_true]
      intro b hb
      obtain ⟨_, _, rfl⟩ := List.mem_map.mp hb
      rfl
    refine x_no e2 (et_not (a := true) (et_B (ev_fn (ea_cons (ev_var rfl) (ea_cons (elen rfl) ea_nil)) (v_is_tail htl (by have := ok.n1; omega) (by have := ok.nl; omega))))) fun H3 e3 _ => ?_
    refine x_fldL e3 (el_listS (es_of (ev_var rfl) hgl)) (ev_var rfl) (e3 _ _ hx) T.c_Rule T.n_Rule_listed (by decide) fun l H4 hl e4 hl4 => ?_
    have e4' := e3.trans e4
    have nxl : x ≠ l := ne_of (e4' _ _ hx) hl4 (by intro z; cases z)
    refine x_fld (G := hide H [x]) (y := .ref tl) (ExB.ex (ExB.upd (l := [x]) (List.mem_singleton.mpr rfl)) (hide_ex.trans e4') (fun b hb => hide_in hb)) (ev_var rfl) (ev_var rfl) upd_same T.c_Rule T.n_Rule_ending (l1k (lp lz) (by decide)) fun H5 e5 => ?_
    have b5 : ExB [x] H H5 := (ExB.of e4').trans ((ExB.upd (List.mem_singleton.mpr rfl)).trans (ExB.of e5))
    have hl5 : H5 l = some (.lst (gs.map V.int)) := e5 _ _ (by rw [upd_ne nxl.symm]; exact hl4)
    refine x_fldL (G := hide H [x]) (xs := [.int 0]) (ExB.ex (b5.trans (ExB.upd (List.mem_singleton.mpr rfl))) hide_ex (fun b hb => hide_in hb)) (el_lst (ea_cons ev_c ea_nil) (by decide)) (ev_var rfl) upd_same T.c_Rule T.n_Rule_sums (l1k (lp (lp lz)) (by decide)) fun s H6 hs e6 hs6 => ?_
    rw [pt_rule']
    have b6 : ExB [x] H H6 := b5.trans ((ExB.upd (List.mem_singleton.mpr rfl)).trans (ExB.of e6))
    have hl6 : H6 l = some (.lst (gs.map V.int)) := e6 _ _ (by rw [upd_ne nxl.symm]; exact hl5)
    have nxs : x ≠ s := ne_of (e6 _ _ upd_same) hs6 (by intro z; cases z)
    have hsn : H s = none := by
      cases q : H s with
      | none => rfl
      | some o =>
        have q2 := b5 s o (by simpa using nxs.symm) q
        rw [upd_ne nxs.symm] at hs
        rw [q2] at hs
        cases hs
    have nls : l ≠ s := fun z => by
      rw [← z, upd_ne nxl.symm, hl5] at hs
      cases hs
    have hO : upd H6 x (.ins (cRule K) dx (ruleF l tl s)) x = some (.ins (cRule K) dx (ruleF l tl s)) := upd_same
    refine x_forLst (G := hide H [x]) (p := gl) (xs := gs.map V.int) (ExB.ex (b6.trans (ExB.upd (List.mem_singleton.mpr rfl))) hide_ex (fun b hb => hide_in hb)) (ev_var rfl) (fun H1 e => sq_of (e _ _ (by rw [hide_out (by simpa using hne1.symm)]; exact hgl)))
      (fun i σ' H' => (∃ v : Option V, σ' = [some (.ref x), some (.ref gl), some (.ref tl), v]) ∧ ExB [x, s] H H' ∧ H' x = some (.ins (cRule K) dx (ruleF l tl s)) ∧ H' l = some (.lst (gs.map V.int)) ∧ H' s = some (.lst ((List.range (i + 1)).map fun k => V.int (pre gs k)))) ?_ ?_ ?_ ?_
    · intro H7 e7 e8
      exact ⟨⟨none, rfl⟩, (b6.trans ((ExB.upd (List.mem_singleton.mpr rfl)).trans (ExB.of e8))).mono (fun b hb => List.mem_cons.mpr (.inl (List.mem_singleton.mp hb))), e8 _ _ upd_same, e8 _ _ (by rw [upd_ne nxl.symm]; exact hl6), e8 _ _ (by rw [upd_ne nxs.symm]; exact hs6)⟩
    · rintro i σ' H' hi' ⟨_, bb, _⟩
      exact sq_of (bb gl _ (by
        intro z
        rcases List.mem_cons.mp z with z | z
        · exact hne1 z.symm
        · rw [List.mem_singleton.mp z, hsn] at hgl
          cases hgl) hgl)
    · rintro i g σ' H' hg ⟨⟨v, rfl⟩, bb, ox, ol, os⟩
      rw [List.getElem?_map] at hg
      obtain ⟨g0, hg0, e0⟩ := Option.map_eq_some_iff.mp hg
      subst e0
      have hil := (List.getElem?_eq_some_iff.mp hg0).1
      have egi : gs[i] = g0 := (List.getElem?_eq_some_iff.mp hg0).2
      refine s_app (l := s) (v := .int (pre gs (i + 1))) os (ev_fld (ev_var rfl) ox T.c_Rule T.n_Rule_sums lk_sums) (ev_is (ev_op (ev_ixS (es_of (ev_fld (ev_var rfl) ox T.c_Rule T.n_Rule_sums lk_sums) os) (ev_un ev_c ru_neg) (v := .int (pre gs i)) (atI_neg ?_ ?_)) (ev_var rfl) rv_I0) ?_) ?_ fun H7 e7 => ?_
      · rw [List.length_map, List.length_range]
        omega
      · rw [List.length_map, List.length_range, List.getElem?_map, List.getElem?_range (by omega)]
        rfl
      · rw [pre_succ hil, egi]
      · rw [List.length_map, List.length_range]
        omega
      · refine ⟨⟨_, rfl⟩, bb.trans ((ExB.of e7).trans (ExB.upd (List.mem_cons.mpr (.inr (List.mem_singleton.mpr rfl))))), by rw [upd_ne nxs]; exact e7 _ _ ox, by rw [upd_ne nls]; exact e7 _ _ ol, ?_⟩
        rw [upd_same, List.range_succ (n := i + 1), List.map_append]
        rfl
    · rintro σ' H' ⟨_, bb, ox, ol, os⟩
      rw [List.length_map] at os
      have ht' : H' tl = some (.tup [.str "repeat", .int n]) := bb tl _ (by
        intro z
        rcases List.mem_cons.mp z with z | z
        · exact hne2 z.symm
        · rw [List.mem_singleton.mp z, hsn] at htl
          cases htl) htl
      refine k H' ⟨x, dx, l, tl, s⟩ rfl (fresh_back e3 hl) hsn ⟨ox, ol, ht', os, ok, hi, sz⟩ fun b o hb e => bb b o (fun z => ?_) e
      rcases List.mem_cons.mp z with z | z
      · exact hb (List.mem_singleton.mpr z)
      · rw [List.mem_singleton.mp z, hsn] at e
        cases e
end
end RS
end

section
set_option Elab.async false
set_option linter.all false
set_option maxRecDepth 100000
set_option maxHeartbeats 4000000
namespace RS
open PySem PySem.Spec PyProof.Rows L2 Evl
/-! ### a scene that stands -/
structure WinA (G : Hp) (rs : List Addr) (ws : List (Int × Int)) : Prop where
  len : rs.length = ws.length
  at_ : ∀ (i : Nat) (r : Addr), rs[i]? = some r → ∃ w, ws[i]? = some w ∧ G r = some (.tup [.int w.1, .int w.2])
theorem WinA.mono {G H : Hp} {rs : List Addr} {ws : List (Int × Int)} (W : WinA G rs ws) (e : Ex G H) : WinA H rs ws := ⟨W.len, fun i r h => by
  obtain ⟨w, h1, h2⟩ := W.at_ i r h
  exact ⟨w, h1, e _ _ h2⟩⟩
theorem WinA.get {G : Hp} {rs : List Addr} {ws : List (Int × Int)} (W : WinA G rs ws) {i : Nat} (h : i < rs.length) : G (rs.getD i 0) = some (.tup [.int (ws.getD i (0, 0)).1, .int (ws.getD i (0, 0)).2]) ∧ (rs.map V.ref)[i]? = some (.ref (rs.getD i 0)) := by
  obtain ⟨w, h1, h2⟩ := W.at_ i rs[i] (List.getElem?_eq_getElem h)
  rw [List.getD_eq_getElem?_getD, List.getElem?_eq_getElem h, Option.getD_some, List.getD_eq_getElem?_getD, h1, Option.getD_some, List.getElem?_map, List.getElem?_eq_getElem h]
  exact ⟨h2, rfl⟩
structure SA where
  p : Addr
  dx : Addr
  ra : RA
  st : Addr
  ws : Addr
  rs : List Addr
structure SceneA (K : PySem.W.Frag) (G : Hp) (a : SA) (S : Sc) : Prop where
  o : G a.p = some (.ins (cScene K) a.dx (sceneF a.ra.r a.st a.ws S.ln))
  ru : RuleA K G a.ra S.gs S.n
  st : G a.st = some (.lst (S.st.map V.int))
  wl : G a.ws = some (.lst (a.rs.map V.ref))
  wn : WinA G a.rs S.ws
  n0 : 1 ≤ S.N
  n40 : S.N ≤ 40
  w10 : S.ws.length ≤ 10
  ln1 : 1 ≤ S.ln
theorem SceneA.mono {K : PySem.W.Frag} {G H : Hp} {a : SA} {S : Sc} (X : SceneA K G a S) (e : Ex G H) : SceneA K H a S :=
  ⟨e _ _ X.o, X.ru.mono e, e _ _ X.st, e _ _ X.wl, X.wn.mono e, X.n0, X.n40, X.w10, X.ln1⟩
theorem s0_at {S : Sc} {c : Nat} (h : c < S.N) : (S.st.map V.int)[c]? = some (.int (S.s0 c)) := by
  unfold Sc.s0
  rw [List.getElem?_map, List.getD_eq_getElem?_getD, List.getElem?_eq_getElem h]
  rfl
theorem s0_atI {S : Sc} {c : Nat} (h : c < S.N) : atI (S.st.map V.int) (c : Int) = some (.int (S.s0 c)) := atI_nat (s0_at h)
/-- the windows that contain a slot, the first of them -/
def outL (S : Sc) (x : Int) : List Nat := (List.range S.ws.length).filter fun i => decide ((S.ws.getD i (0, 0)).1 ≤ x) && decide (x < (S.ws.getD i (0, 0)).2)
def outV (S : Sc) (x : Int) : V := match outL S x with
  | [] => .non
  | i :: _ => .int (i : Int)
theorem mem_outL {S : Sc} {x : Int} {i : Nat} : i ∈ outL S x ↔ i < S.ws.length ∧ (S.ws.getD i (0, 0)).1 ≤ x ∧ x < (S.ws.getD i (0, 0)).2 := by
  unfold outL
  rw [List.mem_filter, List.mem_range, Bool.and_eq_true, decide_eq_true_eq, decide_eq_true_eq]
theorem outV_non {S : Sc} {x : Int} (h : outV S x = .non) : ¬ S.inW x := by
  rintro ⟨w, hw, h1, h2⟩
  obtain ⟨i, hi, e⟩ := List.mem_iff_getElem.mp hw
  have hm : i ∈ outL S x := mem_outL.mpr ⟨hi, by rw [List.getD_eq_getElem?_getD, List.getElem?_eq_getElem hi, e]; exact ⟨h1, h2⟩⟩
  unfold outV at h
  cases q : outL S x with
  | nil =>
    rw [q] at hm
    cases hm
  | cons j r =>
    rw [q] at h
    cases h
theorem outV_cases (S : Sc) (x : Int) : outV S x = .non ∨ ∃ i : Nat, outV S x = .int (i : Int) ∧ i < S.ws.length ∧ (S.ws.getD i (0, 0)).1 ≤ x ∧ x < (S.ws.getD i (0, 0)).2 := by
  unfold outV
  cases q : outL S x with
  | nil => exact .inl rfl
  | cons j r => exact .inr ⟨j, rfl, mem_outL.mp (by rw [q]; exact List.mem_cons_self)⟩
theorem outV_none {S : Sc} {x : Int} (h : ¬ S.inW x) : outV S x = .non := by
  rcases outV_cases S x with q | ⟨i, _, hi, h1, h2⟩
  · exact q
  · exact absurd ⟨S.ws[i], List.getElem_mem hi, by rw [List.getD_eq_getElem?_getD, List.getElem?_eq_getElem hi] at h1 h2; exact ⟨h1, h2⟩⟩ h
/-- the moments, as they are gathered -/
def msOf (S : Sc) : List Int := S.st ++ S.ws.flatMap (fun w => [w.1, w.2]) ++ (List.range S.N).flatMap fun c => (List.range (S.u + 1)).map fun i => S.slot c i
theorem mem_msOf {S : Sc} {x : Int} : x ∈ msOf S ↔ S.IsMo x := by
  unfold msOf Sc.IsMo
  simp only [List.mem_append, List.mem_flatMap, List.mem_map, List.mem_range, List.mem_cons, List.not_mem_nil, or_false]
  constructor
  · rintro ((h | ⟨w, hw, h⟩) | ⟨c, hc, i, hi, h⟩)
    · exact .inl h
    · exact .inr (.inl ⟨w, hw, h⟩)
    · exact .inr (.inr ⟨c, i, hc, by omega, h.symm⟩)
  · rintro (h | ⟨w, hw, h⟩ | ⟨c, i, hc, hi, h⟩)
    · exact .inl (.inl h)
    · exact .inl (.inr ⟨w, hw, h⟩)
    · exact .inr ⟨c, hc, i, by omega, h.symm⟩
section
variable {P : Program} {w : World} {K : PySem.W.Frag} {mg : Str → Option Value} {base : Heap} {G : Hp} {a : SA} {S : Sc} {σ : L2.St} {ta : TE}
theorem e_its_rule (T : Txt K mg) (X : SceneA K G a S) (h : Ev ta σ G (.ref a.p)) : Ev (tFld K ta "its_rule") σ G (.ref a.ra.r) := ev_fld h X.o T.c_Scene T.n_Scene_its_rule lk_its_rule
theorem e_its_starts (T : Txt K mg) (X : SceneA K G a S) (h : Ev ta σ G (.ref a.p)) : Ev (tFld K ta "its_starts") σ G (.ref a.st) := ev_fld h X.o T.c_Scene T.n_Scene_its_starts lk_its_starts
theorem e_windows (T : Txt K mg) (X : SceneA K G a S) (h : Ev ta σ G (.ref a.p)) : Ev (tFld K ta "windows") σ G (.ref a.ws) := ev_fld h X.o T.c_Scene T.n_Scene_windows lk_windows
theorem e_its_length (T : Txt K mg) (X : SceneA K G a S) (h : Ev ta σ G (.ref a.p)) : Ev (tFld K ta "its_length") σ G (.int S.ln) := ev_fld h X.o T.c_Scene T.n_Scene_its_length lk_its_length
theorem e_len_starts (T : Txt K mg) (X : SceneA K G a S) (h : Ev ta σ G (.ref a.p)) : Ev (tCB (rLenS K) (tCons (tFld K ta "its_starts") tNil)) σ G (.int (S.N : Int)) := ev_is (ev_lenS (es_of (e_its_starts T X h) X.st)) (by rw [List.length_map]; rfl)
/-- self.its_starts[client] -/
theorem e_start (T : Txt K mg) (X : SceneA K G a S) (h : Ev ta σ G (.ref a.p)) {c : Nat} (hc : c < S.N) {tb : TE} (h' : Ev tb σ G (.int (c : Int))) : Ev (tOp (rIxL K) (tFld K ta "its_starts") tb) σ G (.int (S.s0 c)) := ev_ixS (es_of (e_its_starts T X h) X.st) h' (s0_atI hc)
/-! ### checks -/
def sp_check_starts : Sp := SpR fun vs H z => ∃ (p : Addr) (ns : List Int), vs = [.ref p] ∧ H p = some (.lst (ns.map V.int)) ∧ 1 ≤ ns.length ∧ ns.length ≤ 40 ∧ z = .non
theorem ok_check_starts (T : Txt K mg) : ∃ fd, CalG P w K mg base 2 "check_starts" (He.ga K "check_starts") fd ["starts"] sp_check_starts := by
  obtain ⟨t_MOST_CLIENTS, i_MOST_CLIENTS⟩ := T.i_MOST_CLIENTS
  obtain ⟨fd_is_integer, c_is_integer⟩ := ok_is_integer (P := P) (w := w) (base := base) T
  obtain ⟨fd, F⟩ := T.f_check_starts
  refine ⟨fd, T.g_check_starts, F.kp, F.ok sc_check_starts (fun vs H Q E h => ?_) (fun cdv A outer s H vs Q E hr h => ?_), F.bindsN fun _ _ _ _ _ _ us hl => match us, hl with | [_], _ => rfl⟩
  · obtain ⟨_, ⟨_, _, rfl, _⟩, _⟩ := h
    rfl
  · obtain ⟨z, ⟨p, ns, rfl, hp, h1, h2, rfl⟩, k⟩ := h
    refine ⟨_, PSs.nox (pss_cons (ps_if (PW.pt (pw_or (pt_not (pt_val (pe_callB call_isi (by rfl) T.b_isinstance (by decide +kernel) (pa_cons (pv 0) (pa_cons (pe_bltn (v := .ty "list") (u := .type "list") (by rfl) T.b_list (by decide +kernel) rfl) pa_nil))))) (pw_or1 (pt_not (pt_chain op_le op_le pe_int (pe_callB call_len_seq (by rfl) T.b_len (by decide +kernel) (pa_cons (pv 0) pa_nil)) (pe_glob (v := .int 40) (by rfl) i_MOST_CLIENTS ⟨_, rfl⟩)))))) (pss_one ps_never) pss_nil)
      (pss_one (ps_for PassesOwn.never rfl (pi_enum (by rfl) T.b_enumerate (pa_cons (pv 0) pa_nil)) (pg_tup rfl (pgs_cons (pg_name (i := 1) sc_check_starts.nd rfl (by first | exact Or.inl rfl | exact Or.inr rfl)) (pgs_cons (pg_name (i := 2) sc_check_starts.nd rfl (by first | exact Or.inl rfl | exact Or.inr rfl)) pgs_nil))) (pss_one (ps_if (pt_not (pt_val (pe_call c_is_integer.ok (hr.mono (by decide)) (by rfl) c_is_integer.gl c_is_integer.kp c_is_integer.b .nil pass0 (pa_cons (pv 2) pa_nil)))) (pss_one ps_never) pss_nil))))), ?_⟩
    refine x_no (Ex.refl H) (et_or (a := false) (et_not (a := true) (et_B (ev_isi (b := true) (ev_var rfl) ev_c (.ty _) (fun _ e => .base (.lst (e _ _ hp))) (kit_ty (by decide +kernel))))) fun _ => et_not (a := true) (et_test (ev_is (ev_chain ev_c (ev_lenS (es_of (ev_var rfl) hp)) rv_I0 (fun _ => ev_c) (fun _ => rv_I0)) ?_))) fun H1 e1 _ => ?_
    · rw [List.length_map, decide_eq_true (show (1 : Int) ≤ (ns.length : Int) by omega), decide_eq_true (show (ns.length : Int) ≤ 40 by omega)]
      rfl
    refine x_forEL e1 (ev_var rfl) hp (fun i σ' H' => (∃ u v : Option V, σ' = [some (.ref p), u, v]) ∧ Ex H H') (fun H2 e2 _ => ⟨⟨none, none, rfl⟩, e2⟩) (fun _ _ _ _ q => q.2) ?_ (fun σ' H' q => k H' q.2)
    rintro i x σ' H' H'' hx ⟨⟨u, v, rfl⟩, e2⟩ e3
    rw [List.getElem?_map] at hx
    obtain ⟨j, _, rfl⟩ := Option.map_eq_some_iff.mp hx
    exact x_noL (e2.trans e3) (et_not (a := true) (et_B (ev_fn (ea_cons (ev_var rfl) ea_nil) (v_is_integer _)))) fun H4 e4 _ => ⟨⟨_, _, rfl⟩, e4⟩
def sp_is_window : Sp := SpR fun vs H z => ∃ (p : Addr) (i j : Int), vs = [.ref p] ∧ H p = some (.tup [.int i, .int j]) ∧ i < j ∧ z = .bl true
theorem ok_is_window (T : Txt K mg) : ∃ fd, CalG P w K mg base 2 "is_window" (He.ga K "is_window") fd ["value"] sp_is_window := by
  obtain ⟨fd_is_integer, c_is_integer⟩ := ok_is_integer (P := P) (w := w) (base := base) T
  obtain ⟨fd, F⟩ := T.f_is_window
  refine ⟨fd, T.g_is_window, F.kp, F.ok sc_is_window (fun vs H Q E h => ?_) (fun cdv A outer s H vs Q E hr h => ?_), F.bindsN fun _ _ _ _ _ _ us hl => match us, hl with | [_], _ => rfl⟩
  · obtain ⟨_, ⟨_, _, _, rfl, _⟩, _⟩ := h
    rfl
  · obtain ⟨z, ⟨p, i, j, rfl, hp, h1, rfl⟩, k⟩ := h
    refine ⟨_, PSs.nox (pss_cons (ps_if (PW.pt (pw_or (pt_not (pt_val (pe_callB call_isi (by rfl) T.b_isinstance (by decide +kernel) (pa_cons (pv 0) (pa_cons (pe_bltn (v := .ty "tuple") (u := .type "tuple") (by rfl) T.b_tuple (by decide +kernel) rfl) pa_nil))))) (pw_or1 (pt_cmpR op_ne (pe_callB call_len_seq (by rfl) T.b_len (by decide +kernel) (pa_cons (pv 0) pa_nil)) pe_int (nomark _))))) (pss_one (ps_ret pe_bl)) pss_nil)
      (pss_one (ps_ret (pe_and (pe_call c_is_integer.ok (hr.mono (by decide)) (by rfl) c_is_integer.gl c_is_integer.kp c_is_integer.b .nil pass0 (pa_cons (pe_ix ix_tup (pv 0) pe_int (fun _ _ => rfl)) pa_nil)) (pe_and (pe_call c_is_integer.ok (hr.mono (by decide)) (by rfl) c_is_integer.gl c_is_integer.kp c_is_integer.b .nil pass0 (pa_cons (pe_ix ix_tup (pv 0) pe_int (fun _ _ => rfl)) pa_nil)) (pe_one (pe_cmpR op_lt (pe_ix ix_tup (pv 0) pe_int (fun _ _ => rfl)) (pe_ix ix_tup (pv 0) pe_int (fun _ _ => rfl)) (nomark _)))))))), ?_⟩
    have e0 : Ev (tOp (rIxT K) (tVar 0) (tC (.int 0))) [some (.ref p)] H (.int i) := ev_ixU (esu_of (ev_var rfl) hp) ev_c rfl
    have e1 : Ev (tOp (rIxT K) (tVar 0) (tC (.int 1))) [some (.ref p)] H (.int j) := ev_ixU (esu_of (ev_var rfl) hp) ev_c rfl
    refine x_no (Ex.refl H) (et_or (a := false) (et_not (a := true) (et_B (ev_isi (b := true) (ev_var rfl) ev_c (.ty _) (fun _ e => .base (.tup (e _ _ hp))) (kit_ty (by decide +kernel))))) fun _ => et_test (ev_op (ev_lenU (esu_of (ev_var rfl) hp)) ev_c (rv_neI rfl))) fun H1 e2 _ => ?_
    exact x_ret e2 (ev_andV (a := true) (b := true) (ev_fn (ea_cons e0 ea_nil) (v_is_integer _)) fun _ => ev_andV (a := true) (b := true) (ev_fn (ea_cons e1 ea_nil) (v_is_integer _)) fun _ => ev_op e0 e1 (rv_B (decide_eq_true h1))) fun H2 e3 _ => k H2 e3
theorem v_is_window {p : Addr} {i j : Int} (hp : G p = some (.tup [.int i, .int j])) (h : i < j) : SpV sp_is_window [.ref p] G (.bl true) := sp_r fun _ e => ⟨p, i, j, rfl, e _ _ hp, h, rfl⟩
/-- windows in order -/
def WinOk (ws : List (Int × Int)) : Prop := (∀ i, i < ws.length → (ws.getD i (0, 0)).1 < (ws.getD i (0, 0)).2) ∧ ∀ i, i + 1 < ws.length → (ws.getD i (0, 0)).2 ≤ (ws.getD (i + 1) (0, 0)).1
def sp_check_outages : Sp := SpR fun vs H z => ∃ (p : Addr) (rs : List Addr) (ws : List (Int × Int)), vs = [.ref p] ∧ H p = some (.lst (rs.map V.ref)) ∧ WinA H rs ws ∧ ws.length ≤ 10 ∧ WinOk ws ∧ z = .non
theorem ok_check_outages (T : Txt K mg) : ∃ fd, CalG P w K mg base 3 "check_outages" (He.ga K "check_outages") fd ["outages"] sp_check_outages := by
  obtain ⟨t_MOST_OUTAGES, i_MOST_OUTAGES⟩ := T.i_MOST_OUTAGES
  obtain ⟨fd_is_window, c_is_window⟩ := ok_is_window (P := P) (w := w) (base := base) T
  obtain ⟨fd, F⟩ := T.f_check_outages
  refine ⟨fd, T.g_check_outages, F.kp, F.ok sc_check_outages (fun vs H Q E h => ?_) (fun cdv A outer s H vs Q E hr h => ?_), F.bindsN fun _ _ _ _ _ _ us hl => match us, hl with | [_], _ => rfl⟩
  · obtain ⟨_, ⟨_, _, _, rfl, _⟩, _⟩ := h
    rfl
  · obtain ⟨z, ⟨p, rs, ws, rfl, hp, W, h10, hok, rfl⟩, k⟩ := h
    refine ⟨_, PSs.nox (pss_cons (ps_if (PW.pt (pw_or (pt_not (pt_val (pe_callB call_isi (by rfl) T.b_isinstance (by decide +kernel) (pa_cons (pv 0) (pa_cons (pe_bltn (v := .ty "list") (u := .type "list") (by rfl) T.b_list (by decide +kernel) rfl) pa_nil))))) (pw_or1 (pt_cmpR op_gt (pe_callB call_len_seq (by rfl) T.b_len (by decide +kernel) (pa_cons (pv 0) pa_nil)) (pe_glob (v := .int 10) (by rfl) i_MOST_OUTAGES ⟨_, rfl⟩) (nomark _))))) (pss_one ps_never) pss_nil)
      (pss_one (ps_for PassesOwn.never rfl (pi_enum (by rfl) T.b_enumerate (pa_cons (pv 0) pa_nil)) (pg_tup rfl (pgs_cons (pg_name (i := 1) sc_check_outages.nd rfl (by first | exact Or.inl rfl | exact Or.inr rfl)) (pgs_cons (pg_name (i := 2) sc_check_outages.nd rfl (by first | exact Or.inl rfl | exact Or.inr rfl)) pgs_nil))) (pss_one (ps_if (PW.pt (pw_or (pt_not (pt_val (pe_call c_is_window.ok (hr.mono (by decide)) (by rfl) c_is_window.gl c_is_window.kp c_is_window.b .nil pass0 (pa_cons (pv 2) pa_nil)))) (pw_or1 (PW.pt (pw_and (pt_cmpR op_gt (pv 1) pe_int (nomark _)) (pw_and1 (pt_cmpR op_lt (pe_ix ix_tup (pv 2) pe_int (fun _ _ => rfl)) (pe_ix ix_tup (pe_ix ix_list (pv 0) (pe_op op_sub (pv 1) pe_int) (fun _ _ => rfl)) pe_int (fun _ _ => rfl)) (nomark _)))))))) (pss_one ps_never) pss_nil))))), ?_⟩
    have hl := W.len
    refine x_no (Ex.refl H) (et_or (a := false) (et_not (a := true) (et_B (ev_isi (b := true) (ev_var rfl) ev_c (.ty _) (fun _ e => .base (.lst (e _ _ hp))) (kit_ty (by decide +kernel))))) fun _ => et_test (ev_op (ev_lenS (es_of (ev_var rfl) hp)) ev_c (rv_B (decide_eq_false (by rw [List.length_map]; omega))))) fun H1 e1 _ => ?_
    refine x_forEL e1 (ev_var rfl) hp (fun i σ' H' => (∃ u v : Option V, σ' = [some (.ref p), u, v]) ∧ Ex H H') (fun H2 e2 _ => ⟨⟨none, none, rfl⟩, e2⟩) (fun _ _ _ _ q => q.2) ?_ (fun σ' H' q => k H' q.2)
    rintro i x σ' H' H'' hx ⟨⟨u, v, rfl⟩, e2⟩ e3
    have hi : i < rs.length := by
      have := (List.getElem?_eq_some_iff.mp hx).1
      rw [List.length_map] at this
      exact this
    obtain ⟨hg, hx'⟩ := W.get hi
    rw [hx'] at hx
    cases hx
    refine x_noL (e2.trans e3) (et_or (a := false) (et_not (a := true) (et_B (ev_fn (ea_cons (ev_var rfl) ea_nil) (v_is_window hg (hok.1 i (by omega)))))) fun _ => ?_) fun H4 e4 _ => ⟨⟨_, _, rfl⟩, e4⟩
    by_cases h0 : 0 < i
    · obtain ⟨hg', hx2⟩ := W.get (show i - 1 < rs.length by omega)
      have h3 := hok.2 (i - 1) (by omega)
      have e5 : i - 1 + 1 = i := by omega
      rw [e5] at h3
      exact et_and (a := true) (b := false) (et_test (ev_op (ev_var rfl) ev_c (rv_B (decide_eq_true (by omega))))) fun _ => et_test (ev_op (ev_ixU (esu_of (ev_var rfl) hg) ev_c rfl)
        (ev_ixU (esu_of (ev_ixS (es_of (ev_var rfl) hp) (ev_op (ev_var rfl) ev_c rv_I0) (at_of (j := i - 1) (by omega) hx2)) hg') ev_c rfl) (rv_B (decide_eq_false (by omega))))
    · exact et_andF (et_test (ev_op (ev_var rfl) ev_c (rv_B (decide_eq_false (by omega)))))
/-! ### the methods -/
def SpScene (K : PySem.W.Frag) (A : Sc → SA → List V → V → Prop) (k : Nat) : Sp := SpR fun vs H z => ∃ (a : SA) (S : Sc) (us : List V), vs = .ref a.p :: us ∧ us.length = k ∧ SceneA K H a S ∧ A S a us z
def SpSceneL (K : PySem.W.Frag) (A : Sc → SA → List V → List V → Prop) (k : Nat) : Sp := SpN fun vs H z => ∃ (a : SA) (S : Sc) (us : List V), vs = .ref a.p :: us ∧ us.length = k ∧ SceneA K H a S ∧ A S a us z
theorem v_scene {A : Sc → SA → List V → V → Prop} {k : Nat} {us : List V} {z : V} (X : SceneA K G a S) (h : A S a us z) (hk : us.length = k) : SpV (SpScene K A k) (.ref a.p :: us) G z := sp_r fun _ e => ⟨a, S, us, rfl, hk, X.mono e, h⟩
theorem l_scene {A : Sc → SA → List V → List V → Prop} {k : Nat} {us : List V} {z : List V} (X : SceneA K G a S) (h : A S a us z) (hk : us.length = k) : SpL (SpSceneL K A k) (.ref a.p :: us) G z := sp_n fun _ e => ⟨a, S, us, rfl, hk, X.mono e, h⟩
theorem SpScene.len {A : Sc → SA → List V → V → Prop} {k : Nat} {vs : List V} {H : Hp} {Q : VK} {E : XK} (h : SpScene K A k vs H Q E) : vs.length = k + 1 := by
  obtain ⟨_, ⟨_, _, us, rfl, hk, _⟩, _⟩ := h
  rw [List.length_cons, hk]
theorem SpSceneL.len {A : Sc → SA → List V → List V → Prop} {k : Nat} {vs : List V} {H : Hp} {Q : VK} {E : XK} (h : SpSceneL K A k vs H Q E) : vs.length = k + 1 := by
  obtain ⟨_, ⟨_, _, us, rfl, hk, _⟩, _⟩ := h
  rw [List.length_cons, hk]
def sp_Scene_rule (K : PySem.W.Frag) : Sp := SpScene K (fun _ a us z => us = [] ∧ z = .ref a.ra.r) 0
theorem ok_Scene_rule (T : Txt K mg) : ∃ fd, CalM P w K mg base 1 (cScene K) "rule" (He.ma K (cScene K) "rule") fd ["self"] (sp_Scene_rule K) := by
  obtain ⟨fd, F⟩ := T.f_Scene_rule
  refine ⟨fd, T.m_Scene_rule, F.ok sc_Scene_rule (fun vs H Q E h => ?_) (fun cdv A outer s H vs Q E hr h => ?_), F.bindsN fun _ _ _ _ _ _ us hl => match us, hl with | [_], _ => rfl⟩
  · exact h.len
  · obtain ⟨z, ⟨a, S, us, rfl, _, X, rfl, rfl⟩, k⟩ := h
    refine ⟨_, PSs.nox (pss_one (ps_ret (pe_fld (pv 0) rfl))), ?_⟩
    exact x_ret (Ex.refl H) (e_its_rule T X (ev_var rfl)) fun H1 e _ => k H1 e
def sp_Scene_length (K : PySem.W.Frag) : Sp := SpScene K (fun S _ us z => us = [] ∧ z = .int S.ln) 0
theorem ok_Scene_length (T : Txt K mg) : ∃ fd, CalM P w K mg base 1 (cScene K) "length" (He.ma K (cScene K) "length") fd ["self"] (sp_Scene_length K) := by
  obtain ⟨fd, F⟩ := T.f_Scene_length
  refine ⟨fd, T.m_Scene_length, F.ok sc_Scene_length (fun vs H Q E h => ?_) (fun cdv A outer s H vs Q E hr h => ?_), F.bindsN fun _ _ _ _ _ _ us hl => match us, hl with | [_], _ => rfl⟩
  · exact h.len
  · obtain ⟨z, ⟨a, S, us, rfl, _, X, rfl, rfl⟩, k⟩ := h
    refine ⟨_, PSs.nox (pss_one (ps_ret (pe_fld (pv 0) rfl))), ?_⟩
    exact x_ret (Ex.refl H) (e_its_length T X (ev_var rfl)) fun H1 e _ => k H1 e
def sp_Scene_starts (K : PySem.W.Frag) : Sp := SpSceneL K (fun S _ us z => us = [] ∧ z = S.st.map V.int) 0
theorem ok_Scene_starts (T : Txt K mg) : ∃ fd, CalM P w K mg base 1 (cScene K) "starts" (He.ma K (cScene K) "starts") fd ["self"] (sp_Scene_starts K) := by
  obtain ⟨fd, F⟩ := T.f_Scene_starts
  refine ⟨fd, T.m_Scene_starts, F.ok sc_Scene_starts (fun vs H Q E h => ?_) (fun cdv A outer s H vs Q E hr h => ?_), F.bindsN fun _ _ _ _ _ _ us hl => match us, hl with | [_], _ => rfl⟩
  · exact h.len
  · obtain ⟨z, ⟨a, S, us, rfl, _, X, rfl, rfl⟩, k⟩ := h
    refine ⟨_, PSs.nox (pss_one (ps_ret (pe_callTy call_list_of (by rfl) T.b_list (by decide +kernel) (pa_cons (pe_fld (pv 0) rfl) pa_nil)))), ?_⟩
    exact x_retL (Ex.refl H) (el_listS (es_of (e_its_starts T X (ev_var rfl)) X.st)) fun p H1 e hp _ h1 => k p H1 hp e h1
def sp_Scene_outages (K : PySem.W.Frag) : Sp := SpSceneL K (fun _ a us z => us = [] ∧ z = a.rs.map V.ref) 0
theorem ok_Scene_outages (T : Txt K mg) : ∃ fd, CalM P w K mg base 1 (cScene K) "outages" (He.ma K (cScene K) "outages") fd ["self"] (sp_Scene_outages K) := by
  obtain ⟨fd, F⟩ := T.f_Scene_outages
  refine ⟨fd, T.m_Scene_outages, F.ok sc_Scene_outages (fun vs H Q E h => ?_) (fun cdv A outer s H vs Q E hr h => ?_), F.bindsN fun _ _ _ _ _ _ us hl => match us, hl with | [_], _ => rfl⟩
  · exact h.len
  · obtain ⟨z, ⟨a, S, us, rfl, _, X, rfl, rfl⟩, k⟩ := h
    refine ⟨_, PSs.nox (pss_one (ps_ret (pe_callTy call_list_of (by rfl) T.b_list (by decide +kernel) (pa_cons (pe_fld (pv 0) rfl) pa_nil)))), ?_⟩
    exact x_retL (Ex.refl H) (el_listS (es_of (e_windows T X (ev_var rfl)) X.wl)) fun p H1 e hp _ h1 => k p H1 hp e h1
def sp_Scene_check_client (K : PySem.W.Frag) : Sp := SpScene K (fun S _ us z => ∃ c : Nat, us = [.int c] ∧ c < S.N ∧ z = .non) 1
theorem ok_Scene_check_client (T : Txt K mg) : ∃ fd, CalM P w K mg base 3 (cScene K) "check_client" (He.ma K (cScene K) "check_client") fd ["self", "client"] (sp_Scene_check_client K) := by
  obtain ⟨fd_is_between, c_is_between⟩ := ok_is_between (P := P) (w := w) (base := base) T
  obtain ⟨fd, F⟩ := T.f_Scene_check_client
  refine ⟨fd, T.m_Scene_check_client, F.ok sc_Scene_check_client (fun vs H Q E h => ?_) (fun cdv A outer s H vs Q E hr h => ?_), F.bindsN fun _ _ _ _ _ _ us hl => match us, hl with | [_, _], _ => rfl⟩
  · exact h.len
  · obtain ⟨z, ⟨a, S, us, rfl, _, X, c, rfl, hc, rfl⟩, k⟩ := h
    refine ⟨_, PSs.nox (pss_one (ps_if (pt_not (pt_val (pe_call c_is_between.ok (hr.mono (by decide)) (by rfl) c_is_between.gl c_is_between.kp c_is_between.b .nil pass0 (pa_cons (pv 1) (pa_cons pe_int (pa_cons (pe_op op_sub (pe_callB call_len_seq (by rfl) T.b_len (by decide +kernel) (pa_cons (pe_fld (pv 0) rfl) pa_nil)) pe_int) pa_nil)))))) (pss_one ps_never) pss_nil)), ?_⟩
    refine x_noL (Ex.refl H) (et_not (a := true) (et_B (ev_is (ev_fn (ea_cons (ev_var rfl) (ea_cons ev_c (ea_cons (ev_op (e_len_starts T X (ev_var rfl)) ev_c rv_I0) ea_nil))) (v_is_between _ _ _)) ?_))) fun H1 e _ => k H1 e
    rw [decide_eq_true (show (0 : Int) ≤ (c : Int) by omega), decide_eq_true (show (c : Int) ≤ (S.N : Int) - 1 by omega)]
    rfl
def sp_Scene_slot_of (K : PySem.W.Frag) : Sp := SpScene K (fun S _ us z => ∃ c j : Nat, us = [.int c, .int j] ∧ c < S.N ∧ z = .int (S.slot c j)) 2
theorem ok_Scene_slot_of (T : Txt K mg) : ∃ fd, CalM P w K mg base 4 (cScene K) "slot_of" (He.ma K (cScene K) "slot_of") fd ["self", "client", "attempt"] (sp_Scene_slot_of K) := by
  obtain ⟨fd_Rule_offset, c_Rule_offset⟩ := ok_Rule_offset (P := P) (w := w) (base := base) T
  obtain ⟨fd_Scene_check_client, c_Scene_check_client⟩ := ok_Scene_check_client (P := P) (w := w) (base := base) T
  obtain ⟨fd, F⟩ := T.f_Scene_slot_of
  refine ⟨fd, T.m_Scene_slot_of, F.ok sc_Scene_slot_of (fun vs H Q E h => ?_) (fun cdv A outer s H vs Q E hr h => ?_), F.bindsN fun _ _ _ _ _ _ us hl => match us, hl with | [_, _, _], _ => rfl⟩
  · exact h.len
  · obtain ⟨z, ⟨a, S, us, rfl, _, X, c, j, rfl, hc, rfl⟩, k⟩ := h
    refine ⟨_, PSs.nox (pss_cons (ps_expr (pe_meth (pv 0) T.c_Scene c_Scene_check_client.at_ c_Scene_check_client.ok (hr.mono (by decide)) c_Scene_check_client.b .nil pass0 (pa_cons (pv 1) pa_nil)))
      (pss_one (ps_ret (pe_op op_add (pe_ix ix_list (pe_fld (pv 0) rfl) (pv 1) (fun _ _ => rfl)) (pe_meth (pe_fld (pv 0) rfl) T.c_Rule c_Rule_offset.at_ c_Rule_offset.ok (hr.mono (by decide)) c_Rule_offset.b .nil pass0 (pa_cons (pv 2) pa_nil)))))), ?_⟩
    refine x_drop (Ex.refl H) (ev_meth (ev_var rfl) X.o (by kernel_rfl) (ea_cons (ev_var rfl) ea_nil) (v_scene X ⟨c, rfl, hc, rfl⟩ rfl)) fun H1 e1 _ => ?_
    exact x_ret e1 (ev_op (e_start T X (ev_var rfl) hc (ev_var rfl)) (ev_meth (e_its_rule T X (ev_var rfl)) X.ru.o (by kernel_rfl) (ea_cons (ev_var rfl) ea_nil) (v_rule X.ru ⟨j, rfl, rfl⟩ rfl)) rv_I0) fun H2 e2 _ => k H2 e2
def sp_Scene_attempt_in (K : PySem.W.Frag) : Sp := SpScene K (fun S _ us z => ∃ (c : Nat) (x : Int), us = [.int c, .int x] ∧ c < S.N ∧ z = atV S.gs S.n (x - S.s0 c)) 2
theorem ok_Scene_attempt_in (T : Txt K mg) : ∃ fd, CalM P w K mg base 5 (cScene K) "attempt_in" (He.ma K (cScene K) "attempt_in") fd ["self", "client", "slot"] (sp_Scene_attempt_in K) := by
  obtain ⟨fd_Rule_attempt_at, c_Rule_attempt_at⟩ := ok_Rule_attempt_at (P := P) (w := w) (base := base) T
  obtain ⟨fd_Scene_check_client, c_Scene_check_client⟩ := ok_Scene_check_client (P := P) (w := w) (base := base) T
  obtain ⟨fd_is_integer, c_is_integer⟩ := ok_is_integer (P := P) (w := w) (base := base) T
  obtain ⟨fd, F⟩ := T.f_Scene_attempt_in
  refine ⟨fd, T.m_Scene_attempt_in, F.ok sc_Scene_attempt_in (fun vs H Q E h => ?_) (fun cdv A outer s H vs Q E hr h => ?_), F.bindsN fun _ _ _ _ _ _ us hl => match us, hl with | [_, _, _], _ => rfl⟩
  · exact h.len
  · obtain ⟨z, ⟨a, S, us, rfl, _, X, c, x, rfl, hc, rfl⟩, k⟩ := h
    refine ⟨_, PSs.nox (pss_cons (ps_expr (pe_meth (pv 0) T.c_Scene c_Scene_check_client.at_ c_Scene_check_client.ok (hr.mono (by decide)) c_Scene_check_client.b .nil pass0 (pa_cons (pv 1) pa_nil)))
      (pss_cons (ps_if (pt_not (pt_val (pe_call c_is_integer.ok (hr.mono (by decide)) (by rfl) c_is_integer.gl c_is_integer.kp c_is_integer.b .nil pass0 (pa_cons (pv 2) pa_nil)))) (pss_one ps_never) pss_nil)
      (pss_one (ps_ret (pe_meth (pe_fld (pv 0) rfl) T.c_Rule c_Rule_attempt_at.at_ c_Rule_attempt_at.ok (hr.mono (by decide)) c_Rule_attempt_at.b .nil pass0 (pa_cons (pe_op op_sub (pv 2) (pe_ix ix_list (pe_fld (pv 0) rfl) (pv 1) (fun _ _ => rfl))) pa_nil)))))), ?_⟩
    refine x_drop (Ex.refl H) (ev_meth (ev_var rfl) X.o (by kernel_rfl) (ea_cons (ev_var rfl) ea_nil) (v_scene X ⟨c, rfl, hc, rfl⟩ rfl)) fun H1 e1 _ => ?_
    refine x_no e1 (et_not (a := true) (et_B (ev_fn (ea_cons (ev_var rfl) ea_nil) (v_is_integer _)))) fun H2 e2 _ => ?_
    exact x_ret e2 (ev_meth (e_its_rule T X (ev_var rfl)) X.ru.o (by kernel_rfl) (ea_cons (ev_op (ev_var rfl) (e_start T X (ev_var rfl) hc (ev_var rfl)) rv_I0) ea_nil) (v_attempt_at X.ru _)) fun H3 e3 _ => k H3 e3
def sp_Scene_outage_at (K : PySem.W.Frag) : Sp := SpScene K (fun S _ us z => ∃ x : Int, us = [.int x] ∧ z = outV S x) 1
theorem ok_Scene_outage_at (T : Txt K mg) : ∃ fd, CalM P w K mg base 2 (cScene K) "outage_at" (He.ma K (cScene K) "outage_at") fd ["self", "slot"] (sp_Scene_outage_at K) := by
  obtain ⟨fd_is_integer, c_is_integer⟩ := ok_is_integer (P := P) (w := w) (base := base) T
  obtain ⟨fd, F⟩ := T.f_Scene_outage_at
  refine ⟨fd, T.m_Scene_outage_at, F.ok sc_Scene_outage_at (fun vs H Q E h => ?_) (fun cdv A outer s H vs Q E hr h => ?_), F.bindsN fun _ _ _ _ _ _ us hl => match us, hl with | [_, _], _ => rfl⟩
  · exact h.len
  · obtain ⟨z, ⟨a, S, us, rfl, _, X, x, rfl, rfl⟩, k⟩ := h
    refine ⟨_, PSs.nox (pss_cons (ps_if (pt_not (pt_val (pe_call c_is_integer.ok (hr.mono (by decide)) (by rfl) c_is_integer.gl c_is_integer.kp c_is_integer.b .nil pass0 (pa_cons (pv 1) pa_nil)))) (pss_one ps_never) pss_nil)
      (pss_one (ps_ret (pe_ix ix_list (pe_op op_cat (pe_lc (own := [("at", 2), ("outage", 3)]) rfl sc_Scene_outage_at.nd (pi_enum (by rfl) T.b_enumerate (pa_cons (pe_fld (pv 0) rfl) pa_nil)) (blkOk_by (own := [("at", 2), ("outage", 3)]) (N := ["self", "slot", "at", "outage"]) (sc := defScope s_Scene_outage_at) (by decide +kernel)) (fun _ _ _ _ _ => (pg_tupK K 2 rfl (pgs_cons (pg_name (i := 2) sc_Scene_outage_at.nd rfl (by first | exact Or.inl rfl | exact Or.inr rfl)) (pgs_cons (pg_name (i := 3) sc_Scene_outage_at.nd rfl (by first | exact Or.inl rfl | exact Or.inr rfl)) pgs_nil)))) (fun _ _ _ _ _ => (pts_one (pt_chain op_le op_lt (pe_ix (ix_tupK K) (pv 3) pe_int (fun _ _ => rfl)) (pv 1) (pe_ix (ix_tupK K) (pv 3) pe_int (fun _ _ => rfl))))) (fun _ _ _ _ _ => (pv 2))) (pe_lst (pa_cons pe_non pa_nil))) pe_int (fun _ _ => rfl))))), ?_⟩
    have hl := X.wn.len
    have h10 := X.w10
    refine x_no (Ex.refl H) (et_not (a := true) (et_B (ev_fn (ea_cons (ev_var rfl) ea_nil) (v_is_integer _)))) fun H1 e1 _ => ?_
    have hlen : (a.rs.map V.ref).length = a.rs.length := List.length_map _
    refine x_ret e1 (ev_ixS (xs := (outL S x).map (fun i : Nat => V.int (i : Int)) ++ [.non]) (es_new (el_cat (es_new (el_is (el_comp (ei_enum (es_of (e_windows T X (ev_var rfl)) X.wl)) (fun i => [some (.ref a.p), some (.int x), some (.int (i : Int)), some (.ref (a.rs.getD i 0))])
      (fun i hi => tg_pair rfl (X.wn.get (by omega)).2) (fun i _ => rfl) (fun i => decide ((S.ws.getD i (0, 0)).1 ≤ x) && decide (x < (S.ws.getD i (0, 0)).2)) (fun i => V.int (i : Int))
      (fun i hi => et_test (ev_chain (ev_ixU (esu_of (ev_var rfl) (X.wn.get (by omega)).1) ev_c rfl) (ev_var rfl) rv_I0 (fun _ => ev_ixU (esu_of (ev_var rfl) (X.wn.get (by omega)).1) ev_c rfl) (fun _ => rv_I0)))
      (fun i hi _ => ev_var rfl) (by omega)) ?_)) (es_new (el_lst (ea_cons ev_c ea_nil) (by decide))) ?_)) ev_c (v := outV S x) ?_) fun H2 e2 _ => k H2 e2
    · rw [hlen, hl]
      rfl
    · rw [List.length_map]
      have := List.length_filter_le (fun i => decide ((S.ws.getD i (0, 0)).1 ≤ x) && decide (x < (S.ws.getD i (0, 0)).2)) (List.range S.ws.length)
      rw [List.length_range] at this
      show (outL S x).length + 1 ≤ 100000
      unfold outL
      omega
    · refine at_of (j := 0) rfl ?_
      unfold outV
      cases outL S x with
      | nil => rfl
      | cons j r => rfl
theorem v_outage_at (X : SceneA K G a S) (x : Int) : SpV (sp_Scene_outage_at K) [.ref a.p, .int x] G (outV S x) := v_scene X ⟨x, rfl, rfl⟩ rfl
/-- the slots of the attempts up to the first one from which on the rule repeats -/
def lsV (S : Sc) (c : Nat) : List V := (List.range (S.u + 1)).map fun i => V.int (S.slot c i)
def sp_Scene_listed_slots (K : PySem.W.Frag) : Sp := SpSceneL K (fun S _ us z => ∃ c : Nat, us = [.int c] ∧ c < S.N ∧ z = lsV S c) 1
theorem ok_Scene_listed_slots (T : Txt K mg) : ∃ fd, CalM P w K mg base 3 (cScene K) "listed_slots" (He.ma K (cScene K) "listed_slots") fd ["self", "client"] (sp_Scene_listed_slots K) := by
  obtain ⟨fd_Rule_gaps, c_Rule_gaps⟩ := ok_Rule_gaps (P := P) (w := w) (base := base) T
  obtain ⟨fd_Rule_offset_of, c_Rule_offset_of⟩ := ok_Rule_offset_of (P := P) (w := w) (base := base) T
  obtain ⟨fd_Rule_tail, c_Rule_tail⟩ := ok_Rule_tail (P := P) (w := w) (base := base) T
  obtain ⟨fd, F⟩ := T.f_Scene_listed_slots
  refine ⟨fd, T.m_Scene_listed_slots, F.ok sc_Scene_listed_slots (fun vs H Q E h => ?_) (fun cdv A outer s H vs Q E hr h => ?_), F.bindsN fun _ _ _ _ _ _ us hl => match us, hl with | [_, _], _ => rfl⟩
  · exact h.len
  · obtain ⟨z, ⟨a, S, us, rfl, _, X, c, rfl, hc, rfl⟩, k⟩ := h
    refine ⟨_, PSs.nox (pss_cons (ps_set (i := 2) sc_Scene_listed_slots.nd rfl (by first | exact Or.inl rfl | exact Or.inr rfl) (pe_op op_sub (pe_callB call_len_seq (by rfl) T.b_len (by decide +kernel) (pa_cons (pe_meth0 (pe_fld (pv 0) rfl) T.c_Rule c_Rule_gaps.at_ c_Rule_gaps.ok (hr.mono (by decide)) c_Rule_gaps.b .nil pass0) pa_nil)) (pe_ix ix_tup (pe_meth0 (pe_fld (pv 0) rfl) T.c_Rule c_Rule_tail.at_ c_Rule_tail.ok (hr.mono (by decide)) c_Rule_tail.b .nil pass0) pe_int (fun _ _ => rfl))))
      (pss_one (ps_ret (pe_lc (own := [("attempt", 3)]) rfl sc_Scene_listed_slots.nd (pi_range1 (by rfl) T.b_range (pa_cons (pe_op op_add (pv 2) pe_int) pa_nil)) (blkOk_by (own := [("attempt", 3)]) (N := ["self", "client", "count", "attempt"]) (sc := defScope s_Scene_listed_slots) (by decide +kernel)) (fun _ _ _ _ _ => (pg_name (i := 3) sc_Scene_listed_slots.nd rfl (by first | exact Or.inl rfl | exact Or.inr rfl))) (fun _ _ _ _ _ => pts_nil) (fun _ _ _ _ _ => (pe_op op_add (pe_ix (ix_listK K) (pe_fldK K (pv 0) rfl) (pv 1) (fun _ _ => rfl)) (pe_meth (pe_fldK K (pv 0) rfl) T.c_Rule c_Rule_offset_of.at_ c_Rule_offset_of.ok (hr.mono (by decide)) c_Rule_offset_of.b .nil pass0 (pa_cons (pv 3) pa_nil)))))))), ?_⟩
    have hu := uu_add X.ru.ok
    have h20 := X.ru.sz
    have eu : S.u = uu S.gs S.n := rfl
    refine x_asg (v := .int (S.u : Int)) (Ex.refl H) (ev_is (ev_op (ev_lenS (es_new (el_meth (e_its_rule T X (ev_var rfl)) X.ru.o (by kernel_rfl) ea_nil (l_gaps X.ru)))) (ev_ixU (esu_of (ev_meth (e_its_rule T X (ev_var rfl)) X.ru.o (by kernel_rfl) ea_nil (v_rule X.ru ⟨rfl, rfl⟩ rfl)) X.ru.t) ev_c rfl) rv_I0) ?_) fun H1 e1 _ => ?_
    · rw [List.length_map]
      congr 1
      omega
    refine x_retL e1 (el_is (el_comp (ei_range (N := S.u + 1) (ev_op (ev_var rfl) ev_c rv_I0) (by omega) (by omega)) (fun i => [some (.ref a.p), some (.int (c : Int)), some (.int (S.u : Int)), some (.int (i : Int))]) (fun i hi => tg_fn) (fun i _ => rfl) (fun _ => true) (fun i => V.int (S.slot c i)) (fun i _ => et_yes)
      (fun i _ _ => ev_op (e_start T X (ev_var rfl) hc (ev_var rfl)) (ev_meth (e_its_rule T X (ev_var rfl)) X.ru.o (by kernel_rfl) (ea_cons (ev_var rfl) ea_nil) (v_offset_of X.ru i)) rv_I0) (by omega)) ?_) fun p H2 e2 hp _ h2 => k p H2 (fresh_back e1 hp) e2 h2
    unfold given
    rw [List.filter_eq_self.mpr (fun _ _ => rfl)]
    rfl
theorem l_listed_slots (X : SceneA K G a S) {c : Nat} (hc : c < S.N) : SpL (sp_Scene_listed_slots K) [.ref a.p, .int c] G (lsV S c) := l_scene X ⟨c, rfl, hc, rfl⟩ rfl
theorem take_flat {α : Type} {f : α → List Int} {l : List α} {i : Nat} {x : α} (h : l[i]? = some x) : (l.take (i + 1)).flatMap f = (l.take i).flatMap f ++ f x := by
  obtain ⟨h1, h2⟩ := List.getElem?_eq_some_iff.mp h
  rw [List.take_succ_eq_append_getElem h1, List.flatMap_append, h2]
  simp
def sp_Scene_moments (K : PySem.W.Frag) : Sp := fun vs H Q _ => ∃ (a : SA) (S : Sc), vs = [.ref a.p] ∧ SceneA K H a S ∧ ∀ (ms : List Int) (p : Addr) (H' : Hp), (∀ x, x ∈ ms ↔ S.IsMo x) → ms.length ≤ 1000 → H p = none → Ex H H' → H' p = some (.lst (ms.map V.int)) → Q (.ref p) H'
theorem len_flat2 (l : List (Int × Int)) : (l.flatMap fun w => [w.1, w.2]).length = 2 * l.length := by
  induction l with
  | nil => rfl
  | cons a r ih =>
    rw [List.flatMap_cons, List.length_append, ih]
    show 2 + 2 * r.length = 2 * (r.length + 1)
    omega
theorem len_flatS (S : Sc) (l : List Nat) : (l.flatMap fun c => (List.range (S.u + 1)).map fun i => S.slot c i).length = l.length * (S.u + 1) := by
  induction l with
  | nil => simp
  | cons a r ih =>
    rw [List.flatMap_cons, List.length_append, ih, List.length_map, List.length_range, List.length_cons, Nat.add_mul]
    omega
theorem ok_Scene_moments (T : Txt K mg) : ∃ fd, CalM P w K mg base 4 (cScene K) "moments" (He.ma K (cScene K) "moments") fd ["self"] (sp_Scene_moments K) := by
  obtain ⟨fd_Rule_period, c_Rule_period⟩ := ok_Rule_period (P := P) (w := w) (base := base) T
  obtain ⟨fd_Scene_listed_slots, c_Scene_listed_slots⟩ := ok_Scene_listed_slots (P := P) (w := w) (base := base) T
  obtain ⟨fd, F⟩ := T.f_Scene_moments
  refine ⟨fd, T.m_Scene_moments, F.ok sc_Scene_moments (fun vs H Q E h => ?_) (fun cdv A outer s H vs Q E hr h => ?_), F.bindsN fun _ _ _ _ _ _ us hl => match us, hl with | [_], _ => rfl⟩
  · obtain ⟨_, _, rfl, _⟩ := h
    rfl
  · obtain ⟨a, S, rfl, X, k⟩ := h
    refine ⟨_, PSs.nox (pss_cons (ps_set (i := 1) sc_Scene_moments.nd rfl (by first | exact Or.inl rfl | exact Or.inr rfl) (pe_callTy call_list_of (by rfl) T.b_list (by decide +kernel) (pa_cons (pe_fld (pv 0) rfl) pa_nil)))
      (pss_cons (ps_for PassesOwn.never rfl (pi_list (pe_fld (pv 0) rfl)) (pg_name (i := 2) sc_Scene_moments.nd rfl (by first | exact Or.inl rfl | exact Or.inr rfl)) (pss_one (ps_expr (pe_bm PySem.F.plainAttrs_list PySem.F.slot_list_extend PySem.F.type_list_extend mt_extendT (pv 1) (pa_cons (pv 2) pa_nil)))))
      (pss_cons (ps_if (pt_cmpR op_notN (pe_meth0 (pe_fld (pv 0) rfl) T.c_Rule c_Rule_period.at_ c_Rule_period.ok (hr.mono (by decide)) c_Rule_period.b .nil pass0) pe_non (nomark _)) (pss_one (ps_for PassesOwn.never rfl (pi_range1 (by rfl) T.b_range (pa_cons (pe_callB call_len_seq (by rfl) T.b_len (by decide +kernel) (pa_cons (pe_fld (pv 0) rfl) pa_nil)) pa_nil)) (pg_name (i := 3) sc_Scene_moments.nd rfl (by first | exact Or.inl rfl | exact Or.inr rfl)) (pss_one (ps_expr (pe_bm PySem.F.plainAttrs_list PySem.F.slot_list_extend PySem.F.type_list_extend mt_extend (pv 1) (pa_cons (pe_meth (pv 0) T.c_Scene c_Scene_listed_slots.at_ c_Scene_listed_slots.ok (hr.mono (by decide)) c_Scene_listed_slots.b .nil pass0 (pa_cons (pv 3) pa_nil)) pa_nil)))))) pss_nil)
      (pss_one (ps_ret (pe_callB cr_sortedI (by rfl) T.b_sorted (by decide +kernel) (pa_cons (pv 1) pa_nil))))))), ?_⟩
    have hu := uu_add X.ru.ok
    have h20 := X.ru.sz
    have h1 := X.ru.ok.n1
    have h40 := X.n40
    have h10 := X.w10
    have hl := X.wn.len
    have eu : S.u = uu S.gs S.n := rfl
    have eN : S.N = S.st.length := rfl
    refine x_asgL (Ex.refl H) (el_listS (es_of (e_its_starts T X (ev_var rfl)) X.st)) fun p H1 e1 hp _ hp1 => ?_
    refine x_for e1 (e_windows T X (ev_var rfl)) (fun _ e => sq_of (e _ _ X.wl)) (fun i σ' H' => (∃ v : Option V, σ' = [some (.ref a.p), some (.ref p), v, none]) ∧ Ex H H' ∧ H' p = some (.lst ((S.st ++ (S.ws.take i).flatMap fun w => [w.1, w.2]).map V.int))) ?_ (fun _ _ _ _ q => sq_of (q.2.1 _ _ X.wl)) ?_ ?_
    · intro H2 e2 e3
      exact ⟨⟨none, rfl⟩, e2, by rw [List.take_zero]; simpa using e3 _ _ hp1⟩
    · rintro i x σ' H' hx ⟨⟨v, rfl⟩, e2, hf⟩
      have hi : i < a.rs.length := by
        have := (List.getElem?_eq_some_iff.mp hx).1
        rw [List.length_map] at this
        exact this
      obtain ⟨hg, hx'⟩ := X.wn.get hi
      rw [hx'] at hx
      cases hx
      have hwi : S.ws[i]? = some (S.ws.getD i (0, 0)) := by
        rw [List.getD_eq_getElem?_getD, List.getElem?_eq_getElem (show i < S.ws.length by omega)]
        rfl
      refine s_extT hf (ev_var rfl) (ev_var rfl) (e2 _ _ hg) ?_ fun H3 e3 => ⟨⟨_, rfl⟩, ?_, ?_⟩
      · rw [List.length_map, List.length_append, len_flat2, List.length_take]
        show _ + 2 ≤ 100000
        omega
      · exact Ex.mut (e2.trans e3) hp
      · rw [upd_same, take_flat hwi, ← List.append_assoc, List.map_append (l₁ := S.st ++ _)]
        rfl
    · rintro σ' H' ⟨⟨v, rfl⟩, e2, hf⟩
      rw [List.length_map, hl, List.take_length] at hf
      refine x_yes e2 (et_test (ev_is (ev_notN (ev_meth (e_its_rule T X (ev_var rfl)) X.ru.o (by kernel_rfl) ea_nil (v_rule X.ru ⟨rfl, rfl⟩ rfl))) rfl)) fun H3 e3 e3' => ?_
      have hf3 := e3' _ _ hf
      refine s_forR1 (n := (S.N : Int)) ((ea_cons (e_len_starts T X (ev_var rfl)) ea_nil : EvA _ _ H _).mono e3) ⟨by omega, by omega⟩ (fun i σ' H' => (∃ v : Option V, σ' = [some (.ref a.p), some (.ref p), v, v] ∨ ∃ u : Option V, σ' = [some (.ref a.p), some (.ref p), u, v]) ∧ Ex H H' ∧ H' p = some (.lst ((S.st ++ (S.ws.flatMap fun w => [w.1, w.2]) ++ (List.range i).flatMap fun c => (List.range (S.u + 1)).map fun i => S.slot c i).map V.int))) ?_ ?_ ?_
      · intro H4 e4
        exact ⟨⟨none, .inr ⟨_, rfl⟩⟩, e3.trans e4, by simpa using e4 _ _ hf3⟩
      · rintro i σ' H' hi ⟨⟨v, hσ⟩, e4, hf4⟩
        have hiN : i < S.N := by omega
        obtain ⟨u, v, rfl⟩ : ∃ u v : Option V, σ' = [some (.ref a.p), some (.ref p), u, v] := by
          rcases hσ with hσ | ⟨u, hσ⟩
          · exact ⟨_, _, hσ⟩
          · exact ⟨_, _, hσ⟩
        refine s_extL hf4 (ev_var rfl) ((es_new (el_meth (ev_var rfl) X.o (by kernel_rfl) (ea_cons (ev_var rfl) ea_nil) (l_listed_slots X hiN)) : EvS _ _ H _).mono e4) ?_ fun H5 e5 => ⟨⟨_, .inr ⟨_, rfl⟩⟩, Ex.mut (e4.trans e5) hp, ?_⟩
        · rw [List.length_map, List.length_append, List.length_append, len_flat2, len_flatS, List.length_range]
          unfold lsV
          rw [List.length_map, List.length_range]
          have : i * (S.u + 1) ≤ 40 * 20 := Nat.mul_le_mul (by omega) (by omega)
          omega
        · rw [upd_same, List.range_succ (n := i), List.flatMap_append, ← List.append_assoc, List.map_append (l₁ := S.st ++ _ ++ _)]
          unfold lsV
          simp
      · rintro σ' H' ⟨⟨v, hσ⟩, e4, hf4⟩
        have eNt : (S.N : Int).toNat = S.N := by omega
        rw [eNt] at hf4
        obtain ⟨u, v, rfl⟩ : ∃ u v : Option V, σ' = [some (.ref a.p), some (.ref p), u, v] := by
          rcases hσ with hσ | ⟨u, hσ⟩
          · exact ⟨_, _, hσ⟩
          · exact ⟨_, _, hσ⟩
        refine (ep_sorted (K := K) (G := H') (ns := msOf S) (es_of (ev_var rfl) hf4)) H' (Ex.refl _) _ fun q H5 xs hxs hq e5 h5 => ?_
        obtain ⟨ns', rfl, hperm, _⟩ := hxs
        refine k ns' q H5 (fun x => (hperm.mem_iff).trans mem_msOf) ?_ (fresh_back e4 hq) (e4.trans e5) h5
        rw [hperm.length_eq]
        unfold msOf
        rw [List.length_append, List.length_append, len_flat2, len_flatS, List.length_range]
        have : S.N * (S.u + 1) ≤ 40 * 20 := Nat.mul_le_mul (by omega) (by omega)
        omega
/-! ### the constructor -/
theorem kit_self (C : Addr) : PySem.W.kitOne K (.ref C) (.ref C) = some true := by
  unfold PySem.W.kitOne
  rw [if_pos (by simp)]
theorem ty_own {x : Str} {H : Hp} {b dx : Addr} {fs : List (Str × V)} (hB : isB K x = true) (cl : Cls K (He.ga K x)) (e : H b = some (.ins (He.ga K x) dx fs)) : TyX K H (.ref b) (.ref (He.ga K x)) := by
  obtain ⟨h1, h2⟩ := He.ba hB
  obtain ⟨h2, h3⟩ := He.ba h2
  obtain ⟨h3, h4⟩ := He.ba h3
  exact .base (.ins e cl (He.eqO_ok h1) (He.eqO_ok h2) (of_decide_eq_true h3) (of_decide_eq_true h4))
theorem isi_rule (T : Txt K mg) {ra : RA} {gs : List Int} {n : Nat} (R : RuleA K G ra gs n) {tb : TE} (h : Ev ta σ G (.ref ra.r)) (h' : Ev tb σ G (.ref (cRule K))) : Ev (tCB (rIsi K) (tCons ta (tCons tb tNil))) σ G (.bl true) :=
  ev_isi (b := true) h h' (.own _) (fun _ e => ty_own T.inst.1 T.c_Rule (e _ _ R.o)) (kit_self _)
theorem isi_scene (T : Txt K mg) (X : SceneA K G a S) {tb : TE} (h : Ev ta σ G (.ref a.p)) (h' : Ev tb σ G (.ref (cScene K))) : Ev (tCB (rIsi K) (tCons ta (tCons tb tNil))) σ G (.bl true) :=
  ev_isi (b := true) h h' (.own _) (fun _ e => ty_own T.inst.2.1 T.c_Scene (e _ _ X.o)) (kit_self _)
structure CalK (P : Program) (w : World) (K : PySem.W.Frag) (mg : Str → Option Value) (base : Heap) (k : Nat) (f : Addr) (fd : FuncData) (ps : List Str) (sp : Sp) : Prop where
  ok : FnOk P w K mg base CX0 k f fd ps sp
  b : KBn K fd ps 3 ["outages", "length"] (fun us ws => us ++ ws) (fun vs zs => vs ++ zs)
def sp_Scene_init (K : PySem.W.Frag) : Sp := fun vs H Q _ => ∃ (x dx : Addr) (ra : RA) (st ws : Addr) (rs : List Addr) (S : Sc), vs = [.ref x, .ref ra.r, .ref st, .ref ws, .int S.ln] ∧ H x = some (.ins (cScene K) dx []) ∧ RuleA K H ra S.gs S.n ∧ H st = some (.lst (S.st.map V.int)) ∧ H ws = some (.lst (rs.map V.ref)) ∧ WinA H rs S.ws ∧ WinOk S.ws ∧
  1 ≤ S.N ∧ S.N ≤ 40 ∧ S.ws.length ≤ 10 ∧ 1 ≤ S.ln ∧ ∀ (H' : Hp) (a : SA), a.p = x → a.ra = ra → H a.st = none → SceneA K H' a S → ExB [x] H H' → Q .non H'
theorem ok_Scene_init (T : Txt K mg) : ∃ fd, CalK P w K mg base 4 (He.ma K (cScene K) "__init__") fd ["self", "rule", "starts", "outages", "length"] (sp_Scene_init K) := by
  obtain ⟨fd_check_outages, c_check_outages⟩ := ok_check_outages (P := P) (w := w) (base := base) T
  obtain ⟨fd_check_starts, c_check_starts⟩ := ok_check_starts (P := P) (w := w) (base := base) T
  obtain ⟨fd_is_integer, c_is_integer⟩ := ok_is_integer (P := P) (w := w) (base := base) T
  obtain ⟨fd, F⟩ := T.f_Scene_init
  refine ⟨fd, F.ok sc_Scene_init (fun vs H Q E h => ?_) (fun cdv A outer s H vs Q E hr h => ?_), ?_⟩
  · obtain ⟨_, _, _, _, _, _, _, rfl, _⟩ := h
    rfl
  · obtain ⟨x, dx, ra, st, ws, rs, S, rfl, hx, R, hst, hws, W, hok, n0, n40, w10, ln1, k⟩ := h
    refine ⟨_, PSs.nox (pss_cons (ps_if (pt_not (pt_val (pe_callB call_isi (by rfl) T.b_isinstance (by decide +kernel) (pa_cons (pv 1) (pa_cons (pe_glob (v := .ref (cRule K)) (by rfl) T.g_Rule rfl) pa_nil))))) (pss_one ps_never) pss_nil)
      (pss_cons (ps_expr (pe_call c_check_starts.ok (hr.mono (by decide)) (by rfl) c_check_starts.gl c_check_starts.kp c_check_starts.b .nil pass0 (pa_cons (pv 2) pa_nil)))
      (pss_cons (ps_set (i := 5) sc_Scene_init.nd rfl (by first | exact Or.inl rfl | exact Or.inr rfl) (pe_ifExp (pt_cmpR op_isN (pv 3) pe_non (nomark _)) pe_never (pv 3)))
      (pss_cons (ps_expr (pe_call c_check_outages.ok (hr.mono (by decide)) (by rfl) c_check_outages.gl c_check_outages.kp c_check_outages.b .nil pass0 (pa_cons (pv 5) pa_nil)))
      (pss_cons (ps_if (PW.pt (pw_or (pt_not (pt_val (pe_call c_is_integer.ok (hr.mono (by decide)) (by rfl) c_is_integer.gl c_is_integer.kp c_is_integer.b .nil pass0 (pa_cons (pv 4) pa_nil)))) (pw_or1 (pt_cmpR op_lt (pv 4) pe_int (nomark _))))) (pss_one ps_never) pss_nil)
      (pss_cons (ps_fld (pv 0) (pv 1) rfl)
      (pss_cons (ps_fld (pv 0) (pe_callTy call_list_of (by rfl) T.b_list (by decide +kernel) (pa_cons (pv 2) pa_nil)) rfl)
      (pss_cons (ps_fld (pv 0) (pe_callTy call_list_of (by rfl) T.b_list (by decide +kernel) (pa_cons (pv 5) pa_nil)) rfl)
      (pss_one (ps_fld (pv 0) (pv 4) rfl)))))))))), ?_⟩
    have nx : ∀ {b : Addr} {o : HO}, H b = some o → (∀ fs, o ≠ .ins (cScene K) dx fs) → x ≠ b := fun hb hne => ne_of hx hb (fun z => hne _ z.symm)
    refine x_no (Ex.refl H) (et_not (a := true) (et_B (isi_rule T R (ev_var rfl) ev_c))) fun H1 e1 _ => ?_
    refine x_drop e1 (ev_fn (ea_cons (ev_var rfl) ea_nil) (sp_r fun _ e => ⟨st, S.st, rfl, e _ _ hst, n0, n40, rfl⟩)) fun H2 e2 _ => ?_
    refine x_asg e2 (ev_ifF (et_test (ev_is (ev_isN (ev_var rfl)) rfl)) (ev_var rfl)) fun H3 e3 _ => ?_
    refine x_drop e3 (ev_fn (ea_cons (ev_var rfl) ea_nil) (sp_r fun _ e => ⟨ws, rs, S.ws, rfl, e _ _ hws, W.mono e, w10, hok, rfl⟩)) fun H4 e4 _ => ?_
    refine x_no e4 (et_or (a := false) (et_not (a := true) (et_B (ev_fn (ea_cons (ev_var rfl) ea_nil) (v_is_integer _)))) fun _ => et_test (ev_op (ev_var rfl) ev_c (rv_B (decide_eq_false (by omega))))) fun H5 e5 _ => ?_
    refine x_fld e5 (ev_var rfl) (ev_var rfl) (e5 _ _ hx) T.c_Scene T.n_Scene_its_rule (by decide) fun H6 e6 => ?_
    have b6 : ExB [x] H (upd H6 x (.ins (cScene K) dx (putF "its_rule" (V.ref ra.r) []))) := (ExB.of (e5.trans e6)).trans (ExB.upd (List.mem_singleton.mpr rfl))
    have g6 := ExB.ex b6 hide_ex (fun b hb => hide_in hb)
    have hst' : hide H [x] st = some (.lst (S.st.map V.int)) := by
      rw [hide_out (by simpa using (nx hst (by intro fs z; cases z)).symm)]
      exact hst
    have hws' : hide H [x] ws = some (.lst (rs.map V.ref)) := by
      rw [hide_out (by simpa using (nx hws (by intro fs z; cases z)).symm)]
      exact hws
    refine x_fldL g6 (el_listS (es_of (ev_var rfl) hst')) (ev_var rfl) upd_same T.c_Scene T.n_Scene_its_starts (l1k (lp lz) (by decide)) fun st' H7 hs7 e7 hst7 => ?_
    have nxs : x ≠ st' := ne_of (e7 _ _ upd_same) hst7 (by intro z; cases z)
    have b7 := (b6.trans (ExB.of e7)).trans (ExB.upd (a := x) (o := .ins (cScene K) dx (putF "its_starts" (V.ref st') (putF "its_rule" (V.ref ra.r) []))) (List.mem_singleton.mpr rfl))
    refine x_fldL (ExB.ex b7 hide_ex (fun b hb => hide_in hb)) (el_listS (es_of (ev_var rfl) hws')) (ev_var rfl) upd_same T.c_Scene T.n_Scene_windows (l1k (lp (lp lz)) (by decide)) fun ws' H8 hs8 e8 hws8 => ?_
    have nxw : x ≠ ws' := ne_of (e8 _ _ upd_same) hws8 (by intro z; cases z)
    have b8 := (b7.trans (ExB.of e8)).trans (ExB.upd (a := x) (o := .ins (cScene K) dx (putF "windows" (V.ref ws') (putF "its_starts" (V.ref st') (putF "its_rule" (V.ref ra.r) [])))) (List.mem_singleton.mpr rfl))
    have hst8 : H8 st' = some (.lst (S.st.map V.int)) := e8 _ _ (by rw [upd_ne nxs.symm]; exact hst7)
    -- the last store
    refine (ev_var rfl : Ev (tVar 4) _ (hide H [x]) _) _ (ExB.ex b8 hide_ex (fun b hb => hide_in hb)) _ fun H9 e9 => (ev_var rfl : Ev (tVar 0) _ (hide H [x]) _) H9 ((ExB.ex b8 hide_ex (fun b hb => hide_in hb)).trans e9) _ fun H10 e10 => ?_
    refine ⟨x, cScene K, dx, _, rfl, e10 _ _ (e9 _ _ upd_same), T.c_Scene, T.n_Scene_its_length, l1k (lp (lp (lp lz))) (by decide), ?_⟩
    rw [pt_scene]
    have b10 := ((b8.trans (ExB.of e9)).trans (ExB.of e10)).trans (ExB.upd (a := x) (o := .ins (cScene K) dx (sceneF ra.r st' ws' S.ln)) (List.mem_singleton.mpr rfl))
    have keep : ∀ {b : Addr} {o : HO}, H b = some o → (∀ fs, o ≠ .ins (cScene K) dx fs) → upd H10 x (.ins (cScene K) dx (sceneF ra.r st' ws' S.ln)) b = some o := fun hb hne => b10 _ _ (by simpa using (nx hb hne).symm) hb
    have nxr : x ≠ ra.r := ne_of hx R.o (by intro z; injection z with z1 z2 z3; cases z3)
    have hst0 : H st' = none := by
      cases q : H st' with
      | none => rfl
      | some o =>
        have q2 := b6 st' o (by simpa using nxs.symm) q
        rw [hs7] at q2
        cases q2
    refine k _ ⟨x, dx, ra, st', ws', rs⟩ rfl rfl hst0 ⟨upd_same, ⟨b10 _ _ (by simpa using nxr.symm) R.o, keep R.l (by intro fs z; cases z), keep R.t (by intro fs z; cases z), keep R.s (by intro fs z; cases z), R.ok, R.hi, R.sz⟩, ?_, ?_, ⟨W.len, fun i r h => ?_⟩, n0, n40, w10, ln1⟩ b10
    · rw [upd_ne nxs.symm]
      exact e10 _ _ (e9 _ _ (by rw [upd_ne nxs.symm]; exact hst8))
    · rw [upd_ne nxw.symm]
      exact e10 _ _ (e9 _ _ (by rw [upd_ne nxw.symm]; exact hws8))
    · obtain ⟨w', h1, h2⟩ := W.at_ i r h
      exact ⟨w', h1, keep h2 (by intro fs z; cases z)⟩
  · obtain ⟨mv, b⟩ := F.kbinds0 (ps := ["self", "rule", "starts", "outages", "length"]) 3 ["outages", "length"] [] (fun us _ ws => us ++ ws) (by simp) (fun q hq => by cases hq) (fun r1 _ r3 => r1.append r3) (fun D doc pm an cdv ct us mv ws l1 l2 l3 => match us, mv, ws, l1, l2, l3 with | [_, _, _], [], [_, _], _, _, _ => rfl)
    exact b
end
end RS
end

section
set_option Elab.async false
set_option linter.all false
set_option maxRecDepth 100000
set_option maxHeartbeats 4000000
namespace RS
open PySem PySem.Spec PyProof.Rows L2 Evl
/-! ### dicts: comprehensions over them, locked; what is made is a dict -/
section
variable {K : PySem.W.Frag} {σ : L2.St} {G H H' : Hp} {ta tb te tk tv td tl : TE} {t : TT} {g : TG} {wi : TI} {vs : List Nat} {D : Ends} {tz tu : TS}
theorem el_lock {d : Addr} {kvs : List (Key × V)} {xs : List V} (hd : G d = some (.dK kvs)) (h : ∀ od, EvL te σ (upd G d (.frz od (.dK kvs))) xs) : EvL (tLockE te) σ G xs := fun H1 e Q q =>
  ⟨d, .dK kvs, e _ _ hd, trivial, fun od => h od _ (fun b o hb => by
    by_cases z : b = d
    · rw [z, upd_same] at hb ⊢
      exact hb
    · rw [upd_ne z] at hb ⊢
      exact e _ _ hb) _ fun p H2 hp e2 h2 => by
    have npd : p ≠ d := fun z => by
      rw [z, upd_same] at hp
      cases hp
    refine ⟨e2 _ _ upd_same, q p _ (by rw [upd_ne npd] at hp; exact hp) (fun b o hb => ?_) (by rw [upd_ne npd]; exact h2)⟩
    by_cases z : b = d
    · rw [z] at hb ⊢
      rw [e _ _ hd] at hb
      rw [upd_same]
      exact hb
    · rw [upd_ne z]
      exact e2 _ _ (by rw [upd_ne z]; exact hb)⟩
/-- x = [.. for .. in d ..], the statement under the lock -/
theorem x_lock {d : Addr} {kvs : List (Key × V)} {xs : List V} {i : Nat} (e : Ex G H) (hd : G d = some (.dK kvs)) (h : ∀ od, EvL te σ (upd G d (.frz od (.dK kvs))) xs)
    (k : ∀ p H1, Ex G H1 → H p = none → Ex H H1 → H1 p = some (.lst xs) → tz D (σ.set i (some (.ref p))) H1) : tSeq (tLock (tAsg te (gName i))) tz D σ H := by
  refine ⟨d, .dK kvs, e _ _ hd, trivial, fun od => h od _ (fun b o hb => ?_) _ fun p H2 hp e2 h2 => ?_⟩
  · by_cases z : b = d
    · rw [z, upd_same] at hb ⊢
      exact hb
    · rw [upd_ne z] at hb ⊢
      exact e _ _ hb
  · have npd : p ≠ d := fun z => by
      rw [z, upd_same] at hp
      cases hp
    have e3 : Ex H (upd H2 d (.dK kvs)) := fun b o hb => by
      by_cases z : b = d
      · rw [z] at hb ⊢
        rw [e _ _ hd] at hb
        rw [upd_same]
        exact hb
      · rw [upd_ne z]
        exact e2 _ _ (by rw [upd_ne z]; exact hb)
    exact ⟨e2 _ _ upd_same, k p _ (e.trans e3) (by rw [upd_ne npd] at hp; exact hp) e3 (by rw [upd_ne npd]; exact h2)⟩
theorem ei_keys {d : Addr} {od : Obj} {kvs : List (Key × V)} (h : Ev td σ G (.ref d)) (hd : G d = some (.frz od (.dK kvs))) : EvI (iKeys td) σ G kvs.length (fun i H x H' => H' = H ∧ ∃ k v, kvs[i]? = some (k, v) ∧ x = kV k) := fun H1 e R q => h H1 e _ fun H2 e2 =>
  ⟨d, od, rfl, .inl ⟨kvs, e2 _ _ (e _ _ hd), q _ H2 _ e2 walk_keys fun H3 e3 => e3 _ _ (e2 _ _ (e _ _ hd))⟩⟩
theorem ei_items {d : Addr} {od : Obj} {kvs : List (Key × V)} (h : Ev td σ G (.ref d)) (hd : G d = some (.frz od (.dK kvs))) : EvI (iItems td) σ G kvs.length (YPair (fun i => kvs[i]?.map fun kv => kV kv.1) (fun i => kvs[i]?.map Prod.snd)) := fun H1 e R q => h H1 e _ fun H2 e2 =>
  ⟨d, od, kvs, rfl, e2 _ _ (e _ _ hd), q _ H2 _ e2 walk_items fun H3 e3 => e3 _ _ (e2 _ _ (e _ _ hd))⟩
theorem tg_key {kvs : List (Key × V)} {j i : Nat} {k : Key} {v : V} (h : kvs[i]? = some (k, v)) : Tg (gName j) (fun i H x H' => H' = H ∧ ∃ k v, kvs[i]? = some (k, v) ∧ x = kV k) σ i (σ.set j (some (kV k))) := fun y H' H'' ⟨e, k', v', hy, hx⟩ => by
  subst e hx
  rw [h] at hy
  cases hy
  exact ⟨Ex.refl _, fun _ q => q⟩
/-- a new dict -/
def EvD (te : TE) (σ : L2.St) (G : Hp) (kvs : List (Key × V)) : Prop := ∀ H1, Ex G H1 → ∀ Q : VK, (∀ p H2, H1 p = none → Ex H1 H2 → H2 p = some (.dK kvs) → Q (.ref p) H2) → te σ H1 Q
theorem ed_lock {d : Addr} {kvs : List (Key × V)} {xs : List (Key × V)} (hd : G d = some (.dK kvs)) (h : ∀ od, EvD te σ (upd G d (.frz od (.dK kvs))) xs) : EvD (tLockE te) σ G xs := fun H1 e Q q =>
  ⟨d, .dK kvs, e _ _ hd, trivial, fun od => h od _ (fun b o hb => by
    by_cases z : b = d
    · rw [z, upd_same] at hb ⊢
      exact hb
    · rw [upd_ne z] at hb ⊢
      exact e _ _ hb) _ fun p H2 hp e2 h2 => by
    have npd : p ≠ d := fun z => by
      rw [z, upd_same] at hp
      cases hp
    refine ⟨e2 _ _ upd_same, q p _ (by rw [upd_ne npd] at hp; exact hp) (fun b o hb => ?_) (by rw [upd_ne npd]; exact h2)⟩
    by_cases z : b = d
    · rw [z] at hb ⊢
      rw [e _ _ hd] at hb
      rw [upd_same]
      exact hb
    · rw [upd_ne z]
      exact e2 _ _ (by rw [upd_ne z]; exact hb)⟩
theorem dc_it {J : It} {n : Nat} {Gd : Hp → Prop} {Y : Nat → Hp → V → Hp → Prop} (w : Walk J n Gd Y) {H1 : Hp} {Dl : Addr} {Qd : Hp → Prop} (Pv : Nat → Hp → Prop) (h0 : Pv 0 (upd H1 Dl (.dK []))) (hG : ∀ i H, i ≤ n → Pv i H → Gd H)
    (hs : ∀ i x H H', i < n → Pv i H → Y i H x H' → g x (wipe σ vs) H' fun σ2 H2 => wipe σ2 vs = wipe σ vs ∧ t σ2 H2 fun b H3 =>
      if b = true then tk σ2 H3 fun y H4 => tv σ2 H4 fun z H5 => ∃ kvs k, y = kV k ∧ H5 Dl = some (.dK kvs) ∧ kvs.length < sizeLine ∧ Pv (i + 1) (upd H5 Dl (.dK (putK kvs k z))) else Pv (i + 1) H3) (hd : ∀ H, Pv n H → Qd H) :
    ∃ W : Nat → Nat → Hp → Prop, (∃ m, W 0 m (upd H1 Dl (.dK []))) ∧ ∀ i m H, W i m H →
      (J.stop i H ∧ Qd H) ∨ (J.go i H ∧ ∃ Nx : Hp → Prop, (∀ H', Nx H' → ∃ m', m' < m ∧ W (i + 1) m' H') ∧ ∀ x H', J.yld i H x H' → g x (wipe σ vs) H' fun σ2 H2 => wipe σ2 vs = wipe σ vs ∧ t σ2 H2 fun b H3 =>
        if b = true then tk σ2 H3 fun y H4 => tv σ2 H4 fun z H5 => ∃ kvs k, y = kV k ∧ H5 Dl = some (.dK kvs) ∧ kvs.length < sizeLine ∧ Nx (upd H5 Dl (.dK (putK kvs k z))) else Nx H3) := by
  refine ⟨fun i m H => m = n - i ∧ i ≤ n ∧ Pv i H, ⟨n, by simp, Nat.zero_le _, h0⟩, ?_⟩
  rintro i m H ⟨rfl, hi, p⟩
  have q := hG i H hi p
  by_cases hlt : i < n
  · exact .inr ⟨w.goes i H hlt q, Pv (i + 1), fun H' p' => ⟨n - (i + 1), by omega, rfl, hlt, p'⟩, fun x H' y => hs i x H H' hlt p (w.yields i H x H' hlt q y)⟩
  · have e : i = n := by omega
    subst e
    exact .inl ⟨w.stops H q, hd H p⟩
theorem valV_notin {kvs : List (Key × V)} {k : Key} (h : ∀ q ∈ kvs, q.1 ≠ k) : valV kvs k = none := by
  unfold valV
  rw [List.find?_eq_none.mpr fun q hq => by simpa using h q hq]
  rfl
theorem ed_comp {n : Nat} {Y : Nat → Hp → V → Hp → Prop} (hI : EvI wi σ G n Y) (S : Nat → L2.St) (hT : ∀ i, i < n → Tg g Y (wipe σ vs) i (S i)) (hw : ∀ i, i < n → wipe (S i) vs = wipe σ vs) (k : Nat → Key) (v : Nat → V)
    (hk : ∀ i, i < n → Ev tk (S i) G (kV (k i))) (hv : ∀ i, i < n → Ev tv (S i) G (v i)) (hn : ∀ i j, i < j → j < n → k i ≠ k j) (hz : n ≤ 40000) : EvD (tDc wi g tYes tk tv vs) σ G ((List.range n).map fun i => (k i, v i)) := fun H0 e Q q => hI H0 e _ fun J H1 Gd e1 w hG Dl hD =>
  dc_it w (fun i H' => H1 Dl = none ∧ Ex H1 H' ∧ H' Dl = some (.dK ((List.range i).map fun i => (k i, v i)))) ⟨hD, Ex.new hD, upd_same⟩ (fun i H' _ p => hG H' p.2.1) (fun i x H' H'' hi p y => by
    obtain ⟨e2, hg⟩ := hT i hi x H' H'' y
    refine hg _ ⟨hw i hi, ?_⟩
    show tk (S i) H'' fun y H4 => tv (S i) H4 fun z H5 => _
    refine (hk i hi).mono (e.trans e1) H'' (p.2.1.trans e2) _ fun H4 e4 => (hv i hi).mono (e.trans e1) H4 ((p.2.1.trans e2).trans e4) _ fun H5 e5 => ?_
    refine ⟨_, k i, rfl, e5 _ _ (e4 _ _ (e2 _ _ p.2.2)), ?_, p.1, Ex.mut (((p.2.1.trans e2).trans e4).trans e5) p.1, ?_⟩
    · rw [List.length_map, List.length_range]
      exact sz_lt (by omega)
    · rw [upd_same, putK_new _ (valV_notin fun q hq => ?_), List.range_succ, List.map_append]
      · rfl
      · obtain ⟨j, hj, rfl⟩ := List.mem_map.mp hq
        exact hn j i (List.mem_range.mp hj) hi) (fun H' p => q Dl H' (fresh_back e1 p.1) (e1.trans p.2.1) p.2.2)
theorem x_asgD {kvs : List (Key × V)} {i : Nat} (e : Ex G H) (h : EvD te σ G kvs) (k : ∀ p H1, Ex G H1 → H p = none → Ex H H1 → H1 p = some (.dK kvs) → tz D (σ.set i (some (.ref p))) H1) : tSeq (tAsg te (gName i)) tz D σ H := h H e _ fun p H1 hp e1 h1 => k p H1 (e.trans e1) hp e1 h1
/-- min(d.values()) -/
theorem ev_minVals {d : Addr} {kvs : List (Key × V)} {ns : List Int} {M : Int} (h : Ev td σ G (.ref d)) (hd : G d = some (.dK kvs)) (hn : kvs.map Prod.snd = ns.map V.int) (hM : M ∈ ns) (hle : ∀ y ∈ ns, M ≤ y) : Ev (tCB rMinVals (tCons (tVals td) tNil)) σ G (.int M) := fun H1 e Q q =>
  h H1 e _ fun H2 e2 => ⟨d, kvs, rfl, e2 _ _ (e _ _ hd), fun p hp => by
    have npd : d ≠ p := ne_of_none (e2 _ _ (e _ _ hd)) hp
    refine ⟨p, d, kvs, ns, rfl, upd_same, by rw [upd_ne npd]; exact e2 _ _ (e _ _ hd), hn, List.length_pos_of_mem hM, fun m h1 h2 => ?_⟩
    have e1 := h2 M hM
    have e3 := hle m h1
    have : m = M := by omega
    rw [this]
    exact q _ (e2.trans (Ex.new hp))⟩
/-- d[k] = v -/
theorem s_dput {d : Addr} {kvs : List (Key × V)} {k : Key} {v : V} (hv : Ev tv σ H v) (hd : Ev td σ H (.ref d)) (hk : Ev tk σ H (kV k)) (h : H d = some (.dK kvs)) (hz : kvs.length < 100000) (q : ∀ H1, Ex H H1 → D.nx σ (upd H1 d (.dK (putK kvs k v)))) : sDPut td tk tv D σ H :=
  hv H (Ex.refl H) _ fun H1 e1 => hd H1 e1 _ fun H2 e2 => hk H2 (e1.trans e2) _ fun H3 e3 => ⟨d, _, rfl, DPut.k (((e1.trans e2).trans e3) _ _ h) (sz_lt hz), q H3 ((e1.trans e2).trans e3)⟩
end
/-! ### a run that stands -/
/-- what the run's own changes leave as it is -/
def nm : HO → Bool
  | .dK _ => false
  | .ins _ _ fs => decide (fs.length ≠ 8)
  | _ => true
def NK (H H' : Hp) : Prop := ∀ b o, H b = some o → nm o = true → H' b = some o
theorem NK.of {H H' : Hp} (e : Ex H H') : NK H H' := fun b o h _ => e b o h
theorem NK.trans {H H1 H2 : Hp} (a : NK H H1) (b : NK H1 H2) : NK H H2 := fun x o h z => b x o (a x o h z) z
theorem NK.updD {H H1 : Hp} {d : Addr} {kvs kvs' : List (Key × V)} (e : Ex H H1) (h : H d = some (.dK kvs)) : NK H (upd H1 d (.dK kvs')) := fun b o hb hn => by
  rw [upd_ne (fun z => by rw [z, h] at hb; cases hb; cases hn)]
  exact e b o hb
theorem NK.updP {H H1 : Hp} {p C dx : Addr} {fs fs' : List (Str × V)} (e : Ex H H1) (h : H p = some (.ins C dx fs)) (hl : fs.length = 8) : NK H (upd H1 p (.ins C dx fs')) := fun b o hb hn => by
  rw [upd_ne (fun z => by
    rw [z, h] at hb
    cases hb
    unfold nm at hn
    exact of_decide_eq_true hn hl)]
  exact e b o hb
theorem RuleA.nk {K : PySem.W.Frag} {H H' : Hp} {a : RA} {gs : List Int} {n : Nat} (R : RuleA K H a gs n) (e : NK H H') : RuleA K H' a gs n := ⟨e _ _ R.o rfl, e _ _ R.l rfl, e _ _ R.t rfl, e _ _ R.s rfl, R.ok, R.hi, R.sz⟩
theorem SceneA.nk {K : PySem.W.Frag} {H H' : Hp} {a : SA} {S : Sc} (X : SceneA K H a S) (e : NK H H') : SceneA K H' a S :=
  ⟨e _ _ X.o rfl, X.ru.nk e, e _ _ X.st rfl, e _ _ X.wl rfl, ⟨X.wn.len, fun i r h => by
    obtain ⟨w, h1, h2⟩ := X.wn.at_ i r h
    exact ⟨w, h1, e _ _ h2 rfl⟩⟩, X.n0, X.n40, X.w10, X.ln1⟩
structure UA where
  p : Addr
  dx : Addr
  sa : SA
  b : Addr
  ch : Addr
  ds : Addr
  dc : Addr
  dw : Addr
def kI (c : Nat) : Key := Sum.inl (c : Int)
def wtK (wt : List (Nat × Nat)) : List (Key × V) := wt.map fun q => (kI q.1, V.int (q.2 : Int))
structure SvA (H : Hp) (kvs : List (Key × V)) (sv : List (Nat × Nat × Int)) : Prop where
  len : kvs.length = sv.length
  at_ : ∀ (i : Nat) q, sv[i]? = some q → ∃ t, kvs[i]? = some (kI q.1, .ref t) ∧ H t = some (.tup [.int (q.2.1 : Int), .int q.2.2])
abbrev RunO (K : PySem.W.Frag) (H : Hp) (a : UA) (fr : Int) : Prop := H a.p = some (.ins (cRun K) a.dx (runF a.sa.p a.sa.ra.r a.b a.ch a.ds a.dc a.dw fr))
structure RunA (K : PySem.W.Frag) (H : Hp) (a : UA) (S : Sc) (ms : List Int) (s : RSt) : Prop where
  o : RunO K H a s.fr
  b : H a.b = some (.lst (S.st.map V.int))
  ch : H a.ch = some (.lst (ms.map V.int))
  wt : H a.dw = some (.dK (wtK s.wt))
  cl : ∃ kvs, H a.dc = some (.dK kvs) ∧ kvs.map (·.1) = s.cl.map kI
  sv : ∃ kvs, H a.ds = some (.dK kvs) ∧ SvA H kvs s.sv
  sc : SceneA K H a.sa S
  mo : ∀ x, x ∈ ms ↔ S.IsMo x
  ml : ms.length ≤ 1000
  nwc : a.dw ≠ a.dc
  nws : a.dw ≠ a.ds
  ncs : a.dc ≠ a.ds
def mutA (a : UA) : List Addr := [a.p, a.dw, a.dc, a.ds]
section
variable {K : PySem.W.Frag} {G H H1 H' : Hp} {a : UA} {S : Sc} {ms : List Int} {s : RSt}
theorem SvA.nk {kvs : List (Key × V)} {sv : List (Nat × Nat × Int)} (h : SvA H kvs sv) (e : NK H H') : SvA H' kvs sv := ⟨h.len, fun i q hq => by
  obtain ⟨t, h1, h2⟩ := h.at_ i q hq
  exact ⟨t, h1, e _ _ h2 rfl⟩⟩
theorem RunA.mono (R : RunA K G a S ms s) (e : Ex G H) : RunA K H a S ms s :=
  ⟨e _ _ R.o, e _ _ R.b, e _ _ R.ch, e _ _ R.wt, let ⟨k, h1, h2⟩ := R.cl; ⟨k, e _ _ h1, h2⟩, let ⟨k, h1, h2⟩ := R.sv; ⟨k, e _ _ h1, h2.nk (NK.of e)⟩, R.sc.mono e, R.mo, R.ml, R.nwc, R.nws, R.ncs⟩
theorem RunA.npw (R : RunA K H a S ms s) : a.p ≠ a.dw := ne_of R.o R.wt (by intro z; cases z)
theorem RunA.npc (R : RunA K H a S ms s) : a.p ≠ a.dc := let ⟨_, h, _⟩ := R.cl; ne_of R.o h (by intro z; cases z)
theorem RunA.nps (R : RunA K H a S ms s) : a.p ≠ a.ds := let ⟨_, h, _⟩ := R.sv; ne_of R.o h (by intro z; cases z)
/-- the waiting ones stored -/
theorem RunA.putW (R : RunA K H a S ms s) (e : Ex H H1) (wt : List (Nat × Nat)) : RunA K (upd H1 a.dw (.dK (wtK wt))) a S ms { s with wt := wt } := by
  have k := NK.updD (kvs' := wtK wt) e R.wt
  refine ⟨by show upd _ _ _ _ = _; rw [upd_ne R.npw]; exact e _ _ R.o, k _ _ R.b rfl, k _ _ R.ch rfl, upd_same, ?_, ?_, R.sc.nk k, R.mo, R.ml, R.nwc, R.nws, R.ncs⟩
  · obtain ⟨kv, h1, h2⟩ := R.cl
    exact ⟨kv, by rw [upd_ne R.nwc.symm]; exact e _ _ h1, h2⟩
  · obtain ⟨kv, h1, h2⟩ := R.sv
    exact ⟨kv, by rw [upd_ne R.nws.symm]; exact e _ _ h1, h2.nk k⟩
theorem RunA.putC (R : RunA K H a S ms s) (e : Ex H H1) (cl : List Nat) {kvs : List (Key × V)} (hk : kvs.map (·.1) = cl.map kI) : RunA K (upd H1 a.dc (.dK kvs)) a S ms { s with cl := cl } := by
  obtain ⟨kv0, h0, _⟩ := R.cl
  have k := NK.updD (kvs' := kvs) e h0
  refine ⟨by show upd _ _ _ _ = _; rw [upd_ne R.npc]; exact e _ _ R.o, k _ _ R.b rfl, k _ _ R.ch rfl, by show upd _ _ _ _ = _; rw [upd_ne R.nwc]; exact e _ _ R.wt, ⟨kvs, upd_same, hk⟩, ?_, R.sc.nk k, R.mo, R.ml, R.nwc, R.nws, R.ncs⟩
  obtain ⟨kv, h1, h2⟩ := R.sv
  exact ⟨kv, by rw [upd_ne R.ncs.symm]; exact e _ _ h1, h2.nk k⟩
theorem RunA.putS (R : RunA K H a S ms s) (e : Ex H H1) (sv : List (Nat × Nat × Int)) {kvs : List (Key × V)} (hk : SvA H1 kvs sv) : RunA K (upd H1 a.ds (.dK kvs)) a S ms { s with sv := sv } := by
  obtain ⟨kv0, h0, _⟩ := R.sv
  have k := NK.updD (kvs' := kvs) e h0
  refine ⟨by show upd _ _ _ _ = _; rw [upd_ne R.nps]; exact e _ _ R.o, k _ _ R.b rfl, k _ _ R.ch rfl, by show upd _ _ _ _ = _; rw [upd_ne R.nws]; exact e _ _ R.wt, ?_, ⟨kvs, upd_same, hk.nk (NK.updD (Ex.refl H1) (e _ _ h0))⟩, R.sc.nk k, R.mo, R.ml, R.nwc, R.nws, R.ncs⟩
  obtain ⟨kv, h1, h2⟩ := R.cl
  exact ⟨kv, by rw [upd_ne R.ncs]; exact e _ _ h1, h2⟩
theorem RunA.putF (R : RunA K H a S ms s) (e : Ex H H1) (x : Int) : RunA K (upd H1 a.p (.ins (cRun K) a.dx (runF a.sa.p a.sa.ra.r a.b a.ch a.ds a.dc a.dw x))) a S ms { s with fr := x } := by
  have k := NK.updP (fs' := runF a.sa.p a.sa.ra.r a.b a.ch a.ds a.dc a.dw x) e R.o rfl
  refine ⟨upd_same, k _ _ R.b rfl, k _ _ R.ch rfl, by show upd _ _ _ _ = _; rw [upd_ne R.npw.symm]; exact e _ _ R.wt, ?_, ?_, R.sc.nk k, R.mo, R.ml, R.nwc, R.nws, R.ncs⟩
  · obtain ⟨kv, h1, h2⟩ := R.cl
    exact ⟨kv, by rw [upd_ne R.npc.symm]; exact e _ _ h1, h2⟩
  · obtain ⟨kv, h1, h2⟩ := R.sv
    exact ⟨kv, by rw [upd_ne R.nps.symm]; exact e _ _ h1, h2.nk k⟩
/-! ### the waiting ones as a dict -/
theorem kI_inj {c d : Nat} : kI c = kI d ↔ c = d := by
  unfold kI
  constructor
  · intro h
    have := Sum.inl.inj h
    omega
  · intro h
    rw [h]
theorem wtK_put {wt : List (Nat × Nat)} {c i : Nat} (h : c ∈ wt.map (·.1)) : putK (wtK wt) (kI c) (.int (i : Int)) = wtK (wt.map fun q => if q.1 = c then (q.1, i) else q) := by
  unfold putK
  have : ((wtK wt).any fun kv => decide (kv.1 = kI c)) = true := by
    rw [List.any_eq_true]
    obtain ⟨q, hq, e⟩ := List.mem_map.mp h
    exact ⟨(kI q.1, .int (q.2 : Int)), List.mem_map.mpr ⟨q, hq, rfl⟩, decide_eq_true (by rw [e])⟩
  rw [if_pos this]
  unfold wtK
  rw [List.map_map, List.map_map]
  refine List.map_congr_left fun q _ => ?_
  show (if kI q.1 = kI c then (kI q.1, V.int (i : Int)) else (kI q.1, V.int (q.2 : Int))) = (kI (if q.1 = c then (q.1, i) else q).1, V.int ((if q.1 = c then (q.1, i) else q).2 : Int))
  by_cases e : q.1 = c
  · rw [if_pos (kI_inj.mpr e), if_pos e]
  · rw [if_neg (fun z => e (kI_inj.mp z)), if_neg e]
theorem wtK_drop (wt : List (Nat × Nat)) (c : Nat) : dropK (wtK wt) (kI c) = wtK (wt.filter fun q => !decide (q.1 = c)) := by
  unfold dropK wtK
  rw [List.filter_map]
  congr 1
  refine List.filter_congr fun q _ => ?_
  show decide (kI q.1 ≠ kI c) = !decide (q.1 = c)
  by_cases e : q.1 = c
  · rw [decide_eq_true e]
    exact decide_eq_false (fun z => z (kI_inj.mpr e))
  · rw [decide_eq_false e]
    exact decide_eq_true (fun z => e (kI_inj.mp z))
theorem wtK_val {wt : List (Nat × Nat)} {c i : Nat} (hn : (wt.map (·.1)).Nodup) (h : (c, i) ∈ wt) : valV (wtK wt) (kI c) = some (.int (i : Int)) := by
  induction wt with
  | nil => cases h
  | cons q r ih =>
    rw [List.map_cons, List.nodup_cons] at hn
    show valV ((kI q.1, V.int (q.2 : Int)) :: wtK r) (kI c) = _
    rcases List.mem_cons.mp h with e | h'
    · rw [← e]
      exact valV_pos rfl
    · rw [valV_neg (fun z => hn.1 (by rw [kI_inj.mp z]; exact List.mem_map.mpr ⟨_, h', rfl⟩))]
      exact ih hn.2 h'
theorem wtK_len (wt : List (Nat × Nat)) : (wtK wt).length = wt.length := List.length_map _
theorem wtK_at {wt : List (Nat × Nat)} {i : Nat} (h : i < wt.length) : (wtK wt)[i]? = some (kI (wt.getD i (0, 0)).1, .int ((wt.getD i (0, 0)).2 : Int)) := by
  unfold wtK
  rw [List.getElem?_map, List.getD_eq_getElem?_getD, List.getElem?_eq_getElem h]
  rfl
theorem wk_at {wt : List (Nat × Nat)} {i : Nat} (h : i < wt.length) : wt.getD i (0, 0) ∈ wt := by
  rw [List.getD_eq_getElem?_getD, List.getElem?_eq_getElem h]
  exact List.getElem_mem h
/-! ### the fields -/
variable {mg : Str → Option Value} {σ : L2.St} {ta : TE} {fr : Int}
theorem e_its_scene (T : Txt K mg) (o : RunO K G a fr) (h : Ev ta σ G (.ref a.p)) : Ev (tFld K ta "its_scene") σ G (.ref a.sa.p) := ev_fld h o T.c_Run T.n_Run_its_scene lk_its_scene
theorem e_pattern (T : Txt K mg) (o : RunO K G a fr) (h : Ev ta σ G (.ref a.p)) : Ev (tFld K ta "pattern") σ G (.ref a.sa.ra.r) := ev_fld h o T.c_Run T.n_Run_pattern lk_pattern
theorem e_begins (T : Txt K mg) (o : RunO K G a fr) (h : Ev ta σ G (.ref a.p)) : Ev (tFld K ta "begins") σ G (.ref a.b) := ev_fld h o T.c_Run T.n_Run_begins lk_begins
theorem e_changes (T : Txt K mg) (o : RunO K G a fr) (h : Ev ta σ G (.ref a.p)) : Ev (tFld K ta "changes") σ G (.ref a.ch) := ev_fld h o T.c_Run T.n_Run_changes lk_changes
theorem e_services (T : Txt K mg) (o : RunO K G a fr) (h : Ev ta σ G (.ref a.p)) : Ev (tFld K ta "services") σ G (.ref a.ds) := ev_fld h o T.c_Run T.n_Run_services lk_services
theorem e_closed (T : Txt K mg) (o : RunO K G a fr) (h : Ev ta σ G (.ref a.p)) : Ev (tFld K ta "closed") σ G (.ref a.dc) := ev_fld h o T.c_Run T.n_Run_closed lk_closed
theorem e_waiting (T : Txt K mg) (o : RunO K G a fr) (h : Ev ta σ G (.ref a.p)) : Ev (tFld K ta "waiting") σ G (.ref a.dw) := ev_fld h o T.c_Run T.n_Run_waiting lk_waiting
theorem e_free (T : Txt K mg) (o : RunO K G a fr) (h : Ev ta σ G (.ref a.p)) : Ev (tFld K ta "free_from") σ G (.int fr) := ev_fld h o T.c_Run T.n_Run_free_from lk_free_from
/-- self.begins[client] -/
theorem e_begin (T : Txt K mg) (o : RunO K G a fr) (hb : G a.b = some (.lst (S.st.map V.int))) (h : Ev ta σ G (.ref a.p)) {c : Nat} (hc : c < S.N) {tb : TE} (h' : Ev tb σ G (.int (c : Int))) : Ev (tOp (rIxL K) (tFld K ta "begins") tb) σ G (.int (S.s0 c)) :=
  ev_ixS (es_of (e_begins T o h) hb) h' (s0_atI hc)
end
end RS
end

section
set_option Elab.async false
set_option linter.all false
set_option maxRecDepth 100000
set_option maxHeartbeats 4000000
namespace RS
open PySem PySem.Spec PyProof.Rows L2 Evl
/-- the end of the outage or busy time that contains a slot, or the slot -/
def failI (S : Sc) (fr x : Int) : Int := if x < fr then fr else match outL S x with
  | [] => x
  | i :: _ => (S.ws.getD i (0, 0)).2
theorem failI_gt {S : Sc} {fr x : Int} (h : x < failI S fr x) : failI S fr x = fr ∨ ∃ w ∈ S.ws, w.1 ≤ x ∧ failI S fr x = w.2 := by
  unfold failI at h ⊢
  split
  · exact .inl rfl
  · rename_i hx
    rw [if_neg hx] at h
    cases q : outL S x with
    | nil =>
      rw [q] at h
      simp at h
    | cons i r =>
      have hm := mem_outL.mp (show i ∈ outL S x by rw [q]; exact List.mem_cons_self)
      refine .inr ⟨S.ws.getD i (0, 0), ?_, hm.2.1, rfl⟩
      rw [List.getD_eq_getElem?_getD, List.getElem?_eq_getElem hm.1]
      exact List.getElem_mem hm.1
theorem failI_le {S : Sc} {fr x : Int} (h : ¬ x < failI S fr x) : ¬ x < fr ∧ ¬ S.inW x := by
  unfold failI at h
  split at h
  · rename_i hx
    exact absurd hx h
  · rename_i hx
    refine ⟨hx, fun hw => ?_⟩
    cases q : outL S x with
    | nil => exact outV_non (by unfold outV; rw [q]) hw
    | cons i r =>
      have hm := mem_outL.mp (show i ∈ outL S x by rw [q]; exact List.mem_cons_self)
      rw [q] at h
      exact h hm.2.2
theorem max_ex : ∀ {l : List Int}, l ≠ [] → ∃ m ∈ l, ∀ y ∈ l, y ≤ m
  | [], h => absurd rfl h
  | [a], _ => ⟨a, List.mem_cons_self, fun y hy => by rw [List.mem_singleton.mp hy]; exact Int.le_refl _⟩
  | a :: b :: r, _ => by
    obtain ⟨m, hm, h⟩ := max_ex (l := b :: r) (by simp)
    by_cases q : m ≤ a
    · refine ⟨a, List.mem_cons_self, fun y hy => ?_⟩
      rcases List.mem_cons.mp hy with e | e
      · rw [e]
        exact Int.le_refl _
      · have := h y e
        omega
    · refine ⟨m, List.mem_cons_of_mem _ hm, fun y hy => ?_⟩
      rcases List.mem_cons.mp hy with e | e
      · omega
      · exact h y e
/-- the latest of some moments and one more, up to a slot -/
theorem late_ex {S : Sc} {s : RSt} {ms : List Int} {x : Int} (hm : ∀ y, y ∈ ms ↔ S.IsMo y) (h : ∃ y, S.IsMo y ∧ y ≤ x) : ∃ m, IsLate S s x m := by
  obtain ⟨y, hy, hyx⟩ := h
  have hne : (ms ++ [s.fr]).filter (fun z => decide (z ≤ x)) ≠ [] := by
    intro q
    have : y ∈ (ms ++ [s.fr]).filter (fun z => decide (z ≤ x)) := List.mem_filter.mpr ⟨List.mem_append_left _ ((hm y).mpr hy), decide_eq_true hyx⟩
    rw [q] at this
    cases this
  obtain ⟨m, h1, h2⟩ := max_ex hne
  obtain ⟨h3, h4⟩ := List.mem_filter.mp h1
  refine ⟨m, ?_, of_decide_eq_true h4, fun z hz hzx => h2 z (List.mem_filter.mpr ⟨?_, decide_eq_true hzx⟩)⟩
  · rcases List.mem_append.mp h3 with q | q
    · exact .inl ((hm m).mp q)
    · exact .inr (List.mem_singleton.mp q)
  · rcases hz with q | q
    · exact List.mem_append_left _ ((hm z).mpr q)
    · exact List.mem_append_right _ (List.mem_singleton.mpr q)
section
variable {P : Program} {w : World} {K : PySem.W.Frag} {mg : Str → Option Value} {base : Heap} {G : Hp} {a : UA} {S : Sc} {ms : List Int} {s : RSt} {σ : L2.St} {ta td : TE}
theorem el_listD {d : Addr} {kvs : List (Key × V)} (h : Ev td σ G (.ref d)) (hd : G d = some (.dK kvs)) : EvL (tCB rListD (tCons td tNil)) σ G (kvs.map fun kv => kV kv.1) := fun H1 e Q q =>
  h H1 e _ fun H2 e2 => ⟨d, kvs, rfl, e2 _ _ (e _ _ hd), fun p hp => q p _ (fresh_back e2 hp) (e2.trans (Ex.new hp)) upd_same⟩
/-- promises of the run's methods: what is read, what is changed -/
def SpRun (K : PySem.W.Frag) (A : UA → Sc → List Int → RSt → List V → V → Prop) (k : Nat) : Sp := SpR fun vs H z => ∃ (a : UA) (S : Sc) (ms : List Int) (s : RSt) (us : List V), vs = .ref a.p :: us ∧ us.length = k ∧ RunA K H a S ms s ∧ A a S ms s us z
def SpMut (K : PySem.W.Frag) (pre : Sc → List Int → RSt → List V → Hp → Prop) (post : Sc → RSt → List V → RSt → Prop) (k : Nat) : Sp := fun vs H Q _ => ∃ (a : UA) (S : Sc) (ms : List Int) (s : RSt) (us : List V), vs = .ref a.p :: us ∧ us.length = k ∧ RunA K H a S ms s ∧ pre S ms s us H ∧
  ∀ (s' : RSt) (H' : Hp), post S s us s' → RunA K H' a S ms s' → ExB (mutA a) H H' → Q .non H'
theorem v_run {A : UA → Sc → List Int → RSt → List V → V → Prop} {k : Nat} {us : List V} {z : V} (R : RunA K G a S ms s) (h : A a S ms s us z) (hk : us.length = k) : SpV (SpRun K A k) (.ref a.p :: us) G z := sp_r fun _ e => ⟨a, S, ms, s, us, rfl, hk, R.mono e, h⟩
theorem SpRun.len {A : UA → Sc → List Int → RSt → List V → V → Prop} {k : Nat} {vs : List V} {H : Hp} {Q : VK} {E : XK} (h : SpRun K A k vs H Q E) : vs.length = k + 1 := by
  obtain ⟨_, ⟨_, _, _, _, us, rfl, hk, _⟩, _⟩ := h
  rw [List.length_cons, hk]
theorem SpMut.len {pre : Sc → List Int → RSt → List V → Hp → Prop} {post : Sc → RSt → List V → RSt → Prop} {k : Nat} {vs : List V} {H : Hp} {Q : VK} {E : XK} (h : SpMut K pre post k vs H Q E) : vs.length = k + 1 := by
  obtain ⟨_, _, _, _, us, rfl, hk, _⟩ := h
  rw [List.length_cons, hk]
def sp_Run_failing_until (K : PySem.W.Frag) : Sp := SpRun K (fun _ S _ s us z => ∃ x : Int, us = [.int x] ∧ z = .int (failI S s.fr x)) 1
theorem ok_Run_failing_until (T : Txt K mg) : ∃ fd, CalM P w K mg base 3 (cRun K) "failing_until" (He.ma K (cRun K) "failing_until") fd ["self", "slot"] (sp_Run_failing_until K) := by
  obtain ⟨fd_Scene_outage_at, c_Scene_outage_at⟩ := ok_Scene_outage_at (P := P) (w := w) (base := base) T
  obtain ⟨fd_Scene_outages, c_Scene_outages⟩ := ok_Scene_outages (P := P) (w := w) (base := base) T
  obtain ⟨fd, F⟩ := T.f_Run_failing_until
  refine ⟨fd, T.m_Run_failing_until, F.ok sc_Run_failing_until (fun vs H Q E h => ?_) (fun cdv A outer s H vs Q E hr h => ?_), F.bindsN fun _ _ _ _ _ _ us hl => match us, hl with | [_, _], _ => rfl⟩
  · exact h.len
  · obtain ⟨z, ⟨a, S, ms, s, us, rfl, _, R, x, rfl, rfl⟩, k⟩ := h
    refine ⟨_, PSs.nox (pss_cons (ps_if (pt_cmpR op_lt (pv 1) (pe_fld (pv 0) rfl) (nomark _)) (pss_one (ps_ret (pe_fld (pv 0) rfl))) pss_nil)
      (pss_cons (ps_set (i := 2) sc_Run_failing_until.nd rfl (by first | exact Or.inl rfl | exact Or.inr rfl) (pe_meth (pe_fld (pv 0) rfl) T.c_Scene c_Scene_outage_at.at_ c_Scene_outage_at.ok (hr.mono (by decide)) c_Scene_outage_at.b .nil pass0 (pa_cons (pv 1) pa_nil)))
      (pss_one (ps_ret (pe_ifExp (pt_cmpR op_isN (pv 2) pe_non (nomark _)) (pv 1) (pe_ix ix_tup (pe_ix ix_list (pe_meth0 (pe_fld (pv 0) rfl) T.c_Scene c_Scene_outages.at_ c_Scene_outages.ok (hr.mono (by decide)) c_Scene_outages.b .nil pass0) (pv 2) (fun _ _ => rfl)) pe_int (fun _ _ => rfl))))))), ?_⟩
    refine x_if (Ex.refl H) (et_test (ev_op (ev_var rfl) (e_free T R.o (ev_var rfl)) rv_I0)) (fun hb H1 e1 _ => ?_) fun hb H1 e1 _ => ?_
    · refine x_ret e1 (e_free T R.o (ev_var rfl)) fun H2 e2 _ => ?_
      have q : failI S s.fr x = s.fr := if_pos (of_decide_eq_true hb)
      rw [← q]
      exact k H2 e2
    · have hx := of_decide_eq_false hb
      refine x_asg e1 (ev_meth (e_its_scene T R.o (ev_var rfl)) R.sc.o (by kernel_rfl) (ea_cons (ev_var rfl) ea_nil) (v_outage_at R.sc x)) fun H2 e2 _ => ?_
      unfold outV
      unfold failI at k
      rw [if_neg hx] at k
      cases q : outL S x with
      | nil =>
        rw [q] at k
        exact x_ret e2 (ev_ifT (et_test (ev_is (ev_isN (ev_var rfl)) rfl)) (ev_var rfl)) fun H3 e3 _ => k H3 e3
      | cons i r =>
        have hm := mem_outL.mp (show i ∈ outL S x by rw [q]; exact List.mem_cons_self)
        rw [q] at k
        have hw := R.sc.wn.get (i := i) (by rw [R.sc.wn.len]; exact hm.1)
        exact x_ret e2 (ev_ifF (et_test (ev_is (ev_isN (ev_var rfl)) rfl)) (ev_ixU (esu_of (ev_ixS (es_new (el_meth (e_its_scene T R.o (ev_var rfl)) R.sc.o (by kernel_rfl) ea_nil (l_scene R.sc ⟨rfl, rfl⟩ rfl))) (ev_var rfl) (atI_nat hw.2)) hw.1) ev_c rfl)) fun H3 e3 _ => k H3 e3
def sp_Run_latest_moment (K : PySem.W.Frag) : Sp := SpRun K (fun _ S _ s us z => ∃ x m : Int, us = [.int x] ∧ IsLate S s x m ∧ z = .int m) 1
theorem ok_Run_latest_moment (T : Txt K mg) : ∃ fd, CalM P w K mg base 1 (cRun K) "latest_moment" (He.ma K (cRun K) "latest_moment") fd ["self", "slot"] (sp_Run_latest_moment K) := by
  obtain ⟨fd, F⟩ := T.f_Run_latest_moment
  refine ⟨fd, T.m_Run_latest_moment, F.ok sc_Run_latest_moment (fun vs H Q E h => ?_) (fun cdv A outer s H vs Q E hr h => ?_), F.bindsN fun _ _ _ _ _ _ us hl => match us, hl with | [_, _], _ => rfl⟩
  · exact h.len
  · obtain ⟨z, ⟨a, S, ms, s, us, rfl, _, R, x, m, rfl, hm, rfl⟩, k⟩ := h
    refine ⟨_, PSs.nox (pss_one (ps_ret (pe_callB (cr_max rfl) (by rfl) T.b_max (by decide +kernel) (pa_cons (pe_lc (own := [("moment", 2)]) rfl sc_Run_latest_moment.nd (pi_list (pe_op op_cat (pe_fld (pv 0) rfl) (pe_lst (pa_cons (pe_fld (pv 0) rfl) pa_nil)))) (blkOk_by (own := [("moment", 2)]) (N := ["self", "slot", "moment"]) (sc := defScope s_Run_latest_moment) (by decide +kernel)) (fun _ _ _ _ _ => (pg_name (i := 2) sc_Run_latest_moment.nd rfl (by first | exact Or.inl rfl | exact Or.inr rfl))) (fun _ _ _ _ _ => (pts_one (pt_cmpR op_le (pv 2) (pv 1) (nomark _)))) (fun _ _ _ _ _ => (pv 2))) pa_nil)))), ?_⟩
    have hml := R.ml
    have hmem : ∀ y, y ∈ ms ++ [s.fr] ↔ S.IsMo y ∨ y = s.fr := fun y => by rw [List.mem_append, R.mo, List.mem_singleton]
    refine x_ret (Ex.refl H) (ev_max (ns := (ms ++ [s.fr]).filter fun y => decide (y ≤ x)) (M := m) (es_new (el_map (0 : Int) (es_new (el_cat (es_of (e_changes T R.o (ev_var rfl)) R.ch) (es_new (el_lst (ea_cons (e_free T R.o (ev_var rfl)) ea_nil) (show 1 ≤ 100000 by decide))) ?_)) ?_ (fun y => decide (y ≤ x)) V.int (fun _ => rfl)
      (fun y _ => et_test (ev_op (ev_var rfl) (ev_var rfl) rv_I0)) (fun y _ _ => ev_var rfl) ?_)) ?_ ?_) fun H1 e _ => k H1 e
    · rw [List.length_map]
      show ms.length + 1 ≤ 100000
      omega
    · rw [List.map_append]
      rfl
    · rw [List.length_append]
      show ms.length + 1 ≤ 40000
      omega
    · exact List.mem_filter.mpr ⟨(hmem m).mpr hm.mo, decide_eq_true hm.le⟩
    · intro y hy
      obtain ⟨h1, h2⟩ := List.mem_filter.mp hy
      exact hm.top y ((hmem y).mp h1) (of_decide_eq_true h2)
theorem v_latest (R : RunA K G a S ms s) {x m : Int} (h : IsLate S s x m) : SpV (sp_Run_latest_moment K) [.ref a.p, .int x] G (.int m) := v_run R ⟨x, m, rfl, h, rfl⟩ rfl
def sp_Run_is_repeated (K : PySem.W.Frag) : Sp := SpRun K (fun _ S _ s us z => ∃ x m : Int, us = [.int x] ∧ IsLate S s x m ∧ z = .bl (decide (S.p < x - m))) 1
theorem ok_Run_is_repeated (T : Txt K mg) : ∃ fd, CalM P w K mg base 2 (cRun K) "is_repeated" (He.ma K (cRun K) "is_repeated") fd ["self", "slot"] (sp_Run_is_repeated K) := by
  obtain ⟨fd_Rule_period, c_Rule_period⟩ := ok_Rule_period (P := P) (w := w) (base := base) T
  obtain ⟨fd_Run_latest_moment, c_Run_latest_moment⟩ := ok_Run_latest_moment (P := P) (w := w) (base := base) T
  obtain ⟨fd, F⟩ := T.f_Run_is_repeated
  refine ⟨fd, T.m_Run_is_repeated, F.ok sc_Run_is_repeated (fun vs H Q E h => ?_) (fun cdv A outer s H vs Q E hr h => ?_), F.bindsN fun _ _ _ _ _ _ us hl => match us, hl with | [_, _], _ => rfl⟩
  · exact h.len
  · obtain ⟨z, ⟨a, S, ms, s, us, rfl, _, R, x, m, rfl, hm, rfl⟩, k⟩ := h
    refine ⟨_, PSs.nox (pss_cons (ps_set (i := 2) sc_Run_is_repeated.nd rfl (by first | exact Or.inl rfl | exact Or.inr rfl) (pe_meth0 (pe_fld (pv 0) rfl) T.c_Rule c_Rule_period.at_ c_Rule_period.ok (hr.mono (by decide)) c_Rule_period.b .nil pass0))
      (pss_one (ps_ret (pe_and (pe_cmpR op_notN (pv 2) pe_non (nomark _)) (pe_one (pe_cmpR op_gt (pe_op op_sub (pv 1) (pe_meth (pv 0) T.c_Run c_Run_latest_moment.at_ c_Run_latest_moment.ok (hr.mono (by decide)) c_Run_latest_moment.b .nil pass0 (pa_cons (pv 1) pa_nil))) (pv 2) (nomark _))))))), ?_⟩
    refine x_asg (Ex.refl H) (ev_meth (e_pattern T R.o (ev_var rfl)) R.sc.ru.o (by kernel_rfl) ea_nil (v_rule R.sc.ru ⟨rfl, rfl⟩ rfl)) fun H1 e1 _ => ?_
    exact x_ret e1 (ev_andV (a := true) (ev_is (ev_notN (ev_var rfl)) rfl) fun _ => ev_op (ev_op (ev_var rfl) (ev_meth (ev_var rfl) R.o (by kernel_rfl) (ea_cons (ev_var rfl) ea_nil) (v_latest R hm)) rv_I0) (ev_var rfl) rv_I0) fun H2 e2 _ => k H2 e2
theorem take_mem {α : Type} {l : List α} {i : Nat} {c d : α} (h : l[i]? = some c) : d ∈ l.take (i + 1) ↔ d ∈ l.take i ∨ d = c := by
  obtain ⟨h1, h2⟩ := List.getElem?_eq_some_iff.mp h
  rw [List.take_succ_eq_append_getElem h1, List.mem_append, List.mem_singleton, h2]
theorem mutA_w {a : UA} : a.dw ∈ mutA a := by simp [mutA]
theorem mutA_c {a : UA} : a.dc ∈ mutA a := by simp [mutA]
theorem mutA_s {a : UA} : a.ds ∈ mutA a := by simp [mutA]
theorem mutA_p {a : UA} : a.p ∈ mutA a := by simp [mutA]
theorem kV_kI (c : Nat) : kV (kI c) = .int (c : Int) := rfl
def sp_Run_skip_to (K : PySem.W.Frag) : Sp := SpMut K (fun S ms s us _ => ∃ e : Int, us = [.int e] ∧ (∀ c ∈ s.wk, c < S.N) ∧ s.wt.length ≤ 1000) (fun S s us s' => ∃ e : Int, us = [.int e] ∧ s' = skip S s e) 1
theorem ok_Run_skip_to (T : Txt K mg) : ∃ fd, CalM P w K mg base 4 (cRun K) "skip_to" (He.ma K (cRun K) "skip_to") fd ["self", "slot"] (sp_Run_skip_to K) := by
  obtain ⟨fd_Rule_first_from, c_Rule_first_from⟩ := ok_Rule_first_from (P := P) (w := w) (base := base) T
  obtain ⟨fd, F⟩ := T.f_Run_skip_to
  refine ⟨fd, T.m_Run_skip_to, F.ok sc_Run_skip_to (fun vs H Q E h => ?_) (fun cdv A outer s H vs Q E hr h => ?_), F.bindsN fun _ _ _ _ _ _ us hl => match us, hl with | [_, _], _ => rfl⟩
  · exact h.len
  · obtain ⟨a, S, ms, s, us, rfl, _, R, ⟨e, rfl, hlt, hsz⟩, k⟩ := h
    refine ⟨_, PSs.nox (pss_one (ps_for PassesOwn.never rfl (pi_list (pe_callTy (call_list_dK rfl) (by rfl) T.b_list (by decide +kernel) (pa_cons (pe_fld (pv 0) rfl) pa_nil))) (pg_name (i := 2) sc_Run_skip_to.nd rfl (by first | exact Or.inl rfl | exact Or.inr rfl)) (pss_cons (ps_set (i := 3) sc_Run_skip_to.nd rfl (by first | exact Or.inl rfl | exact Or.inr rfl) (pe_meth (pe_fld (pv 0) rfl) T.c_Rule c_Rule_first_from.at_ c_Rule_first_from.ok (hr.mono (by decide)) c_Rule_first_from.b .nil pass0 (pa_cons (pe_op op_sub (pv 1) (pe_ix ix_list (pe_fld (pv 0) rfl) (pv 2) (fun _ _ => rfl))) pa_nil)))
      (pss_one (ps_if (pt_cmpR op_isN (pv 3) pe_non (nomark _)) (pss_one (ps_expr (pe_dpop1 (pe_fld (pv 0) rfl) (pv 2) ⟨rfl, rfl, rfl, rfl⟩))) (pss_one (ps_dput (hu_of hr) (pe_fld (pv 0) rfl) (pv 2) (pv 3) rfl))))))), ?_⟩
    have hkeys : (wtK s.wt).map (fun kv => kV kv.1) = s.wk.map fun c : Nat => V.int (c : Int) := by
      unfold wtK RSt.wk
      rw [List.map_map, List.map_map]
      rfl
    refine s_forNL (xs := s.wk.map fun c : Nat => V.int (c : Int)) (el_is (el_listD (e_waiting T R.o (ev_var rfl)) R.wt) hkeys)
      (fun p i σ' H' => (∃ u v : Option V, σ' = [some (.ref a.p), some (.int e), u, v]) ∧ RunA K H' a S ms { s with wt := s.wt.map fun q => if q.1 ∈ s.wk.take i then (q.1, first S.gs S.n (e - S.s0 q.1)) else q } ∧ ExB (mutA a) H H' ∧ H' p = some (.lst (s.wk.map fun c : Nat => V.int (c : Int)))) ?_ (fun p i σ' H' _ q => sq_of q.2.2.2) ?_ ?_
    · intro p H1 hp e1 h1
      refine ⟨⟨none, none, rfl⟩, ?_, ExB.of e1, h1⟩
      have : (s.wt.map fun q : Nat × Nat => if q.1 ∈ s.wk.take 0 then (q.1, first S.gs S.n (e - S.s0 q.1)) else q) = s.wt := by
        refine (List.map_congr_left fun q _ => ?_).trans (List.map_id _)
        rw [if_neg (by simp)]
        rfl
      rw [this]
      exact R.mono e1
    · rintro p i x σ' H' hx ⟨⟨u, v, rfl⟩, R', b', hp'⟩
      rw [List.getElem?_map] at hx
      obtain ⟨c, hc, e0⟩ := Option.map_eq_some_iff.mp hx
      subst e0
      have hcw : c ∈ s.wk := List.mem_of_getElem? hc
      have hcN := hlt c hcw
      refine x_asg (Ex.refl H') (ev_meth (e_pattern T R'.o (ev_var rfl)) R'.sc.ru.o (by kernel_rfl) (ea_cons (ev_op (ev_var rfl) (e_begin T R'.o R'.b (ev_var rfl) hcN (ev_var rfl)) rv_I0) ea_nil) (v_first_from R'.sc.ru _)) fun H2 e2 _ => ?_
      refine x_else e2 (et_test (ev_is (ev_isN (ev_var rfl)) rfl)) fun H3 e3 _ => ?_
      have R3 := R'.mono e3
      refine s_dput (v := .int (first S.gs S.n (e - S.s0 c) : Nat)) (k := kI c) (ev_var rfl) (e_waiting T R3.o (ev_var rfl)) (ev_var rfl) R3.wt ?_ fun H4 e4 => ⟨⟨_, _, rfl⟩, ?_, ?_, ?_⟩
      · rw [wtK_len, List.length_map]
        omega
      · rw [wtK_put]
        · have q := R3.putW e4 ((s.wt.map fun q => if q.1 ∈ s.wk.take i then (q.1, first S.gs S.n (e - S.s0 q.1)) else q).map fun q => if q.1 = c then (q.1, first S.gs S.n (e - S.s0 c)) else q)
          have hm : ((s.wt.map fun q => if q.1 ∈ s.wk.take i then (q.1, first S.gs S.n (e - S.s0 q.1)) else q).map fun q => if q.1 = c then (q.1, first S.gs S.n (e - S.s0 c)) else q) = s.wt.map fun q => if q.1 ∈ s.wk.take (i + 1) then (q.1, first S.gs S.n (e - S.s0 q.1)) else q := by
            rw [List.map_map]
            refine List.map_congr_left fun q _ => ?_
            show (if (if q.1 ∈ s.wk.take i then (q.1, first S.gs S.n (e - S.s0 q.1)) else q).1 = c then ((if q.1 ∈ s.wk.take i then (q.1, first S.gs S.n (e - S.s0 q.1)) else q).1, first S.gs S.n (e - S.s0 c)) else (if q.1 ∈ s.wk.take i then (q.1, first S.gs S.n (e - S.s0 q.1)) else q)) = _
            have e1 : (if q.1 ∈ s.wk.take i then (q.1, first S.gs S.n (e - S.s0 q.1)) else q).1 = q.1 := by split <;> rfl
            rw [e1]
            by_cases z : q.1 = c
            · rw [if_pos z, if_pos ((take_mem hc).mpr (.inr z)), z]
            · rw [if_neg z]
              by_cases y : q.1 ∈ s.wk.take i
              · rw [if_pos y, if_pos ((take_mem hc).mpr (.inl y))]
              · rw [if_neg y, if_neg fun t => ((take_mem hc).mp t).elim y z]
          rw [hm] at q ⊢
          exact q
        · rw [List.map_map]
          have e1 : (s.wt.map ((·.1) ∘ fun q => if q.1 ∈ s.wk.take i then (q.1, first S.gs S.n (e - S.s0 q.1)) else q)) = s.wk := List.map_congr_left fun q _ => by
            show (if q.1 ∈ s.wk.take i then (q.1, first S.gs S.n (e - S.s0 q.1)) else q).1 = q.1
            split <;> rfl
          rw [e1]
          exact hcw
      · exact b'.trans ((ExB.of (e3.trans e4)).trans (ExB.upd mutA_w))
      · rw [upd_ne (ne_of (e3 _ _ hp') R3.wt (by intro z; cases z))]
        exact e4 _ _ (e3 _ _ hp')
    · rintro p σ' H' ⟨_, R', b', _⟩
      rw [List.length_map, List.take_length] at R'
      refine k _ H' ⟨e, rfl, rfl⟩ ?_ b'
      have : (s.wt.map fun q => if q.1 ∈ s.wk then (q.1, first S.gs S.n (e - S.s0 q.1)) else q) = s.wt.map fun q => (q.1, first S.gs S.n (e - S.s0 q.1)) := List.map_congr_left fun q hq => if_pos (List.mem_map.mpr ⟨q, hq, rfl⟩)
      rw [this] at R'
      exact R'
end
end RS
end

section
set_option Elab.async false
set_option linter.all false
set_option maxRecDepth 100000
set_option maxHeartbeats 4000000
namespace RS
open PySem PySem.Spec PyProof.Rows L2 Evl
section
variable {K : PySem.W.Frag} {σ : L2.St} {G H H' : Hp} {ta tb te tk tv td tl : TE} {t : TT} {vs : List Nat} {D : Ends} {tz : TS}
theorem x_asgP {i : Nat} {P : List V → Prop} (h : EvP te σ H P) (k : ∀ p H1 xs, P xs → H p = none → Ex H H1 → H1 p = some (.lst xs) → tz D (σ.set i (some (.ref p))) H1) : tSeq (tAsg te (gName i)) tz D σ H := h H (Ex.refl H) _ fun p H1 xs hx hp e1 h1 => k p H1 xs hx hp e1 h1
theorem x_pop {d : Addr} {kvs : List (Key × V)} {k : Key} {v : V} (hd : Ev td σ H (.ref d)) (hk : Ev tk σ H (kV k)) (h : H d = some (.dK kvs)) (hv : valV kvs k = some v) (q : ∀ H1, Ex H H1 → tz D σ (upd H1 d (.dK (dropK kvs k)))) : tSeq (tDrop (tDPop1 td tk)) tz D σ H :=
  hd H (Ex.refl H) _ fun H1 e1 => ⟨d, rfl, .inl ⟨kvs, .inl (e1 _ _ h)⟩, hk H1 e1 _ fun H2 e2 => ⟨kvs, k, v, (e2 _ _ (e1 _ _ h)), rfl, hv, q H2 (e1.trans e2)⟩⟩
/-- d[k] = (a, b, ..) -/
theorem s_dputU {d : Addr} {kvs : List (Key × V)} {k : Key} {xs : List V} (hv : EvU tv σ H xs) (hd : Ev td σ H (.ref d)) (hk : Ev tk σ H (kV k)) (h : H d = some (.dK kvs)) (hz : kvs.length < 100000) (q : ∀ p H1, H p = none → Ex H H1 → H1 p = some (.tup xs) → D.nx σ (upd H1 d (.dK (putK kvs k (.ref p))))) : sDPut td tk tv D σ H :=
  hv H (Ex.refl H) _ fun p H1 hp e1 h1 => hd H1 e1 _ fun H2 e2 => hk H2 (e1.trans e2) _ fun H3 e3 => ⟨d, _, rfl, DPut.k (((e1.trans e2).trans e3) _ _ h) (sz_lt hz), q p H3 hp ((e1.trans e2).trans e3) (e3 _ _ (e2 _ _ h1))⟩
theorem NK.updO {d : Addr} {kvs : List (Key × V)} {o : HO} (e : Ex G H) (h : G d = some (.dK kvs)) : NK G (upd H d o) := fun b u hb hn => by
  rw [upd_ne (fun z => by rw [z, h] at hb; cases hb; cases hn)]
  exact e b u hb
/-- what is read while a dict of the run is walked -/
structure Walked (K : PySem.W.Frag) (G : Hp) (a : UA) (S : Sc) (fr : Int) : Prop where
  o : RunO K G a fr
  b : G a.b = some (.lst (S.st.map V.int))
  sc : SceneA K G a.sa S
theorem RunA.walk {a : UA} {S : Sc} {ms : List Int} {s : RSt} (R : RunA K H a S ms s) {d : Addr} {kvs : List (Key × V)} (hd : H d = some (.dK kvs)) (o : HO) : Walked K (upd H d o) a S s.fr := by
  have k := NK.updO (o := o) (Ex.refl H) hd
  refine ⟨?_, k _ _ R.b rfl, R.sc.nk k⟩
  show upd _ _ _ _ = _
  rw [upd_ne (ne_of R.o hd (by intro z; cases z))]
  exact R.o
theorem keys_at {α : Type} {kvs : List (Key × V)} {l : List α} {f : α → Nat} (hk : kvs.map (·.1) = l.map fun x => kI (f x)) {i : Nat} (hi : i < l.length) (d : α) : ∃ v, kvs[i]? = some (kI (f (l.getD i d)), v) := by
  have h1 : (kvs.map (·.1))[i]? = some (kI (f (l.getD i d))) := by
    rw [hk, List.getElem?_map, List.getD_eq_getElem?_getD, List.getElem?_eq_getElem hi]
    rfl
  rw [List.getElem?_map] at h1
  obtain ⟨q, h2, h3⟩ := Option.map_eq_some_iff.mp h1
  exact ⟨q.2, by rw [h2, ← h3]⟩
theorem getD_mem {α : Type} {l : List α} {i : Nat} {d : α} (hi : i < l.length) : l.getD i d ∈ l := by
  rw [List.getD_eq_getElem?_getD, List.getElem?_eq_getElem hi]
  exact List.getElem_mem hi
/-- [e for c in d if t], d walked -/
theorem el_keys {p : Addr} {od : Obj} {kvs : List (Key × V)} {l : List Nat} {j : Nat} (h : Ev td σ G (.ref p)) (hd : G p = some (.frz od (.dK kvs))) (hk : kvs.map (·.1) = l.map kI) (F : Nat → Bool) (W : Nat → V) (hw : ∀ x, wipe ((wipe σ vs).set j (some x)) vs = wipe σ vs)
    (ht : ∀ c ∈ l, EvT t ((wipe σ vs).set j (some (.int (c : Int)))) G (F c)) (he : ∀ c ∈ l, F c = true → Ev te ((wipe σ vs).set j (some (.int (c : Int)))) G (W c)) (hz : l.length ≤ 40000) : EvL (tLc (iKeys td) (gName j) t te vs) σ G ((l.filter F).map W) := by
  have hl : kvs.length = l.length := by
    have := congrArg List.length hk
    rw [List.length_map, List.length_map] at this
    exact this
  have k := el_comp (g := gName j) (t := t) (te := te) (ei_keys h hd) (fun i => (wipe σ vs).set j (some (.int ((l.getD i 0 : Nat) : Int)))) (fun i hi => by
    obtain ⟨v, hv⟩ := keys_at (f := fun x => x) hk (by rw [← hl]; exact hi) 0
    exact tg_key (k := kI (l.getD i 0)) hv) (fun i _ => hw _) (fun i => F (l.getD i 0)) (fun i => W (l.getD i 0)) (fun i hi => ht _ (getD_mem (by rw [← hl]; exact hi))) (fun i hi => he _ (getD_mem (by rw [← hl]; exact hi))) (by rw [hl]; exact hz)
  rw [hl, given_list] at k
  exact k
/-- a method that changes things: the statement -/
theorem x_mut {a C dx : Addr} {fs : List (Str × V)} {m : Str} {sp : Sp} {us : List V} {E : XK} {tt : TA} (e : Ex G H) (h : Ev ta σ G (.ref a)) (ho : G a = some (.ins C dx fs)) (hl : fs.lookup m = none) (ha : EvA tt σ G us) (hs : ∀ H1, Ex G H1 → Ex H H1 → sp (.ref a :: us) H1 (fun _ H2 => tz D σ H2) E) : tSeq (tDrop (tMeth C m sp [] E ta tt)) tz D σ H :=
  h H e _ fun H1 e1 => ⟨a, dx, fs, rfl, e1 _ _ (e _ _ ho), hl, ha H1 (e.trans e1) _ fun H2 e2 => by
    rw [List.append_nil]
    exact hs H2 ((e.trans e1).trans e2) (e1.trans e2)⟩
theorem s_mut {a C dx : Addr} {fs : List (Str × V)} {m : Str} {sp : Sp} {us : List V} {E : XK} {tt : TA} (e : Ex G H) (h : Ev ta σ G (.ref a)) (ho : G a = some (.ins C dx fs)) (hl : fs.lookup m = none) (ha : EvA tt σ G us) (hs : ∀ H1, Ex G H1 → Ex H H1 → sp (.ref a :: us) H1 (fun _ H2 => D.nx σ H2) E) : tDrop (tMeth C m sp [] E ta tt) D σ H :=
  h H e _ fun H1 e1 => ⟨a, dx, fs, rfl, e1 _ _ (e _ _ ho), hl, ha H1 (e.trans e1) _ fun H2 e2 => by
    rw [List.append_nil]
    exact hs H2 ((e.trans e1).trans e2) (e1.trans e2)⟩
end
section
variable {P : Program} {w : World} {K : PySem.W.Frag} {mg : Str → Option Value} {base : Heap} {G : Hp} {a : UA} {S : Sc} {ms : List Int} {s : RSt} {σ : L2.St} {ta td : TE}
theorem wtK_keys (wt : List (Nat × Nat)) : (wtK wt).map (·.1) = (wt.map (·.1)).map kI := by
  unfold wtK
  rw [List.map_map, List.map_map]
  rfl
theorem lsV_last (X : SceneA K G a.sa S) (c : Nat) : atI (lsV S c) (-1) = some (.int (S.last c)) := by
  have e : S.slot c S.u = S.last c := by
    unfold Sc.slot Sc.last
    rw [off_low X.ru.ok (by unfold Sc.u uu; omega)]
  refine atI_neg ?_ ?_
  · unfold lsV
    rw [List.length_map, List.length_range]
    omega
  · unfold lsV
    rw [List.length_map, List.length_range, List.getElem?_map, List.getElem?_range (by omega)]
    show some (V.int (S.slot c (S.u + 1 - 1))) = _
    rw [Nat.add_sub_cancel, e]
theorem fresh_len {b : Int} : (fresh S s b).length ≤ s.wt.length := by
  unfold fresh RSt.wk
  have := List.length_filter_le (fun c => decide (S.last c ≤ b)) (s.wt.map (·.1))
  rw [List.length_map] at this
  exact this
theorem fresh_nodup {b : Int} (h : s.wk.Nodup) : (fresh S s b).Nodup := List.Pairwise.filter _ h
theorem filter_fresh {b : Int} : (s.wt.filter fun q => !decide (q.1 ∈ fresh S s b)) = s.wt.filter fun q => !decide (S.last q.1 ≤ b) := by
  refine List.filter_congr fun q hq => ?_
  by_cases h : S.last q.1 ≤ b
  · rw [decide_eq_true h, decide_eq_true (mem_fresh.mpr ⟨List.mem_map.mpr ⟨q, hq, rfl⟩, h⟩)]
  · rw [decide_eq_false h, decide_eq_false fun z => h (mem_fresh.mp z).2]
theorem notin_take {l : List Nat} {i c : Nat} (hn : l.Nodup) (h : l[i]? = some c) : c ∉ l.take i := by
  intro hm
  obtain ⟨j, hj, e⟩ := List.mem_iff_getElem.mp hm
  rw [List.length_take] at hj
  obtain ⟨h1, h2⟩ := List.getElem?_eq_some_iff.mp h
  rw [List.getElem_take] at e
  exact List.pairwise_iff_getElem.mp hn j i (by omega) h1 (by omega) (e.trans h2.symm)
def sp_Run_close (K : PySem.W.Frag) : Sp := SpMut K (fun S ms s us _ => ∃ x b : Int, us = [.int x] ∧ IsLate S s x b ∧ s.wk.Nodup ∧ (∀ c ∈ s.wk, c < S.N) ∧ (∀ c ∈ s.cl, c < S.N) ∧ (∀ c ∈ s.wk, c ∉ s.cl) ∧ s.cl.length + s.wt.length ≤ S.N)
  (fun S s us s' => ∃ x b : Int, us = [.int x] ∧ IsLate S s x b ∧ s' = closeS S s b (s.cl ++ fresh S s b)) 1
theorem ok_Run_close (T : Txt K mg) : ∃ fd, CalM P w K mg base 4 (cRun K) "close" (He.ma K (cRun K) "close") fd ["self", "slot"] (sp_Run_close K) := by
  obtain ⟨fd_Run_latest_moment, c_Run_latest_moment⟩ := ok_Run_latest_moment (P := P) (w := w) (base := base) T
  obtain ⟨fd_Scene_listed_slots, c_Scene_listed_slots⟩ := ok_Scene_listed_slots (P := P) (w := w) (base := base) T
  obtain ⟨fd, F⟩ := T.f_Run_close
  refine ⟨fd, T.m_Run_close, F.ok sc_Run_close (fun vs H Q E h => ?_) (fun cdv A outer s H vs Q E hr h => ?_), F.bindsN fun _ _ _ _ _ _ us hl => match us, hl with | [_, _], _ => rfl⟩
  · exact h.len
  · obtain ⟨a, S, ms, s, us, rfl, _, R, ⟨x, b, rfl, hb, hnd, hwN, hcN, hwc, hsz⟩, k⟩ := h
    refine ⟨_, PSs.nox (pss_cons (ps_set (i := 2) sc_Run_close.nd rfl (by first | exact Or.inl rfl | exact Or.inr rfl) (pe_meth (pv 0) T.c_Run c_Run_latest_moment.at_ c_Run_latest_moment.ok (hr.mono (by decide)) c_Run_latest_moment.b .nil pass0 (pa_cons (pv 1) pa_nil)))
      (pss_cons (ps_lock (ps_setLc (i := 3) (own := [("client", 4)]) rfl sc_Run_close.nd rfl rfl (sw_true rfl rfl rfl (by decide +kernel)) (pi_keys (pe_fld (pv 0) rfl)) (blkOk_by (own := [("client", 4)]) (N := ["self", "slot", "begin", "fresh", "client", "members"]) (sc := defScope s_Run_close) (by decide +kernel)) (fun _ _ _ _ _ => (pg_name (i := 4) sc_Run_close.nd rfl (by first | exact Or.inl rfl | exact Or.inr rfl))) (fun _ _ _ _ _ => (pts_one (pt_cmpR op_le (pe_ix (ix_listK K) (pe_meth (pe_fldK K (pv 0) rfl) T.c_Scene c_Scene_listed_slots.at_ c_Scene_listed_slots.ok (hr.mono (by decide)) c_Scene_listed_slots.b .nil pass0 (pa_cons (pv 4) pa_nil)) (pe_un un_neg pe_int) (fun _ _ => rfl)) (pv 2) (nomark _)))) (fun _ _ _ _ _ => (pv 4))))
      (pss_cons (ps_set (i := 5) sc_Run_close.nd rfl (by first | exact Or.inl rfl | exact Or.inr rfl) (pe_callB cr_sortedI (by rfl) T.b_sorted (by decide +kernel) (pa_cons (pe_op op_cat (pv 3) (pe_lock (pe_lc (own := [("client", 4)]) rfl sc_Run_close.nd (pi_keys (pe_fld (pv 0) rfl)) (blkOk_by (own := [("client", 4)]) (N := ["self", "slot", "begin", "fresh", "client", "members"]) (sc := defScope s_Run_close) (by decide +kernel)) (fun _ _ _ _ _ => (pg_name (i := 4) sc_Run_close.nd rfl (by first | exact Or.inl rfl | exact Or.inr rfl))) (fun _ _ _ _ _ => (pts_one (pt_cmpR op_le (pe_ix (ix_listK K) (pe_fldK K (pv 0) rfl) (pv 4) (fun _ _ => rfl)) (pv 2) (nomark _)))) (fun _ _ _ _ _ => (pv 4))))) pa_nil)))
      (pss_one (ps_for PassesOwn.never rfl (pi_list (pv 3)) (pg_name (i := 4) sc_Run_close.nd rfl (by first | exact Or.inl rfl | exact Or.inr rfl)) (pss_cons (ps_expr (pe_dpop1 (pe_fld (pv 0) rfl) (pv 4) ⟨rfl, rfl, rfl, rfl⟩))
      (pss_one (ps_dput (hu_of hr) (pe_fld (pv 0) rfl) (pv 4) (pe_tup (pa_cons (pe_op op_add (pv 2) pe_int) (pa_cons (pv 5) pa_nil))) rfl)))))))), ?_⟩
    have h40 := R.sc.n40
    have hfl := fresh_len (S := S) (s := s) (b := b)
    refine x_asg (Ex.refl H) (ev_meth (ev_var rfl) R.o (by kernel_rfl) (ea_cons (ev_var rfl) ea_nil) (v_latest R hb)) fun H1 e1 _ => ?_
    have R1 := R.mono e1
    refine x_lock (xs := (fresh S s b).map fun c : Nat => V.int (c : Int)) (Ex.refl H1) R1.wt (fun od => ?_) fun pf H2 e2 hp2 _ h2 => ?_
    · have Wk := R1.walk R1.wt (.frz od (.dK (wtK s.wt)))
      refine el_keys (l := s.wk) (e_waiting T Wk.o (ev_var rfl)) upd_same (wtK_keys _) (fun c => decide (S.last c ≤ b)) (fun c => V.int (c : Int)) (fun _ => rfl) (fun c hc => ?_) (fun c _ _ => ev_var rfl) ?_
      · exact et_test (ev_op (ev_ixS (es_new (el_meth (e_its_scene T Wk.o (ev_var rfl)) Wk.sc.o (by kernel_rfl) (ea_cons (ev_var rfl) ea_nil) (l_listed_slots Wk.sc (hwN c hc)))) (ev_un ev_c ru_neg) (lsV_last Wk.sc c)) (ev_var rfl) rv_I0)
      · unfold RSt.wk
        rw [List.length_map]
        omega
    have R2 := R1.mono e2
    obtain ⟨kvs, hc0, hck⟩ := R2.cl
    refine x_asgP (P := fun _ => True) (fun H3 e3 Q q => (ep_sorted (G := H2) (ns := ((fresh S s b) ++ s.cl.filter fun c => decide (S.s0 c ≤ b)).map fun c : Nat => (c : Int)) (es_new (el_is (el_cat (es_of (ev_var rfl) h2) (es_new (el_lock hc0 fun od => el_keys (l := s.cl) (F := fun c => decide (S.s0 c ≤ b)) (W := fun c => V.int (c : Int)) (e_closed T (R2.walk hc0 (.frz od (.dK kvs))).o (ev_var rfl)) upd_same hck (fun _ => rfl)
      (fun c hc => et_test (ev_op (e_begin T (R2.walk hc0 (.frz od (.dK kvs))).o (R2.walk hc0 (.frz od (.dK kvs))).b (ev_var rfl) (hcN c hc) (ev_var rfl)) (ev_var rfl) rv_I0)) (fun c _ _ => ev_var rfl) (by omega))) ?_) ?_))) H3 e3 Q fun p H4 xs _ => q p H4 xs trivial) fun pm H3 xs _ hpm e3 hm => ?_
    · rw [List.length_map, List.length_map]
      have := List.length_filter_le (fun c => decide (S.s0 c ≤ b)) s.cl
      omega
    · rw [List.map_map, List.map_append]
      rfl
    have R3 := R2.mono e3
    refine x_forLst (xs := (fresh S s b).map fun c : Nat => V.int (c : Int)) (G := H3) (Ex.refl H3) (ev_var rfl) (fun _ e => sq_of (e _ _ (e3 _ _ h2)))
      (fun i σ' H' => (∃ v : Option V, σ' = [some (.ref a.p), some (.int x), some (.int b), some (.ref pf), v, some (.ref pm)]) ∧ RunA K H' a S ms { s with wt := s.wt.filter fun q => !decide (q.1 ∈ (fresh S s b).take i), cl := s.cl ++ (fresh S s b).take i } ∧ ExB (mutA a) H H' ∧ H' pf = some (.lst ((fresh S s b).map fun c : Nat => V.int (c : Int)))) ?_ (fun i σ' H' _ q => sq_of q.2.2.2) ?_ ?_
    · intro H4 e4 _
      refine ⟨⟨none, rfl⟩, ?_, ExB.of (((e1.trans e2).trans e3).trans e4), e4 _ _ (e3 _ _ h2)⟩
      have : (s.wt.filter fun q : Nat × Nat => !decide (q.1 ∈ (fresh S s b).take 0)) = s.wt := List.filter_eq_self.mpr fun q _ => by simp
      rw [this, List.take_zero, List.append_nil]
      exact R3.mono e4
    · rintro i y σ' H' hx ⟨⟨v, rfl⟩, R', b', hp'⟩
      rw [List.getElem?_map] at hx
      obtain ⟨c, hc, e0⟩ := Option.map_eq_some_iff.mp hx
      subst e0
      have hcf := mem_fresh.mp (List.mem_of_getElem? hc)
      obtain ⟨ix, hix⟩ := mem_wk.mp hcf.1
      have hnt := notin_take (fresh_nodup hnd) hc
      have hin : (c, ix) ∈ s.wt.filter fun q => !decide (q.1 ∈ (fresh S s b).take i) := List.mem_filter.mpr ⟨hix, by rw [decide_eq_false hnt]; rfl⟩
      refine x_pop (k := kI c) (v := .int (ix : Int)) (e_waiting T R'.o (ev_var rfl)) (ev_var rfl) R'.wt (wtK_val (nodup_filter_map hnd) hin) fun H4 e4 => ?_
      have R4 := R'.putW e4 ((s.wt.filter fun q => !decide (q.1 ∈ (fresh S s b).take i)).filter fun q => !decide (q.1 = c))
      rw [← wtK_drop] at R4
      have e5 : ((s.wt.filter fun q => !decide (q.1 ∈ (fresh S s b).take i)).filter fun q => !decide (q.1 = c)) = s.wt.filter fun q => !decide (q.1 ∈ (fresh S s b).take (i + 1)) := by
        rw [List.filter_filter]
        refine List.filter_congr fun q _ => ?_
        have := take_mem (d := q.1) hc
        by_cases h1 : q.1 ∈ (fresh S s b).take i
        · rw [decide_eq_true h1, decide_eq_true (this.mpr (.inl h1))]
          exact Bool.and_false _
        · by_cases h2 : q.1 = c
          · rw [decide_eq_true h2, decide_eq_true (this.mpr (.inr h2))]
            rfl
          · rw [decide_eq_false h1, decide_eq_false h2, decide_eq_false fun z => (this.mp z).elim h1 h2]
            rfl
      rw [e5] at R4
      obtain ⟨kv4, h4c, hk4⟩ := R4.cl
      have hnew : valV kv4 (kI c) = none := valV_notin fun q hq e => by
        have : kI c ∈ (s.cl ++ (fresh S s b).take i).map kI := by
          rw [← hk4]
          exact List.mem_map.mpr ⟨q, hq, e⟩
        obtain ⟨d, hd, e'⟩ := List.mem_map.mp this
        have e'' := kI_inj.mp e'
        subst e''
        rcases List.mem_append.mp hd with z | z
        · exact hwc _ hcf.1 z
        · exact hnt z
      refine s_dputU (k := kI c) (xs := [.int (b + 1), .ref pm]) (eu_tup (ea_cons (ev_op (ev_var rfl) ev_c rv_I0) (ea_cons (ev_var rfl) ea_nil)) (show 2 ≤ 100000 by decide)) (e_closed T R4.o (ev_var rfl)) (ev_var rfl) h4c ?_ fun pt H5 hpt e5 h5 => ?_
      · have := congrArg List.length hk4
        rw [List.length_map, List.length_map, List.length_append, List.length_take] at this
        omega
      · rw [putK_new _ hnew]
        refine ⟨⟨_, rfl⟩, ?_, ?_, ?_⟩
        · have R5 := R4.putC e5 (s.cl ++ (fresh S s b).take (i + 1)) (kvs := kv4 ++ [(kI c, .ref pt)]) ?_
          · exact R5
          · rw [List.map_append, hk4]
            obtain ⟨g1, g2⟩ := List.getElem?_eq_some_iff.mp hc
            rw [List.take_succ_eq_append_getElem g1, g2, ← List.append_assoc, List.map_append (l₁ := s.cl ++ _)]
            rfl
        · exact ((b'.trans (ExB.of e4)).trans (ExB.upd mutA_w)).trans ((ExB.of e5).trans (ExB.upd mutA_c))
        · have n1 : pf ≠ a.dc := ne_of (H := upd H4 a.dw (.dK (dropK (wtK (s.wt.filter fun q => !decide (q.1 ∈ (fresh S s b).take i))) (kI c)))) (o := .lst ((fresh S s b).map fun c : Nat => V.int (c : Int))) (by
            rw [upd_ne (ne_of (e4 _ _ hp') (e4 _ _ R'.wt) (by intro z; cases z))]
            exact e4 _ _ hp') h4c (by intro z; cases z)
          rw [upd_ne n1]
          refine e5 _ _ ?_
          rw [upd_ne (ne_of (e4 _ _ hp') (e4 _ _ R'.wt) (by intro z; cases z))]
          exact e4 _ _ hp'
    · rintro σ' H' ⟨_, R', b', _⟩
      rw [List.length_map, List.take_length] at R'
      refine k _ H' ⟨x, b, rfl, hb, rfl⟩ ?_ b'
      rw [filter_fresh] at R'
      exact R'
end
end RS
end

section
set_option Elab.async false
set_option linter.all false
set_option maxRecDepth 100000
set_option maxHeartbeats 4000000
namespace RS
open PySem PySem.Spec PyProof.Rows L2 Evl
section
variable {K : PySem.W.Frag} {σ : L2.St} {G H H' : Hp} {ta tb te tk tv td tl tx : TE} {t : TT} {vs : List Nat} {D : Ends} {tz tu tw : TS}
theorem x_then (e : Ex G H) (h : EvT t σ G true) (k : ∀ H1, Ex G H1 → Ex H H1 → tu D σ H1) : tIfS t tu tw D σ H := h H e _ fun H1 e1 => by
  show tu D σ H1
  exact k H1 (e.trans e1) e1
/-- d[k] += i -/
theorem x_daug {d : Addr} {kvs : List (Key × V)} {k : Key} {i j : Int} (hd : Ev td σ H (.ref d)) (hk : Ev tk σ H (kV k)) (hv : Ev tv σ H (.int j)) (h : H d = some (.dK kvs)) (hval : valV kvs k = some (.int i)) (hz : kvs.length < 100000) (q : ∀ H1, Ex H H1 → tz D σ (upd H1 d (.dK (putK kvs k (.int (i + j)))))) : tSeq (sDAug td tk tv rAdd) tz D σ H :=
  hd H (Ex.refl H) _ fun H1 e1 => hk H1 e1 _ fun H2 e2 => ⟨d, .int i, rfl, hval ▸ DGet.k ((e1.trans e2) _ _ h), hv H2 (e1.trans e2) _ fun H3 e3 => ⟨i, j, rfl, rfl, _, DPut.k (((e1.trans e2).trans e3) _ _ h) (sz_lt hz), q H3 ((e1.trans e2).trans e3)⟩⟩
/-- s[k] = (d.pop(c), x) -/
theorem x_dputPop {d dw : Addr} {kvs kws : List (Key × V)} {k c : Key} {v x : V} {tc : TE} (hw : Ev tl σ H (.ref dw)) (hc : Ev tc σ H (kV c)) (h : H dw = some (.dK kws)) (hval : valV kws c = some v)
    (hx : ∀ H1, Ex H H1 → Ev tx σ (upd H1 dw (.dK (dropK kws c))) x) (hd : ∀ H1, Ex H H1 → Ev td σ (upd H1 dw (.dK (dropK kws c))) (.ref d)) (hk : ∀ H1, Ex H H1 → Ev tk σ (upd H1 dw (.dK (dropK kws c))) (kV k)) (hs : ∀ H1, Ex H H1 → upd H1 dw (.dK (dropK kws c)) d = some (.dK kvs)) (hz : kvs.length < 100000)
    (q : ∀ p H1 H2, Ex H H1 → Ex (upd H1 dw (.dK (dropK kws c))) H2 → H2 p = some (.tup [v, x]) → tz D σ (upd H2 d (.dK (putK kvs k (.ref p))))) : tSeq (sDPut td tk (tTup (tCons (tDPop1 tl tc) (tCons tx tNil)))) tz D σ H :=
  hw H (Ex.refl H) _ fun H1 e1 => ⟨dw, rfl, .inl ⟨kws, .inl (e1 _ _ h)⟩, hc H1 e1 _ fun H2 e2 => ⟨kws, c, v, (e2 _ _ (e1 _ _ h)), rfl, hval, by
    have e12 := e1.trans e2
    refine hx H2 e12 _ (Ex.refl _) _ fun H3 e3 => ?_
    refine ⟨(show 2 ≤ sizeLine by decide), fun p hp => ?_⟩
    have e4 : Ex (upd H2 dw (.dK (dropK kws c))) (upd H3 p (.tup [v, x])) := e3.trans (Ex.new hp)
    refine hd H2 e12 _ e4 _ fun H5 e5 => hk H2 e12 _ (e4.trans e5) _ fun H6 e6 => ?_
    exact ⟨d, _, rfl, DPut.k (((e4.trans e5).trans e6) _ _ (hs H2 e12)) (sz_lt hz), q p H2 H6 e12 ((e4.trans e5).trans e6) (e6 _ _ (e5 _ _ upd_same))⟩⟩⟩
end
theorem range_getD {α : Type} (l : List α) (d : α) : (List.range l.length).map (fun i => l.getD i d) = l := by
  refine List.ext_getElem (by simp) fun i h1 h2 => ?_
  simp [List.getD_eq_getElem?_getD, List.getElem?_eq_getElem h2]
theorem min_ex : ∀ {l : List Int}, l ≠ [] → ∃ m ∈ l, ∀ y ∈ l, m ≤ y
  | [], h => absurd rfl h
  | [a], _ => ⟨a, List.mem_cons_self, fun y hy => by rw [List.mem_singleton.mp hy]; exact Int.le_refl _⟩
  | a :: b :: r, _ => by
    obtain ⟨m, hm, h⟩ := min_ex (l := b :: r) (by simp)
    by_cases q : a ≤ m
    · refine ⟨a, List.mem_cons_self, fun y hy => ?_⟩
      rcases List.mem_cons.mp hy with e | e
      · rw [e]
        exact Int.le_refl _
      · have := h y e
        omega
    · refine ⟨m, List.mem_cons_of_mem _ hm, fun y hy => ?_⟩
      rcases List.mem_cons.mp hy with e | e
      · omega
      · exact h y e
section
variable {P : Program} {w : World} {K : PySem.W.Frag} {mg : Str → Option Value} {base : Heap} {G : Hp} {a : UA} {S : Sc} {ms : List Int} {s : RSt} {σ : L2.St} {ta td : TE}
theorem bump_put {l : List Nat} {i c old : Nat} (hn : s.wk.Nodup) (hc : l[i]? = some c) (ho : (c, old) ∈ s.wt) : ((bump s (l.take i)).wt.map fun q => if q.1 = c then (q.1, old + 1) else q) = (bump s (l.take (i + 1))).wt := by
  unfold bump
  rw [List.map_map]
  refine List.map_congr_left fun q hq => ?_
  show (if (if q.1 ∈ l.take i then (q.1, q.2 + 1) else q).1 = c then ((if q.1 ∈ l.take i then (q.1, q.2 + 1) else q).1, old + 1) else (if q.1 ∈ l.take i then (q.1, q.2 + 1) else q)) = _
  have e1 : (if q.1 ∈ l.take i then (q.1, q.2 + 1) else q).1 = q.1 := by split <;> rfl
  rw [e1]
  by_cases z : q.1 = c
  · rw [if_pos z, if_pos ((take_mem hc).mpr (.inr z))]
    have : q.2 = old := nd_val hn (by rw [← z]; exact hq) ho
    rw [this]
  · rw [if_neg z]
    by_cases y : q.1 ∈ l.take i
    · rw [if_pos y, if_pos ((take_mem hc).mpr (.inl y))]
    · rw [if_neg y, if_neg fun t => ((take_mem hc).mp t).elim y z]
theorem bump_old {l : List Nat} {i c old : Nat} (hl : l.Nodup) (hc : l[i]? = some c) (ho : (c, old) ∈ s.wt) : (c, old) ∈ (bump s (l.take i)).wt := bump_mem.mpr (.inr ⟨notin_take hl hc, ho⟩)
theorem bump_nil : bump s [] = s := by
  unfold bump
  have : (s.wt.map fun q : Nat × Nat => if q.1 ∈ ([] : List Nat) then (q.1, q.2 + 1) else q) = s.wt := (List.map_congr_left fun q _ => if_neg (by simp)).trans (List.map_id _)
  rw [this]
theorem bump_len (l : List Nat) : (bump s l).wt.length = s.wt.length := List.length_map _
theorem nowW_nd {x : Int} (h : s.wk.Nodup) : (nowW S s x).Nodup := nodup_filter_map h
def sp_Run_decide (K : PySem.W.Frag) : Sp := SpMut K (fun S ms s us H => ∃ (x : Int) (q : Addr), us = [.int x, .ref q] ∧ H q = some (.lst ((nowW S s x).map fun c : Nat => V.int (c : Int))) ∧ nowW S s x ≠ [] ∧ s.wk.Nodup ∧ (∀ c ∈ s.wk, c < S.N) ∧ (∀ c ∈ s.cl, c < S.N) ∧ s.cl.length + s.wt.length ≤ S.N ∧ s.sv.length ≤ 1000 ∧ (∀ c ∈ s.wk, c ∉ s.sk) ∧ (∀ c ∈ s.wk, c ∉ s.cl))
  (fun S s us s' => ∃ (x : Int) (q : Addr), us = [.int x, .ref q] ∧ ((∃ c i, (c, i) ∈ s.wt ∧ S.slot c i = x ∧ s' = serve S s c i x) ∨ ((∀ c ∈ nowW S s x, ∃ d, d ≠ c ∧ (d ∈ nowW S s x ∨ (d ∈ s.cl ∧ S.hits d x))) ∧ s' = bump s (nowW S s x)))) 2
theorem ok_Run_decide (T : Txt K mg) : ∃ fd, CalM P w K mg base 5 (cRun K) "decide" (He.ma K (cRun K) "decide") fd ["self", "slot", "clients"] (sp_Run_decide K) := by
  obtain ⟨fd_Rule_attempt_at, c_Rule_attempt_at⟩ := ok_Rule_attempt_at (P := P) (w := w) (base := base) T
  obtain ⟨fd_Rule_attempts, c_Rule_attempts⟩ := ok_Rule_attempts (P := P) (w := w) (base := base) T
  obtain ⟨fd_Scene_length, c_Scene_length⟩ := ok_Scene_length (P := P) (w := w) (base := base) T
  obtain ⟨fd, F⟩ := T.f_Run_decide
  refine ⟨fd, T.m_Run_decide, F.ok sc_Run_decide (fun vs H Q E h => ?_) (fun cdv A outer s H vs Q E hr h => ?_), F.bindsN fun _ _ _ _ _ _ us hl => match us, hl with | [_, _, _], _ => rfl⟩
  · exact h.len
  · obtain ⟨a, S, ms, s, us, rfl, _, R, ⟨x, q, rfl, hq, hne, hnd, hwN, hcN, hsz, hsv, hws, hwc⟩, k⟩ := h
    refine ⟨_, PSs.nox (pss_cons (ps_lock (ps_setLc (i := 3) (own := [("client", 4)]) rfl sc_Run_decide.nd rfl rfl (sw_true rfl rfl rfl (by decide +kernel)) (pi_keys (pe_fld (pv 0) rfl)) (blkOk_by (own := [("client", 4)]) (N := ["self", "slot", "clients", "others", "client"]) (sc := defScope s_Run_decide) (by decide +kernel)) (fun _ _ _ _ _ => (pg_name (i := 4) sc_Run_decide.nd rfl (by first | exact Or.inl rfl | exact Or.inr rfl))) (fun _ _ _ _ _ => (pts_one (pt_cmpR op_notN (pe_meth (pe_fldK K (pv 0) rfl) T.c_Rule c_Rule_attempt_at.at_ c_Rule_attempt_at.ok (hr.mono (by decide)) c_Rule_attempt_at.b .nil pass0 (pa_cons (pe_op op_sub (pv 1) (pe_ix (ix_listK K) (pe_fldK K (pv 0) rfl) (pv 4) (fun _ _ => rfl))) pa_nil)) pe_non (nomark _)))) (fun _ _ _ _ _ => (pv 4))))
      (pss_cons (ps_if (pt_cmpR op_eq (pe_callB call_len_seq (by rfl) T.b_len (by decide +kernel) (pa_cons (pe_op op_cat (pv 2) (pv 3)) pa_nil)) pe_int (nomark _)) (pss_cons (ps_dput (hu_of hr) (pe_fld (pv 0) rfl) (pe_ix ix_list (pv 2) pe_int (fun _ _ => rfl)) (pe_tup (pa_cons (pe_dpop1 (pe_fld (pv 0) rfl) (pe_ix ix_list (pv 2) pe_int (fun _ _ => rfl)) ⟨rfl, rfl, rfl, rfl⟩) (pa_cons (pv 1) pa_nil))) rfl)
      (pss_cons (ps_fld (pv 0) (pe_op op_add (pv 1) (pe_meth0 (pe_fld (pv 0) rfl) T.c_Scene c_Scene_length.at_ c_Scene_length.ok (hr.mono (by decide)) c_Scene_length.b .nil pass0)) rfl)
      (pss_one ps_retN))) pss_nil)
      (pss_one (ps_for PassesOwn.never rfl (pi_list (pv 2)) (pg_name (i := 4) sc_Run_decide.nd rfl (by first | exact Or.inl rfl | exact Or.inr rfl)) (pss_cons (ps_daug (hu_of hr) (pe_fld (pv 0) rfl) (pv 4) pe_int in_add (fun _ _ _ => rfl))
      (pss_one (ps_if (pt_cmpR op_eq (pe_dget (hu_of hr) (pe_fld (pv 0) rfl) (pv 4) (fun _ _ => rfl)) (pe_meth0 (pe_fld (pv 0) rfl) T.c_Rule c_Rule_attempts.at_ c_Rule_attempts.ok (hr.mono (by decide)) c_Rule_attempts.b .nil pass0) (nomark _)) (pss_one (ps_expr (pe_dpop1 (pe_fld (pv 0) rfl) (pv 4) ⟨rfl, rfl, rfl, rfl⟩))) pss_nil))))))), ?_⟩
    have h40 := R.sc.n40
    obtain ⟨kvs, hc0, hck⟩ := R.cl
    have hnl : (nowW S s x).length ≤ s.wt.length := by
      unfold nowW
      rw [List.length_map]
      exact List.length_filter_le _ _
    have hol : (s.cl.filter fun c => hitB S.gs S.n (x - S.s0 c)).length ≤ s.cl.length := List.length_filter_le _ _
    refine x_lock (xs := (s.cl.filter fun c => hitB S.gs S.n (x - S.s0 c)).map fun c : Nat => V.int (c : Int)) (Ex.refl H) hc0 (fun od => ?_) fun po H1 e1 hpo _ ho => ?_
    · have Wk := R.walk hc0 (.frz od (.dK kvs))
      refine el_keys (l := s.cl) (e_closed T Wk.o (ev_var rfl)) upd_same hck (fun c => hitB S.gs S.n (x - S.s0 c)) (fun c => V.int (c : Int)) (fun _ => rfl) (fun c hc => ?_) (fun c _ _ => ev_var rfl) (by omega)
      refine et_is (et_test (ev_notN (ev_meth (e_pattern T Wk.o (ev_var rfl)) Wk.sc.ru.o (by kernel_rfl) (ea_cons (ev_op (ev_var rfl) (e_begin T Wk.o Wk.b (ev_var rfl) (hcN c hc) (ev_var rfl)) rv_I0) ea_nil) (v_attempt_at Wk.sc.ru _)))) ?_
      rw [atV_non, Bool.not_not]
    have R1 := R.mono e1
    have hq1 := e1 _ _ hq
    refine x_if (b := decide ((nowW S s x).length + (s.cl.filter fun c => hitB S.gs S.n (x - S.s0 c)).length = 1)) (Ex.refl H1) (et_test (ev_op (ev_lenS (es_new (el_cat (es_of (ev_var rfl) hq1) (es_of (ev_var rfl) ho) ?_))) ev_c (rv_eqI ?_))) (fun hb H2 e2 _ => ?_) fun hb H2 e2 _ => ?_
    · rw [List.length_map, List.length_map]
      omega
    · rw [List.length_append, List.length_map, List.length_map]
      by_cases z : (nowW S s x).length + (s.cl.filter fun c => hitB S.gs S.n (x - S.s0 c)).length = 1
      · rw [decide_eq_true z]
        exact decide_eq_true (by omega)
      · rw [decide_eq_false z]
        exact decide_eq_false (by omega)
    · have hb := of_decide_eq_true hb
      have hpos : 0 < (nowW S s x).length := List.length_pos_iff.mpr hne
      obtain ⟨c, hcs⟩ : ∃ c, nowW S s x = [c] := List.length_eq_one_iff.mp (by omega)
      obtain ⟨i, hci, hsl⟩ := mem_nowW.mp (show c ∈ nowW S s x by rw [hcs]; exact List.mem_singleton.mpr rfl)
      rw [hcs] at hq1
      have R2 := R1.mono e2
      have hq2 := e2 _ _ hq1
      obtain ⟨ksv, hs0, hsA⟩ := R2.sv
      have hcw : c ∈ s.wk := mem_wk.mpr ⟨i, hci⟩
      have nqw : q ≠ a.dw := ne_of hq2 R2.wt (by intro z; cases z)
      have c0 : ∀ {σ : L2.St} {G : Hp}, σ[2]? = some (some (.ref q)) → G q = some (.lst [V.int (c : Int)]) → Ev (tOp (rIxL K) (tVar 2) (tC (.int 0))) σ G (kV (kI c)) := fun h h' => ev_ixS (es_of (ev_var h) h') ev_c rfl
      have Rw : ∀ {H3 : Hp}, Ex H2 H3 → RunA K (upd H3 a.dw (.dK (dropK (wtK s.wt) (kI c)))) a S ms { s with wt := s.wt.filter fun q => !decide (q.1 = c) } := fun e3 => by
        rw [wtK_drop]
        exact R2.putW e3 _
      have hq3 : ∀ {H3 : Hp}, Ex H2 H3 → upd H3 a.dw (.dK (dropK (wtK s.wt) (kI c))) q = some (.lst [V.int (c : Int)]) := fun e3 => by
        rw [upd_ne nqw]
        exact e3 _ _ hq2
      refine x_dputPop (k := kI c) (c := kI c) (v := .int (i : Int)) (x := .int x) (d := a.ds) (kvs := ksv) (e_waiting T R2.o (ev_var rfl)) (c0 rfl hq2) R2.wt (wtK_val hnd hci) (fun H3 e3 => ev_var rfl) (fun H3 e3 => e_services T (Rw e3).o (ev_var rfl)) (fun H3 e3 => c0 rfl (hq3 e3)) (fun H3 e3 => ?_) (by rw [hsA.len]; omega) fun pt H3 H4 e3 e4 ht => ?_
      · rw [upd_ne R2.nws.symm]
        exact e3 _ _ hs0
      have R3 := Rw e3
      have hnew : valV ksv (kI c) = none := valV_notin fun z hz e => by
        obtain ⟨j, hj, ez⟩ := List.mem_iff_getElem.mp hz
        have hj' : j < s.sv.length := by rw [← hsA.len]; exact hj
        obtain ⟨t, h1, _⟩ := hsA.at_ j s.sv[j] (List.getElem?_eq_getElem hj')
        rw [List.getElem?_eq_getElem hj, ez] at h1
        have : kI c = kI s.sv[j].1 := by
          rw [← e]
          have := Option.some.inj h1
          rw [this]
        exact hws c hcw (by
          rw [kI_inj.mp this]
          exact List.mem_map.mpr ⟨_, List.getElem_mem hj', rfl⟩)
      rw [putK_new _ hnew]
      have hsA4 : SvA H4 (ksv ++ [(kI c, .ref pt)]) (s.sv ++ [(c, i, x)]) := by
        have k4 : NK H2 H4 := (NK.updO e3 R2.wt).trans (NK.of e4)
        refine ⟨by rw [List.length_append, List.length_append, hsA.len]; rfl, fun j y hy => ?_⟩
        rcases Nat.lt_or_ge j s.sv.length with hj | hj
        · rw [List.getElem?_append_left hj] at hy
          obtain ⟨t, h1, h2⟩ := (hsA.nk k4).at_ j y hy
          exact ⟨t, by rw [List.getElem?_append_left (by rw [hsA.len]; exact hj)]; exact h1, h2⟩
        · rw [List.getElem?_append_right hj] at hy
          have : j - s.sv.length = 0 := by
            rcases Nat.eq_zero_or_pos (j - s.sv.length) with z | z
            · exact z
            · rw [List.getElem?_eq_none (by show 1 ≤ _; omega)] at hy
              cases hy
          rw [this] at hy
          cases hy
          exact ⟨pt, by rw [List.getElem?_append_right (by rw [hsA.len]; exact hj), hsA.len, this]; rfl, ht⟩
      have R4 := R3.putS e4 _ hsA4
      refine x_fld (Ex.refl _) (ev_op (ev_var rfl) (ev_meth (e_its_scene T R4.o (ev_var rfl)) R4.sc.o (by kernel_rfl) ea_nil (v_scene R4.sc ⟨rfl, rfl⟩ rfl)) rv_I0) (ev_var rfl) R4.o T.c_Run T.n_Run_free_from (show 8 < 1000 by decide) fun H5 e5 => ?_
      rw [pt_free_from]
      refine k _ _ ⟨x, q, rfl, .inl ⟨c, i, hci, hsl, rfl⟩⟩ (R4.putF e5 (x + S.ln)) ?_
      exact (((ExB.of (e1.trans (e2.trans e3))).trans (ExB.upd mutA_w)).trans ((ExB.of e4).trans (ExB.upd mutA_s))).trans ((ExB.of e5).trans (ExB.upd mutA_p))
    · have hb := of_decide_eq_false hb
      have hnn := nowW_nd (S := S) (x := x) hnd
      refine x_forLst (xs := (nowW S s x).map fun c : Nat => V.int (c : Int)) e2 (ev_var rfl) (fun _ e => sq_of (e _ _ hq1))
        (fun i σ' H' => (∃ v : Option V, σ' = [some (.ref a.p), some (.int x), some (.ref q), some (.ref po), v]) ∧ RunA K H' a S ms (bump s ((nowW S s x).take i)) ∧ ExB (mutA a) H H' ∧ H' q = some (.lst ((nowW S s x).map fun c : Nat => V.int (c : Int)))) ?_ (fun i σ' H' _ z => sq_of z.2.2.2) ?_ ?_
      · intro H3 e3 _
        refine ⟨⟨none, rfl⟩, ?_, ExB.of (e1.trans e3), e3 _ _ hq1⟩
        rw [List.take_zero, bump_nil]
        exact R1.mono e3
      · rintro i y σ' H' hx ⟨⟨v, rfl⟩, R', b', hq'⟩
        rw [List.getElem?_map] at hx
        obtain ⟨c, hc, e0⟩ := Option.map_eq_some_iff.mp hx
        subst e0
        obtain ⟨old, hold, _⟩ := mem_nowW.mp (List.mem_of_getElem? hc)
        have hb1 := bump_old hnn hc hold
        have hbn : ((bump s ((nowW S s x).take i)).wt.map (·.1)).Nodup := by
          have := bump_wk (s := s) ((nowW S s x).take i)
          unfold RSt.wk at this
          rw [this]
          exact hnd
        refine x_daug (k := kI c) (i := (old : Int)) (j := 1) (e_waiting T R'.o (ev_var rfl)) (ev_var rfl) ev_c R'.wt (wtK_val hbn hb1) (by rw [wtK_len, bump_len]; omega) fun H3 e3 => ?_
        have e5 : ((old : Int) + 1) = ((old + 1 : Nat) : Int) := by omega
        rw [e5, wtK_put (List.mem_map.mpr ⟨_, hb1, rfl⟩), bump_put hnd hc hold]
        have R3 := R'.putW e3 (bump s ((nowW S s x).take (i + 1))).wt
        have hnew : (c, old + 1) ∈ (bump s ((nowW S s x).take (i + 1))).wt := bump_mem.mpr (.inl ⟨(take_mem hc).mpr (.inr rfl), old, hold, rfl⟩)
        have hbn' : ((bump s ((nowW S s x).take (i + 1))).wt.map (·.1)).Nodup := by
          have := bump_wk (s := s) ((nowW S s x).take (i + 1))
          unfold RSt.wk at this
          rw [this]
          exact hnd
        refine x_noL (Ex.refl _) (et_test (ev_op (ev_dget (k := kI c) (v := .int ((old + 1 : Nat) : Int)) (e_waiting T R3.o (ev_var rfl)) (ev_var rfl) R3.wt (wtK_val hbn' hnew)) (ev_meth (e_pattern T R3.o (ev_var rfl)) R3.sc.ru.o (by kernel_rfl) ea_nil (v_rule R3.sc.ru ⟨rfl, rfl⟩ rfl)) (rv_eqB rfl (decide_eq_false (by intro z; cases z))))) fun H4 e4 _ => ?_
        refine ⟨⟨_, rfl⟩, R3.mono e4, (b'.trans ((ExB.of e3).trans (ExB.upd mutA_w))).trans (ExB.of e4), ?_⟩
        refine e4 _ _ ?_
        rw [upd_ne (ne_of (e3 _ _ hq') (e3 _ _ R'.wt) (by intro z; cases z))]
        exact e3 _ _ hq'
      · rintro σ' H' ⟨_, R', b', _⟩
        rw [List.length_map, List.take_length] at R'
        refine k _ H' ⟨x, q, rfl, .inr ⟨fun c hc => ?_, rfl⟩⟩ R' b'
        by_cases z : ∃ d ∈ nowW S s x, d ≠ c
        · obtain ⟨d, hd, hdc⟩ := z
          exact ⟨d, hdc, .inl hd⟩
        · -- alone among the waiting ones
          have hlen : (nowW S s x).length = 1 := by
            have hall : ∀ d ∈ nowW S s x, d = c := fun d hd => Classical.byContradiction fun n => z ⟨d, hd, n⟩
            cases hl : nowW S s x with
            | nil => exact absurd hl hne
            | cons d r =>
              cases r with
              | nil => rfl
              | cons d' r' =>
                rw [hl] at hall hnn
                have h1 := hall d List.mem_cons_self
                have h2 := hall d' (List.mem_cons_of_mem _ List.mem_cons_self)
                rw [h1, h2] at hnn
                exact absurd List.mem_cons_self (List.nodup_cons.mp hnn).1
          have : (s.cl.filter fun c => hitB S.gs S.n (x - S.s0 c)) ≠ [] := fun w => hb (by rw [w, hlen]; rfl)
          obtain ⟨d, hd⟩ := List.exists_mem_of_ne_nil _ this
          obtain ⟨h1, h2⟩ := List.mem_filter.mp hd
          refine ⟨d, fun e => hwc c ?_ (e ▸ h1), .inr ⟨h1, (hitB_iff R.sc.ru.ok).mp h2⟩⟩
          obtain ⟨old, hold, _⟩ := mem_nowW.mp hc
          exact mem_wk.mpr ⟨old, hold⟩
end
end RS
end

section
set_option Elab.async false
set_option linter.all false
set_option maxRecDepth 100000
set_option maxHeartbeats 4000000
namespace RS
open PySem PySem.Spec PyProof.Rows L2 Evl
section
variable {X : Cx}
theorem ps_setDc {i : Nat} {y : Str} {py : Pos} {kx vx tg iter : Expr} {ifs : List Expr} {scope : Scope} {own : List (Str × Nat)} {pos spos : Pos} {wi : TI} {g : TG} {tt : TT} {tk tv : TE} (hc : X.calm = true) (hN : X.N.Nodup) (hy : X.N[i]? = some y) (hyl : X.env.scope.names.lookup y = some .local)
    (hsw : swapsWith (.DictComp kx vx [⟨tg, iter, ifs, 0⟩] scope pos) (some (.Name y py)) spos.line X.env = pure true) (hi : PI X tg iter wi) (ok : BlkOk X.N X.env.scope scope own)
    (hg : ∀ (s : Shared) (H : Hp) (C : Addr) (cl : List (Str × Addr)) (fp : List Addr), PG (X.blk s H scope (compEnvC scope cl C X.env) fp) tg g) (ht : ∀ (s : Shared) (H : Hp) (C : Addr) (cl : List (Str × Addr)) (fp : List Addr), PTs (X.blk s H scope (compEnvC scope cl C X.env) fp) ifs tt)
    (hk : ∀ (s : Shared) (H : Hp) (C : Addr) (cl : List (Str × Addr)) (fp : List Addr), PE (X.blk s H scope (compEnvC scope cl C X.env) fp) kx tk)
    (he : ∀ (s : Shared) (H : Hp) (C : Addr) (cl : List (Str × Addr)) (fp : List Addr), PE (X.blk s H scope (compEnvC scope cl C X.env) fp) vx tv) (hs : ∀ x, foldedSetIterable iter X.env x = pure x := by intro _; rfl) :
    PS X (.Assign [.Name y py] (.DictComp kx vx [⟨tg, iter, ifs, 0⟩] scope pos) spos) (tAsg (tDc wi g tt tk tv (own.map (·.2))) (gName i)) := by
  refine ⟨fun pins s σ H D I h => ?_⟩
  rw [exec_Assign_Name_used _ _ _ _ hsw]
  refine wpAny_bind (wpAny_standAt (wpAny_bind ?_))
  show wpAny _ X.A (do let _ ← comprehension (.DictComp kx vx [⟨tg, iter, ifs, 0⟩] scope pos) scope X.env (firstIterPos [⟨tg, iter, ifs, 0⟩] pos) newDict false (eval iter X.env) (some (assign (.Name y py) X.env))) _ _ s
  have h : tDc wi g tt tk tv (own.map (·.2)) σ H (fun x H1 => gName i x σ H1 D.nx) := h
  refine wpAny_bind (thn (dc_core (Qf := fun _ s' => SP X pins D .next s') hc hN I hi ok hg ht hk he hs h fun L C s' m H' I' q hn f => ?_) fun _ s' hq => wpAny_pure (wpAny_pure hq))
  show wpAny _ _ (assign (.Name y py) X.env (.ref L)) _ _ _
  refine wpAny_assign_Name (store_ok2 (v := V.ref L) I' hN hy (.inl hyl) rfl (fun s2 I2 ⟨a, sb, ha⟩ => ?_) (.inr hyl))
  obtain ⟨f0, f1, f2, f3, f4, f5⟩ := f
  have haC : C ≠ a := by
    rcases ha with z | z
    · rw [z]; exact f1
    · exact fun e => f4 y a z e.symm
  refine ⟨m, hn.sameBut sb haC, fun h3 sb3 => ?_⟩
  exact ⟨_, H', I2.turned (t' := s2.toks) (fun b o hb e => (sb3.2 b hb).trans e) f0 f1 f3 f4 f5, q⟩
theorem sw_trueD {kx vx : Expr} {gs : List Comprehension} {scope : Scope} {pos py : Pos} {y : Str} {l : Nat} {env : Env} (hk : env.scope.kind = .function) (hy : env.scope.names.lookup y = some .local) (hl : (py.line == pos.line) = true)
    (ha : (scope.names.any fun (n, k) => n == y && (k == .local || k == .cell)) = false) : swapsWith (.DictComp kx vx gs scope pos) (some (.Name y py)) l env = pure true := by
  have ky : env.kindOf y = some .local := hy
  have hb : env.blockKind = .function := by unfold Env.blockKind; rw [hk]; rfl
  unfold swapsWith
  simp only [hb, ky, ha, Expr.pos, hl]
  rfl
end
section
variable {K : PySem.W.Frag} {σ : L2.St} {G H H' : Hp} {ta tb te tk tv td tl tx : TE} {t : TT} {vs : List Nat} {D : Ends} {tz tu tw : TS}
theorem x_lockD {d : Addr} {kvs xs : List (Key × V)} {i : Nat} (hd : H d = some (.dK kvs)) (h : ∀ od, EvD te σ (upd H d (.frz od (.dK kvs))) xs)
    (k : ∀ p H1, H p = none → Ex H H1 → H1 p = some (.dK xs) → tz D (σ.set i (some (.ref p))) H1) : tSeq (tLock (tAsg te (gName i))) tz D σ H := by
  refine ⟨d, .dK kvs, hd, trivial, fun od => h od _ (Ex.refl _) _ fun p H2 hp e2 h2 => ?_⟩
  have npd : p ≠ d := fun z => by
    rw [z, upd_same] at hp
    cases hp
  have e3 : Ex H (upd H2 d (.dK kvs)) := fun b o hb => by
    by_cases z : b = d
    · rw [z] at hb ⊢
      rw [hd] at hb
      rw [upd_same]
      exact hb
    · rw [upd_ne z]
      exact e2 _ _ (by rw [upd_ne z]; exact hb)
  exact ⟨e2 _ _ upd_same, k p _ (by rw [upd_ne npd] at hp; exact hp) e3 (by rw [upd_ne npd]; exact h2)⟩
theorem s_mut2L {a C dx : Addr} {fs : List (Str × V)} {m : Str} {sp : Sp} {x : V} {xs : List V} {E : XK} (h : Ev ta σ H (.ref a)) (ho : H a = some (.ins C dx fs)) (hl : fs.lookup m = none) (hb : Ev tb σ H x) (he : EvL te σ H xs)
    (hs : ∀ p H1, H p = none → Ex H H1 → H1 p = some (.lst xs) → sp [.ref a, x, .ref p] H1 (fun _ H2 => D.nx σ H2) E) : tDrop (tMeth C m sp [] E ta (tCons tb (tCons te tNil))) D σ H :=
  h H (Ex.refl H) _ fun H1 e1 => ⟨a, dx, fs, rfl, e1 _ _ ho, hl, hb H1 e1 _ fun H2 e2 => he H2 (e1.trans e2) _ fun p H3 hp e3 h3 => hs p H3 (fresh_back (e1.trans e2) hp) ((e1.trans e2).trans e3) h3⟩
theorem EvD.is {kvs xs : List (Key × V)} (h : EvD te σ G kvs) (e : kvs = xs) : EvD te σ G xs := e ▸ h
end
section
variable {P : Program} {w : World} {K : PySem.W.Frag} {mg : Str → Option Value} {base : Heap} {G : Hp} {a : UA} {S : Sc} {ms : List Int} {s : RSt} {σ : L2.St} {ta td : TE}
def slK (S : Sc) (wt : List (Nat × Nat)) : List (Key × V) := wt.map fun q => (kI q.1, V.int (S.slot q.1 q.2))
theorem slK_at {wt : List (Nat × Nat)} {i : Nat} (h : i < wt.length) : (slK S wt)[i]? = some (kI (wt.getD i (0, 0)).1, .int (S.slot (wt.getD i (0, 0)).1 (wt.getD i (0, 0)).2)) := by
  unfold slK
  rw [List.getElem?_map, List.getD_eq_getElem?_getD, List.getElem?_eq_getElem h]
  rfl
theorem keys_ne {wt : List (Nat × Nat)} (hn : (wt.map (·.1)).Nodup) {i j : Nat} (hij : i < j) (hj : j < wt.length) : kI (wt.getD i (0, 0)).1 ≠ kI (wt.getD j (0, 0)).1 := fun e => by
  have e1 := kI_inj.mp e
  have hi : i < wt.length := by omega
  have := List.pairwise_iff_getElem.mp hn i j (by rw [List.length_map]; exact hi) (by rw [List.length_map]; exact hj) hij
  apply this
  rw [List.getElem_map, List.getElem_map]
  rw [List.getD_eq_getElem?_getD, List.getElem?_eq_getElem hi, List.getD_eq_getElem?_getD, List.getElem?_eq_getElem hj] at e1
  exact e1
theorem closed_len {b : Int} : (closeS S s b (s.cl ++ fresh S s b)).cl.length + (closeS S s b (s.cl ++ fresh S s b)).wt.length = s.cl.length + s.wt.length := by
  unfold closeS
  show (s.cl ++ fresh S s b).length + (s.wt.filter fun q => !decide (S.last q.1 ≤ b)).length = _
  rw [List.length_append]
  have h : ∀ l : List (Nat × Nat), ((l.map (·.1)).filter fun c => decide (S.last c ≤ b)).length + (l.filter fun q => !decide (S.last q.1 ≤ b)).length = l.length := fun l => by
    induction l with
    | nil => rfl
    | cons q r ih =>
      rw [List.map_cons, List.filter_cons, List.filter_cons]
      by_cases z : S.last q.1 ≤ b
      · rw [decide_eq_true z]
        simp only [if_true, Bool.not_true, if_false, List.length_cons]
        simp only [Bool.false_eq_true, if_false]
        omega
      · rw [decide_eq_false z]
        simp only [Bool.false_eq_true, if_false, Bool.not_false, if_true, List.length_cons]
        omega
  have := h s.wt
  unfold fresh RSt.wk
  omega
def AdvPost (S : Sc) (s s' : RSt) : Prop := (∀ M0, S.Ok M0 → Inv S M0 s → Inv S M0 s' ∧ mu S M0 s' < mu S M0 s) ∧ (s.cl.length + s.wt.length ≤ S.N → s'.cl.length + s'.wt.length ≤ S.N)
def sp_Run_advance (K : PySem.W.Frag) : Sp := SpMut K (fun S ms s us _ => us = [] ∧ s.wt ≠ [] ∧ (∃ M0, S.Ok M0 ∧ Inv S M0 s) ∧ s.cl.length + s.wt.length ≤ S.N) (fun S s us s' => AdvPost S s s') 0
theorem ok_Run_advance (T : Txt K mg) : ∃ fd, CalM P w K mg base 6 (cRun K) "advance" (He.ma K (cRun K) "advance") fd ["self"] (sp_Run_advance K) := by
  obtain ⟨fd_Rule_offset_of, c_Rule_offset_of⟩ := ok_Rule_offset_of (P := P) (w := w) (base := base) T
  obtain ⟨fd_Run_close, c_Run_close⟩ := ok_Run_close (P := P) (w := w) (base := base) T
  obtain ⟨fd_Run_decide, c_Run_decide⟩ := ok_Run_decide (P := P) (w := w) (base := base) T
  obtain ⟨fd_Run_failing_until, c_Run_failing_until⟩ := ok_Run_failing_until (P := P) (w := w) (base := base) T
  obtain ⟨fd_Run_is_repeated, c_Run_is_repeated⟩ := ok_Run_is_repeated (P := P) (w := w) (base := base) T
  obtain ⟨fd_Run_skip_to, c_Run_skip_to⟩ := ok_Run_skip_to (P := P) (w := w) (base := base) T
  obtain ⟨fd, F⟩ := T.f_Run_advance
  refine ⟨fd, T.m_Run_advance, F.ok sc_Run_advance (fun vs H Q E h => ?_) (fun cdv A outer s H vs Q E hr h => ?_), F.bindsN fun _ _ _ _ _ _ us hl => match us, hl with | [_], _ => rfl⟩
  · exact h.len
  · obtain ⟨a, S, ms, s, us, rfl, _, R, ⟨rfl, hne, ⟨M0, O, I⟩, hsz⟩, k⟩ := h
    refine ⟨_, PSs.nox (pss_cons (ps_lock (ps_setDc (i := 1) (own := [("client", 2), ("its", 3)]) rfl sc_Run_advance.nd rfl rfl (sw_trueD rfl rfl rfl (by decide +kernel)) (pi_items (pe_fld (pv 0) rfl)) (blkOk_by (own := [("client", 2), ("its", 3)]) (N := ["self", "slots", "client", "its", "slot", "end", "its_slot"]) (sc := defScope s_Run_advance) (by decide +kernel)) (fun _ _ _ _ _ => (pg_tupK K 2 rfl (pgs_cons (pg_name (i := 2) sc_Run_advance.nd rfl (by first | exact Or.inl rfl | exact Or.inr rfl)) (pgs_cons (pg_name (i := 3) sc_Run_advance.nd rfl (by first | exact Or.inl rfl | exact Or.inr rfl)) pgs_nil)))) (fun _ _ _ _ _ => pts_nil) (fun _ _ _ _ _ => (pv 2)) (fun _ _ _ _ _ => (pe_op op_add (pe_ix (ix_listK K) (pe_fldK K (pv 0) rfl) (pv 2) (fun _ _ => rfl)) (pe_meth (pe_fldK K (pv 0) rfl) T.c_Rule c_Rule_offset_of.at_ c_Rule_offset_of.ok (hr.mono (by decide)) c_Rule_offset_of.b .nil pass0 (pa_cons (pv 3) pa_nil))))))
      (pss_cons (ps_set (i := 4) sc_Run_advance.nd rfl (by first | exact Or.inl rfl | exact Or.inr rfl) (pe_callB (cr_minVals rfl) (by rfl) T.b_min (by decide +kernel) (pa_cons (pe_vals (pv 1)) pa_nil)))
      (pss_cons (ps_set (i := 5) sc_Run_advance.nd rfl (by first | exact Or.inl rfl | exact Or.inr rfl) (pe_meth (pv 0) T.c_Run c_Run_failing_until.at_ c_Run_failing_until.ok (hr.mono (by decide)) c_Run_failing_until.b .nil pass0 (pa_cons (pv 4) pa_nil)))
      (pss_one (ps_if (pt_cmpR op_gt (pv 5) (pv 4) (nomark _)) (pss_one (ps_expr (pe_meth (pv 0) T.c_Run c_Run_skip_to.at_ c_Run_skip_to.ok (hr.mono (by decide)) c_Run_skip_to.b .nil pass0 (pa_cons (pv 5) pa_nil)))) (pss_one (ps_if (pt_val (pe_meth (pv 0) T.c_Run c_Run_is_repeated.at_ c_Run_is_repeated.ok (hr.mono (by decide)) c_Run_is_repeated.b .nil pass0 (pa_cons (pv 4) pa_nil))) (pss_one (ps_expr (pe_meth (pv 0) T.c_Run c_Run_close.at_ c_Run_close.ok (hr.mono (by decide)) c_Run_close.b .nil pass0 (pa_cons (pv 4) pa_nil)))) (pss_one (ps_expr (pe_meth (pv 0) T.c_Run c_Run_decide.at_ c_Run_decide.ok (hr.mono (by decide)) c_Run_decide.b .nil pass0 (pa_cons (pv 4) (pa_cons (pe_lock (pe_lc (own := [("client", 2), ("its_slot", 6)]) rfl sc_Run_advance.nd (pi_items (pv 1)) (blkOk_by (own := [("client", 2), ("its_slot", 6)]) (N := ["self", "slots", "client", "its", "slot", "end", "its_slot"]) (sc := defScope s_Run_advance) (by decide +kernel)) (fun _ _ _ _ _ => (pg_tupK K 2 rfl (pgs_cons (pg_name (i := 2) sc_Run_advance.nd rfl (by first | exact Or.inl rfl | exact Or.inr rfl)) (pgs_cons (pg_name (i := 6) sc_Run_advance.nd rfl (by first | exact Or.inl rfl | exact Or.inr rfl)) pgs_nil)))) (fun _ _ _ _ _ => (pts_one (pt_cmpR op_eq (pv 6) (pv 4) (nomark _)))) (fun _ _ _ _ _ => (pv 2)))) pa_nil)))))))))))), ?_⟩
    have h40 := R.sc.n40
    have hnd := I.nd
    have hml : s.wt ≠ [] := hne
    refine x_lockD (xs := slK S s.wt) R.wt (fun od => ?_) fun d H1 hd0 e1 hd => ?_
    · have Wk := R.walk R.wt (.frz od (.dK (wtK s.wt)))
      refine EvD.is (ed_comp (ei_items (e_waiting T Wk.o (ev_var rfl)) upd_same) (fun i => [some (.ref a.p), none, some (.int ((s.wt.getD i (0, 0)).1 : Int)), some (.int ((s.wt.getD i (0, 0)).2 : Int)), none, none, none]) (fun i hi => ?_) (fun i _ => rfl) (fun i => kI (s.wt.getD i (0, 0)).1) (fun i => V.int (S.slot (s.wt.getD i (0, 0)).1 (s.wt.getD i (0, 0)).2)) (fun i hi => ev_var rfl) (fun i hi => ?_) (fun i j hij hj => ?_) ?_) ?_
      · rw [wtK_len] at hi
        exact tg_pair (by rw [wtK_at hi]; rfl) (by rw [wtK_at hi]; rfl)
      · rw [wtK_len] at hi
        have hc := I.lw _ (List.mem_map.mpr ⟨_, wk_at hi, rfl⟩)
        exact ev_op (e_begin T Wk.o Wk.b (ev_var rfl) hc (ev_var rfl)) (ev_meth (e_pattern T Wk.o (ev_var rfl)) Wk.sc.ru.o (by kernel_rfl) (ea_cons (ev_var rfl) ea_nil) (v_offset_of Wk.sc.ru _)) rv_I0
      · rw [wtK_len] at hj
        exact keys_ne hnd hij hj
      · rw [wtK_len]
        omega
      · rw [wtK_len]
        unfold slK
        conv => rhs; rw [← range_getD s.wt (0, 0)]
        rw [List.map_map]
        rfl
    have R1 := R.mono e1
    have hsn : s.wt.map (fun q => S.slot q.1 q.2) ≠ [] := fun z => hne (List.map_eq_nil_iff.mp z)
    obtain ⟨x, hx1, hx2⟩ := min_ex hsn
    have hmin : IsMin S s x := ⟨by
      obtain ⟨q, hq, e⟩ := List.mem_map.mp hx1
      exact ⟨q, hq, e⟩, fun q hq => hx2 _ (List.mem_map.mpr ⟨q, hq, rfl⟩)⟩
    have hlate : ∃ b, IsLate S s x b := late_ex R.mo (by
      obtain ⟨q, hq, e⟩ := hmin.mem
      refine ⟨S.s0 q.1, .inl (s0_mem (I.lw _ (List.mem_map.mpr ⟨q, hq, rfl⟩))), ?_⟩
      rw [← e, ← slot0 O]
      exact slot_le O (Nat.zero_le _))
    obtain ⟨b, hb⟩ := hlate
    refine x_asg (Ex.refl H1) (ev_minVals (ns := s.wt.map fun q => S.slot q.1 q.2) (ev_var rfl) hd (by unfold slK; rw [List.map_map, List.map_map]; rfl) hx1 hx2) fun H2 e2 _ => ?_
    have R2 := R1.mono e2
    refine x_asg e2 (ev_meth (ev_var rfl) R1.o (by kernel_rfl) (ea_cons (ev_var rfl) ea_nil) (v_run R1 ⟨x, rfl, rfl⟩ rfl : SpV (sp_Run_failing_until K) _ _ _)) fun H3 e3 _ => ?_
    have R3 := R1.mono e3
    by_cases hE : x < failI S s.fr x
    · refine x_then (Ex.refl H3) (et_test (ev_op (ev_var rfl) (ev_var rfl) (rv_B (decide_eq_true hE)))) fun H4 e4 _ => ?_
      have R4 := R3.mono e4
      refine s_mut (Ex.refl H4) (ev_var rfl) R4.o (by kernel_rfl) (ea_cons (ev_var rfl) ea_nil) fun H5 e5 _ => ?_
      refine ⟨a, S, ms, s, [.int (failI S s.fr x)], rfl, rfl, R4.mono e5, ⟨_, rfl, I.lw, by omega⟩, fun s' H' hp R' b' => ?_⟩
      obtain ⟨e, he, rfl⟩ := hp
      cases he
      refine k _ H' ⟨fun M1 O1 I1 => inv_skip O1 I1 hmin hE (failI_gt hE), fun h => ?_⟩ R' ((ExB.of (((e1.trans e3).trans e4).trans e5)).trans b')
      show s.cl.length + (s.wt.map _).length ≤ S.N
      rw [List.length_map]
      exact h
    · obtain ⟨hfr, hw⟩ := failI_le hE
      refine x_else (Ex.refl H3) (et_test (ev_op (ev_var rfl) (ev_var rfl) (rv_B (decide_eq_false hE)))) fun H4 e4 _ => ?_
      have R4 := R3.mono e4
      by_cases hP : S.p < x - b
      · refine x_then (Ex.refl H4) (et_B (ev_is (ev_meth (ev_var rfl) R4.o (by kernel_rfl) (ea_cons (ev_var rfl) ea_nil) (v_run R4 ⟨x, b, rfl, hb, rfl⟩ rfl : SpV (sp_Run_is_repeated K) _ _ _)) (by rw [decide_eq_true hP]))) fun H5 e5 _ => ?_
        have R5 := R4.mono e5
        refine s_mut (Ex.refl H5) (ev_var rfl) R5.o (by kernel_rfl) (ea_cons (ev_var rfl) ea_nil) fun H6 e6 _ => ?_
        refine ⟨a, S, ms, s, [.int x], rfl, rfl, R5.mono e6, ⟨x, b, rfl, hb, hnd, I.lw, I.lc, I.wc, hsz⟩, fun s' H' hp R' b' => ?_⟩
        obtain ⟨x', b'', he, hb', rfl⟩ := hp
        cases he
        refine k _ H' ⟨fun M1 O1 I1 => ?_, fun h => by rw [closed_len]; exact h⟩ R' ((ExB.of ((((e1.trans e3).trans e4).trans e5).trans e6)).trans b')
        have hP' : S.p < x - b'' := by
          have h1 := hb.top b'' hb'.mo hb'.le
          omega
        exact inv_close O1 I1 hmin hfr hw hb' hP' fun c => List.mem_append
      · refine x_else (Ex.refl H4) (et_B (ev_is (ev_meth (ev_var rfl) R4.o (by kernel_rfl) (ea_cons (ev_var rfl) ea_nil) (v_run R4 ⟨x, b, rfl, hb, rfl⟩ rfl : SpV (sp_Run_is_repeated K) _ _ _)) (by rw [decide_eq_false hP]))) fun H5 e5 _ => ?_
        have R5 := R4.mono e5
        have hd5 : H5 d = some (.dK (slK S s.wt)) := e5 _ _ (e4 _ _ (e3 _ _ hd))
        have hnw : nowW S s x ≠ [] := by
          obtain ⟨q, hq, e⟩ := hmin.mem
          intro z
          have : q.1 ∈ nowW S s x := mem_nowW.mpr ⟨q.2, hq, e⟩
          rw [z] at this
          cases this
        refine s_mut2L (xs := (nowW S s x).map fun c : Nat => V.int (c : Int)) (ev_var rfl) R5.o (by kernel_rfl) (ev_var rfl) (el_lock hd5 fun od => ?_) fun pl H6 hpl e6 h6 => ?_
        · refine el_is (el_comp (ei_items (ev_var rfl) upd_same) (fun i => [some (.ref a.p), some (.ref d), some (.int ((s.wt.getD i (0, 0)).1 : Int)), none, some (.int x), some (.int (failI S s.fr x)), some (.int (S.slot (s.wt.getD i (0, 0)).1 (s.wt.getD i (0, 0)).2))]) (fun i hi => ?_) (fun i _ => rfl) (fun i => decide (S.slot (s.wt.getD i (0, 0)).1 (s.wt.getD i (0, 0)).2 = x)) (fun i => V.int ((s.wt.getD i (0, 0)).1 : Int)) (fun i hi => et_test (ev_op (ev_var rfl) (ev_var rfl) (rv_eqI rfl))) (fun i hi _ => ev_var rfl) ?_) ?_
          · unfold slK at hi
            rw [List.length_map] at hi
            exact tg_pair (by rw [slK_at hi]; rfl) (by rw [slK_at hi]; rfl)
          · unfold slK
            rw [List.length_map]
            omega
          · unfold slK
            rw [List.length_map]
            refine (given_list s.wt (0, 0) (fun q => decide (S.slot q.1 q.2 = x)) fun q => V.int (q.1 : Int)).trans ?_
            unfold nowW
            rw [List.map_map]
            rfl
        · refine ⟨a, S, ms, s, [.int x, .ref pl], rfl, rfl, R5.mono e6, ⟨x, pl, rfl, h6, hnw, hnd, I.lw, I.lc, hsz, by have := I.num; omega, I.wsv, I.wc⟩, fun s' H' hp R' b' => ?_⟩
          obtain ⟨x', q', he, hp⟩ := hp
          cases he
          refine k _ H' ?_ R' ((ExB.of ((((e1.trans e3).trans e4).trans e5).trans e6)).trans b')
          rcases hp with ⟨c, i, hci, hsl, rfl⟩ | ⟨hmet, rfl⟩
          · refine ⟨fun M1 O1 I1 => inv_serve O1 I1 hmin hfr hb hP hci hsl, fun h => ?_⟩
            show s.cl.length + (s.wt.filter _).length ≤ S.N
            have := List.length_filter_le (fun q : Nat × Nat => !decide (q.1 = c)) s.wt
            omega
          · refine ⟨fun M1 O1 I1 => inv_bump O1 I1 hmin hb hP hmet, fun h => ?_⟩
            have e := bump_len (s := s) (nowW S s x)
            show s.cl.length + (bump s (nowW S s x)).wt.length ≤ S.N
            omega
end
end RS
end

section
set_option Elab.async false
set_option linter.all false
set_option maxRecDepth 100000
set_option maxHeartbeats 4000000
namespace RS
open PySem PySem.Spec PyProof.Rows L2 Evl
section
variable {K : PySem.W.Frag} {σ : L2.St} {G H H' : Hp} {ta tb te tk tv td tl tx : TE} {t : TT} {vs : List Nat} {D : Ends} {tz tu tw : TS}
theorem x_fldD {a C dx : Addr} {fs : List (Str × V)} {f : Str} (ha : ∀ H1, Ex H H1 → Ev ta σ H1 (.ref a)) (ho : H a = some (.ins C dx fs)) (hc : Cls K C) (hn : NoAttr K C f) (hl : fs.length < 1000)
    (k : ∀ p H1, H p = none → Ex H H1 → H1 p = some (.dK []) → tz D σ (upd H1 a (.ins C dx (putF f (.ref p) fs)))) : tSeq (sFld K ta tDNewK f) tz D σ H := fun p hp =>
  ha _ (Ex.new hp) _ (Ex.refl _) _ fun H2 e2 => ⟨a, C, dx, fs, rfl, e2 _ _ (Ex.new hp _ _ ho), hc, hn, hl, k p H2 hp ((Ex.new hp).trans e2) (e2 _ _ upd_same)⟩
theorem x_fldP {a C dx : Addr} {fs : List (Str × V)} {f : Str} {Pr : List V → Prop} (e : Ex G H) (hv : EvP te σ G Pr) (ha : Ev ta σ G (.ref a)) (ho : H a = some (.ins C dx fs)) (hc : Cls K C) (hn : NoAttr K C f) (hl : fs.length < 1000)
    (k : ∀ p H1 xs, Pr xs → H p = none → Ex H H1 → H1 p = some (.lst xs) → tz D σ (upd H1 a (.ins C dx (putF f (.ref p) fs)))) : tSeq (sFld K ta te f) tz D σ H := hv H e _ fun p H1 xs hx hp e1 h1 => ha H1 (e.trans e1) _ fun H2 e2 => ⟨a, C, dx, fs, rfl, e2 _ _ (e1 _ _ ho), hc, hn, hl, k p H2 xs hx hp (e1.trans e2) (e2 _ _ h1)⟩
/-- d != {} -/
theorem ev_neE {d : Addr} {kvs : List (Key × V)} (h : Ev td σ G (.ref d)) (hd : G d = some (.dK kvs)) : Ev (tOp rNeE td tDNewK) σ G (.bl (!kvs.isEmpty)) := fun H1 e Q q => h H1 e _ fun H2 e2 p hp => by
  refine ⟨d, p, kvs, rfl, rfl, ?_, upd_same, q _ (e2.trans (Ex.new hp))⟩
  rw [upd_ne (ne_of_none (e2 _ _ (e _ _ hd)) hp)]
  exact e2 _ _ (e _ _ hd)
/-- for i, x in enumerate(xs), things changed within -/
theorem x_forE2 {p : Addr} {xs : List V} {i j : Nat} (h : Ev tl σ H (.ref p)) (hp : H p = some (.lst xs)) (Pv : Nat → L2.St → Hp → Prop) (h0 : ∀ H1, Ex H H1 → Pv 0 σ H1) (hG : ∀ m σ' H', m ≤ xs.length → Pv m σ' H' → H' p = some (.lst xs))
    (hs : ∀ m x σ' H' H'', xs[m]? = some x → Pv m σ' H' → Ex H' H'' → tu { D with nx := Pv (m + 1), ct := Pv (m + 1), bk := tz D } ((σ'.set i (some (.int (m : Int)))).set j (some x)) H'') (hd : ∀ σ' H', Pv xs.length σ' H' → tz D σ' H') :
    tSeq (tFor (iEnum K (tCons tl tNil)) (gTup K 2 (gCons (gName i) (gCons (gName j) gNil))) tu) tz D σ H := h H (Ex.refl H) _ fun H1 e1 => by
  refine ⟨p, xs, rfl, sq_of (e1 p _ hp), for_it (D := { D with nx := tz D }) walk_enum Pv (h0 H1 e1) (fun m σ' H' hm q => sq_of (hG m σ' H' hm q)) (fun m x σ' H' H'' hm q y => ?_) hd⟩
  obtain ⟨T, a, b, rfl, hT, rfl, ha, hb⟩ := y
  cases ha
  exact g_pair (st_of upd_same) (hs m b σ' H' _ hb q (Ex.new hT))
theorem ex_exB {l : List Addr} (e : Ex (hide H l) H') : ExB l H H' := fun b o hb h => e b o (by rw [hide_out hb]; exact h)
/-- a scene of which nothing is new-made is left by a change elsewhere -/
theorem SceneA.keep {a : SA} {S : Sc} (X : SceneA K H a S) (h : ∀ b o, H b = some o → (∀ C dx, o ≠ .ins C dx []) → G b = some o) : SceneA K G a S :=
  ⟨h _ _ X.o (by intro C dx z; cases z), ⟨h _ _ X.ru.o (by intro C dx z; cases z), h _ _ X.ru.l (by intro C dx z; cases z), h _ _ X.ru.t (by intro C dx z; cases z), h _ _ X.ru.s (by intro C dx z; cases z), X.ru.ok, X.ru.hi, X.ru.sz⟩,
    h _ _ X.st (by intro C dx z; cases z), h _ _ X.wl (by intro C dx z; cases z), ⟨X.wn.len, fun i r hr => by
    obtain ⟨w, h1, h2⟩ := X.wn.at_ i r hr
    exact ⟨w, h1, h _ _ h2 (by intro C dx z; cases z)⟩⟩, X.n0, X.n40, X.w10, X.ln1⟩
end
def initP (S : Sc) (f : Int) (m : Nat) : RSt := ⟨((List.range m).filter fun c => !decide (1 < (eqs S c).length)).map fun c => (c, 0), (List.range m).filter fun c => decide (1 < (eqs S c).length), [], f⟩
theorem initP_all (S : Sc) (f : Int) : initP S f S.N = initS S f := rfl
theorem initP_len (S : Sc) (f : Int) (m : Nat) : (initP S f m).cl.length + (initP S f m).wt.length = m := by
  unfold initP
  show ((List.range m).filter _).length + (((List.range m).filter _).map _).length = m
  rw [List.length_map]
  have h : ∀ l : List Nat, (l.filter fun c => decide (1 < (eqs S c).length)).length + (l.filter fun c => !decide (1 < (eqs S c).length)).length = l.length := fun l => by
    induction l with
    | nil => rfl
    | cons q r ih =>
      rw [List.filter_cons, List.filter_cons]
      by_cases z : 1 < (eqs S q).length
      · rw [decide_eq_true z]
        simp only [if_true, Bool.not_true, List.length_cons, Bool.false_eq_true, if_false]
        omega
      · rw [decide_eq_false z]
        simp only [Bool.false_eq_true, if_false, Bool.not_false, if_true, List.length_cons]
        omega
  rw [h, List.length_range]
section
variable {P : Program} {w : World} {K : PySem.W.Frag} {mg : Str → Option Value} {base : Heap} {G : Hp} {a : UA} {S : Sc} {ms : List Int} {s : RSt} {σ : L2.St} {ta td : TE}
def sp_Run_init (K : PySem.W.Frag) : Sp := fun vs H Q _ => ∃ (x dx : Addr) (sa : SA) (S : Sc) (M0 : Int), vs = [.ref x, .ref sa.p] ∧ H x = some (.ins (cRun K) dx []) ∧ SceneA K H sa S ∧ S.Ok M0 ∧
  ∀ (H' : Hp) (a : UA) (ms : List Int) (s : RSt), a.p = x → a.sa = sa → H a.b = none → H a.ch = none → RunA K H' a S ms s → s.wt = [] → Fin S (bnd S M0) s.sv → s.sv.length ≤ S.N → ExB [x] H H' → Q .non H'
theorem ok_Run_init (T : Txt K mg) : ∃ fd, CalI P w K mg base 7 (He.ma K (cRun K) "__init__") fd ["self", "scene"] (sp_Run_init K) := by
  obtain ⟨fd_Run_advance, c_Run_advance⟩ := ok_Run_advance (P := P) (w := w) (base := base) T
  obtain ⟨fd_Scene_moments, c_Scene_moments⟩ := ok_Scene_moments (P := P) (w := w) (base := base) T
  obtain ⟨fd_Scene_rule, c_Scene_rule⟩ := ok_Scene_rule (P := P) (w := w) (base := base) T
  obtain ⟨fd_Scene_starts, c_Scene_starts⟩ := ok_Scene_starts (P := P) (w := w) (base := base) T
  obtain ⟨fd, F⟩ := T.f_Run_init
  refine ⟨fd, F.ok sc_Run_init (fun vs H Q E h => ?_) (fun cdv A outer s H vs Q E hr h => ?_), F.bindsN fun _ _ _ _ _ _ us hl => match us, hl with | [_, _], _ => rfl⟩
  · obtain ⟨_, _, _, _, _, rfl, _⟩ := h
    rfl
  · obtain ⟨x, dx, sa, S, M0, rfl, hx, X, O, k⟩ := h
    refine ⟨_, PSs.nox (pss_cons (ps_if (pt_not (pt_val (pe_callB call_isi (by rfl) T.b_isinstance (by decide +kernel) (pa_cons (pv 1) (pa_cons (pe_glob (v := .ref (cScene K)) (by rfl) T.g_Scene rfl) pa_nil))))) (pss_one ps_never) pss_nil)
      (pss_cons (ps_fld (pv 0) (pv 1) rfl)
      (pss_cons (ps_fld (pv 0) (pe_meth0 (pv 1) T.c_Scene c_Scene_rule.at_ c_Scene_rule.ok (hr.mono (by decide)) c_Scene_rule.b .nil pass0) rfl)
      (pss_cons (ps_fld (pv 0) (pe_meth0 (pv 1) T.c_Scene c_Scene_starts.at_ c_Scene_starts.ok (hr.mono (by decide)) c_Scene_starts.b .nil pass0) rfl)
      (pss_cons (ps_fld (pv 0) (pe_meth0 (pv 1) T.c_Scene c_Scene_moments.at_ c_Scene_moments.ok (hr.mono (by decide)) c_Scene_moments.b .nil pass0) rfl)
      (pss_cons (ps_fld (pv 0) pe_dnewK rfl)
      (pss_cons (ps_fld (pv 0) pe_dnewK rfl)
      (pss_cons (ps_fld (pv 0) pe_dnewK rfl)
      (pss_cons (ps_fld (pv 0) (pe_ix ix_list (pe_fld (pv 0) rfl) pe_int (fun _ _ => rfl)) rfl)
      (pss_cons (ps_for PassesOwn.never rfl (pi_enum (by rfl) T.b_enumerate (pa_cons (pe_fld (pv 0) rfl) pa_nil)) (pg_tup rfl (pgs_cons (pg_name (i := 2) sc_Run_init.nd rfl (by first | exact Or.inl rfl | exact Or.inr rfl)) (pgs_cons (pg_name (i := 3) sc_Run_init.nd rfl (by first | exact Or.inl rfl | exact Or.inr rfl)) pgs_nil))) (pss_cons (ps_setLc (i := 4) (own := [("other", 5), ("its_start", 6)]) rfl sc_Run_init.nd rfl rfl (sw_true rfl rfl rfl (by decide +kernel)) (pi_enum (by rfl) T.b_enumerate (pa_cons (pe_fld (pv 0) rfl) pa_nil)) (blkOk_by (own := [("other", 5), ("its_start", 6)]) (N := ["self", "scene", "client", "start", "equal", "other", "its_start"]) (sc := defScope s_Run_init) (by decide +kernel)) (fun _ _ _ _ _ => (pg_tupK K 2 rfl (pgs_cons (pg_name (i := 5) sc_Run_init.nd rfl (by first | exact Or.inl rfl | exact Or.inr rfl)) (pgs_cons (pg_name (i := 6) sc_Run_init.nd rfl (by first | exact Or.inl rfl | exact Or.inr rfl)) pgs_nil)))) (fun _ _ _ _ _ => (pts_one (pt_cmpR op_eq (pv 6) (pv 3) (nomark _)))) (fun _ _ _ _ _ => (pv 5)))
      (pss_one (ps_if (pt_cmpR op_gt (pe_callB call_len_seq (by rfl) T.b_len (by decide +kernel) (pa_cons (pv 4) pa_nil)) pe_int (nomark _)) (pss_one (ps_dput (hu_of hr) (pe_fld (pv 0) rfl) (pv 2) (pe_tup (pa_cons (pv 3) (pa_cons (pv 4) pa_nil))) rfl)) (pss_one (ps_dput (hu_of hr) (pe_fld (pv 0) rfl) (pv 2) pe_int rfl))))))
      (pss_one (ps_while PassesOwn.never (pt_cmpR (op_neE (Nat.lt_of_succ_lt (hu_of hr))) (pe_fld (pv 0) rfl) pe_dnewK (nomark _)) (pss_one (ps_expr (pe_meth0 (pv 0) T.c_Run c_Run_advance.at_ c_Run_advance.ok (hr.mono (by decide)) c_Run_advance.b .nil pass0))))))))))))))), ?_⟩
    have hN0 := X.n0
    have hN40 := X.n40
    have X0 : SceneA K (hide H [x]) sa S := X.keep fun b o hb hne => by
      rw [hide_out (fun z => by
        have := List.mem_singleton.mp z
        subst this
        rw [hx] at hb
        cases hb
        exact hne _ _ rfl)]
      exact hb
    have gx : ∀ {H1 : Hp}, ExB [x] H H1 → Ex (hide H [x]) H1 := fun b => ExB.ex b hide_ex (fun b hb => hide_in hb)
    have ux : ∀ {H1 : Hp} {o : HO}, ExB [x] H1 (upd H1 x o) := ExB.upd (List.mem_singleton.mpr rfl)
    refine x_no (Ex.refl H) (et_not (a := true) (et_B (isi_scene T X (ev_var rfl) ev_c))) fun H1 e1 _ => ?_
    refine x_fld e1 (ev_var rfl) (ev_var rfl) (e1 _ _ hx) T.c_Run T.n_Run_its_scene (show 0 < 1000 by decide) fun H2 e2 => ?_
    have b2 := (ExB.of (l := [x]) (e1.trans e2)).trans (ux (o := .ins (cRun K) dx (putF "its_scene" (.ref sa.p) [])))
    refine x_fld (gx b2) (ev_meth (ev_var rfl) X0.o (by kernel_rfl) ea_nil (v_scene X0 ⟨rfl, rfl⟩ rfl : SpV (sp_Scene_rule K) _ _ _)) (ev_var rfl) upd_same T.c_Run T.n_Run_pattern (l1k (lp lz) (by decide)) fun H3 e3 => ?_
    have b3 := (b2.trans (ExB.of e3)).trans (ux (o := .ins (cRun K) dx (putF "pattern" (.ref sa.ra.r) (putF "its_scene" (.ref sa.p) []))))
    refine x_fldL (gx b3) (el_meth (ev_var rfl) X0.o (by kernel_rfl) ea_nil (l_scene X0 ⟨rfl, rfl⟩ rfl : SpL (sp_Scene_starts K) _ _ _)) (ev_var rfl) upd_same T.c_Run T.n_Run_begins (l1k (lp (lp lz)) (by decide)) fun pb H4 hpb e4 h4 => ?_
    have nb : pb ≠ x := (ne_of (e4 _ _ upd_same) h4 (by intro z; cases z)).symm
    have b4 := (b3.trans (ExB.of e4)).trans (ux (o := .ins (cRun K) dx (putF "begins" (.ref pb) (putF "pattern" (.ref sa.ra.r) (putF "its_scene" (.ref sa.p) [])))))
    have h4' : upd H4 x (.ins (cRun K) dx (putF "begins" (.ref pb) (putF "pattern" (.ref sa.ra.r) (putF "its_scene" (.ref sa.p) [])))) pb = some (.lst (S.st.map V.int)) := by
      rw [upd_ne nb]
      exact h4
    refine x_fldP (Pr := fun xs => ∃ ms : List Int, xs = ms.map V.int ∧ (∀ x, x ∈ ms ↔ S.IsMo x) ∧ ms.length ≤ 1000) (gx b4) (fun H5 e5 Q q => (ev_var rfl : Ev (tVar 1) _ (hide H [x]) (.ref sa.p)) H5 e5 _ fun H6 e6 => ⟨sa.p, sa.dx, _, rfl, e6 _ _ (e5 _ _ X0.o), by kernel_rfl, sa, S, rfl, X0.mono (e5.trans e6), fun ms p H7 hm hl hp e7 h7 => q p H7 _ ⟨ms, rfl, hm, hl⟩ (fresh_back e6 hp) (e6.trans e7) h7⟩) (ev_var rfl) upd_same T.c_Run T.n_Run_changes (l1k (lp (lp (lp lz))) (by decide)) fun pc H5 xs hxs hpc e5 h5 => ?_
    obtain ⟨ms, rfl, hmo, hml⟩ := hxs
    have mv : ∀ {Ha Hb : Hp} {b : Addr} {o u : HO}, Ex Ha Hb → Ha b = some o → b ≠ x → upd Hb x u b = some o := fun e h n => by
      rw [upd_ne n]
      exact e _ _ h
    have b5 := (b4.trans (ExB.of e5)).trans (ux (o := .ins (cRun K) dx (putF "changes" (.ref pc) (putF "begins" (.ref pb) (putF "pattern" (.ref sa.ra.r) (putF "its_scene" (.ref sa.p) []))))))
    have nc : pc ≠ x := (ne_of (e5 _ _ upd_same) h5 (by intro z; cases z)).symm
    have fb5 := mv (u := .ins (cRun K) dx (putF "changes" (.ref pc) (putF "begins" (.ref pb) (putF "pattern" (.ref sa.ra.r) (putF "its_scene" (.ref sa.p) []))))) e5 h4' nb
    have fc5 := mv (u := .ins (cRun K) dx (putF "changes" (.ref pc) (putF "begins" (.ref pb) (putF "pattern" (.ref sa.ra.r) (putF "its_scene" (.ref sa.p) []))))) (Ex.refl _) h5 nc
    refine x_fldD (fun _ _ => ev_var rfl) upd_same T.c_Run T.n_Run_services (l1k (lp (lp (lp (lp lz)))) (by decide)) fun ds H6 hds e6 h6 => ?_
    generalize hF6 : putF "services" (V.ref ds) (putF "changes" (.ref pc) (putF "begins" (.ref pb) (putF "pattern" (.ref sa.ra.r) (putF "its_scene" (.ref sa.p) [])))) = F6
    have nds : ds ≠ x := fun z => by
      rw [z, upd_same] at hds
      cases hds
    have b6 := (b5.trans (ExB.of e6)).trans (ux (o := .ins (cRun K) dx F6))
    have fb6 := mv (u := .ins (cRun K) dx F6) e6 fb5 nb
    have fc6 := mv (u := .ins (cRun K) dx F6) e6 fc5 nc
    have fs6 := mv (u := .ins (cRun K) dx F6) (Ex.refl _) h6 nds
    refine x_fldD (fun _ _ => ev_var rfl) upd_same T.c_Run T.n_Run_closed (by rw [← hF6]; exact l1k (lp (lp (lp (lp (lp lz))))) (by decide)) fun dc H7 hdc e7 h7 => ?_
    generalize hF7 : putF "closed" (V.ref dc) F6 = F7
    have ndc : dc ≠ x := fun z => by
      rw [z, upd_same] at hdc
      cases hdc
    have ncs : dc ≠ ds := fun z => by
      rw [z, fs6] at hdc
      cases hdc
    have b7 := (b6.trans (ExB.of e7)).trans (ux (o := .ins (cRun K) dx F7))
    have fb7 := mv (u := .ins (cRun K) dx F7) e7 fb6 nb
    have fc7 := mv (u := .ins (cRun K) dx F7) e7 fc6 nc
    have fs7 := mv (u := .ins (cRun K) dx F7) e7 fs6 nds
    have fl7 := mv (u := .ins (cRun K) dx F7) (Ex.refl _) h7 ndc
    refine x_fldD (fun _ _ => ev_var rfl) upd_same T.c_Run T.n_Run_waiting (by rw [← hF7, ← hF6]; exact l1k (lp (lp (lp (lp (lp (lp lz)))))) (by decide)) fun dw H8 hdw e8 h8 => ?_
    generalize hF8 : putF "waiting" (V.ref dw) F7 = F8
    have ndw : dw ≠ x := fun z => by
      rw [z, upd_same] at hdw
      cases hdw
    have nwc : dw ≠ dc := fun z => by
      rw [z, fl7] at hdw
      cases hdw
    have nws : dw ≠ ds := fun z => by
      rw [z, fs7] at hdw
      cases hdw
    have b8 := (b7.trans (ExB.of e8)).trans (ux (o := .ins (cRun K) dx F8))
    have fb8 := mv (u := .ins (cRun K) dx F8) e8 fb7 nb
    have fc8 := mv (u := .ins (cRun K) dx F8) e8 fc7 nc
    have fs8 := mv (u := .ins (cRun K) dx F8) e8 fs7 nds
    have fl8 := mv (u := .ins (cRun K) dx F8) e8 fl7 ndc
    have fw8 := mv (u := .ins (cRun K) dx F8) (Ex.refl _) h8 ndw
    have lkc : F8.lookup ("changes" : Str) = some (V.ref pc) := by
      rw [← hF8, ← hF7, ← hF6]
      kernel_rfl
    obtain ⟨f, hf⟩ : ∃ f, ms[0]? = some f := by
      have hs0 : S.s0 0 ∈ ms := (hmo _).mpr (.inl (s0_mem (show 0 < S.N by omega)))
      cases ms with
      | nil => cases hs0
      | cons f r => exact ⟨f, rfl⟩
    have hfM : f ≤ M0 := O.low f ((hmo f).mp (List.mem_of_getElem? hf))
    refine x_fld (y := .int f) (Ex.refl _) (ev_ixS (es_of (ev_fld (ev_var rfl) upd_same T.c_Run T.n_Run_changes lkc) fc8) ev_c (atI_nat (j := 0) (by rw [List.getElem?_map, hf]; rfl))) (ev_var rfl) upd_same T.c_Run T.n_Run_free_from (by rw [← hF8, ← hF7, ← hF6]; exact l1k (lp (lp (lp (lp (lp (lp (lp lz))))))) (by decide)) fun H9 e9 => ?_
    have hF9 : putF "free_from" (V.int f) F8 = runF sa.p sa.ra.r pb pc ds dc dw f := by
      rw [← hF8, ← hF7, ← hF6]
      exact pt_run
    rw [hF9]
    have b9 := (b8.trans (ExB.of e9)).trans (ux (o := .ins (cRun K) dx (runF sa.p sa.ra.r pb pc ds dc dw f)))
    have fb9 := mv (u := .ins (cRun K) dx (runF sa.p sa.ra.r pb pc ds dc dw f)) e9 fb8 nb
    have fc9 := mv (u := .ins (cRun K) dx (runF sa.p sa.ra.r pb pc ds dc dw f)) e9 fc8 nc
    have fs9 := mv (u := .ins (cRun K) dx (runF sa.p sa.ra.r pb pc ds dc dw f)) e9 fs8 nds
    have fl9 := mv (u := .ins (cRun K) dx (runF sa.p sa.ra.r pb pc ds dc dw f)) e9 fl8 ndc
    have fw9 := mv (u := .ins (cRun K) dx (runF sa.p sa.ra.r pb pc ds dc dw f)) e9 fw8 ndw
    have R9 : RunA K (upd H9 x (.ins (cRun K) dx (runF sa.p sa.ra.r pb pc ds dc dw f))) ⟨x, dx, sa, pb, pc, ds, dc, dw⟩ S ms ⟨[], [], [], f⟩ :=
      ⟨upd_same, fb9, fc9, fw9, ⟨[], fl9, rfl⟩, ⟨[], fs9, ⟨rfl, fun i q h => by cases h⟩⟩, X0.mono (gx b9), hmo, hml, nwc, nws, ncs⟩
    have fr : ∀ {b : Addr} {H1 : Hp}, ExB [x] H H1 → H1 b = none → b ≠ x → H b = none := fun {b H1} e h n => by
      cases q : H b with
      | none => rfl
      | some o =>
        have := e b o (by simpa using n) q
        rw [h] at this
        cases this
    have g9 : ∀ {H1 : Hp}, ExB (mutA ⟨x, dx, sa, pb, pc, ds, dc, dw⟩) (upd H9 x (.ins (cRun K) dx (runF sa.p sa.ra.r pb pc ds dc dw f))) H1 → Ex (hide H [x]) H1 := fun e => ExB.ex e (gx b9) fun b hb => by
      rcases List.mem_cons.mp hb with z | hb
      · exact hide_in (List.mem_singleton.mpr z)
      · have : H b = none ∧ b ≠ x := by
          rcases List.mem_cons.mp hb with z | hb
          · rw [z]
            exact ⟨fr b7 hdw ndw, ndw⟩
          · rcases List.mem_cons.mp hb with z | hb
            · rw [z]
              exact ⟨fr b6 hdc ndc, ndc⟩
            · rw [List.mem_singleton.mp hb]
              exact ⟨fr b5 hds nds, nds⟩
        rw [hide_out (by simpa using this.2)]
        exact this.1
    generalize upd H9 x (.ins (cRun K) dx (runF sa.p sa.ra.r pb pc ds dc dw f)) = Hs at R9 g9
    generalize ha : (⟨x, dx, sa, pb, pc, ds, dc, dw⟩ : UA) = a at R9 g9
    have hfb : H a.b = none := by
      rw [← ha]
      exact fr b3 hpb nb
    have hfc : H a.ch = none := by
      rw [← ha]
      exact fr b4 hpc nc
    have hax : a.p = x := by rw [← ha]
    have hasa : a.sa = sa := by rw [← ha]
    clear b2 b3 b4 b5 b6 b7 b8 b9 fb5 fc5 fb6 fc6 fs6 fb7 fc7 fs7 fl7 fb8 fc8 fs8 fl8 fw8 fb9 fc9 fs9 fl9 fw9 mv h4' hF6 hF7 hF8 hF9 lkc fr ha
    subst hax
    have hmem : ∀ c, c < S.N → (eqs S c).map (fun d : Nat => V.int (d : Int)) = given S.N (fun d => decide (S.s0 d = S.s0 c)) (fun d => V.int (d : Int)) := fun c _ => rfl
    refine x_forE2 (e_begins T R9.o (ev_var rfl)) R9.b (fun m σ' H' => (∃ u1 u2 u3 u4 u5 : Option V, σ' = [some (.ref a.p), some (.ref sa.p), u1, u2, u3, u4, u5]) ∧ RunA K H' a S ms (initP S f m) ∧ ExB (mutA a) Hs H') (fun H1 e => ⟨⟨_, _, _, _, _, rfl⟩, R9.mono e, ExB.of e⟩) (fun _ _ _ _ q => q.2.1.b) ?_ ?_
    · rintro c v σ' H' H'' hv ⟨⟨u1, u2, u3, u4, u5, rfl⟩, R', b'⟩ e'
      have hc : c < S.N := by
        have := (List.getElem?_eq_some_iff.mp hv).1
        rw [List.length_map] at this
        exact this
      rw [s0_at hc] at hv
      cases hv
      have R'' := R'.mono e'
      have hlen := initP_len S f c
      refine x_asgL (xs := (eqs S c).map fun d : Nat => V.int (d : Int)) (Ex.refl H'') (el_is (el_comp (ei_enum (es_of (e_begins T R''.o (ev_var rfl)) R''.b)) (fun i => [some (.ref a.p), some (.ref sa.p), some (.int (c : Int)), some (.int (S.s0 c)), u3, some (.int (i : Int)), some (.int (S.s0 i))]) (fun i hi => tg_pair rfl (s0_at (by rw [List.length_map] at hi; exact hi))) (fun i _ => rfl) (fun i => decide (S.s0 i = S.s0 c)) (fun i => V.int (i : Int)) (fun i _ => et_test (ev_op (ev_var rfl) (ev_var rfl) (rv_eqI rfl))) (fun i _ _ => ev_var rfl) (by rw [List.length_map]; show S.N ≤ 40000; omega)) (by rw [List.length_map]; exact (hmem c hc).symm)) fun pe H1 e1 hpe _ he => ?_
      have R1 := R''.mono e1
      have ht : Ev (tOp (rI0 fun i j => .bl (decide (i > j))) (tCB (rLenS K) (tCons (tVar 4) tNil)) (tC (.int 1))) [some (.ref a.p), some (.ref sa.p), some (.int (c : Int)), some (.int (S.s0 c)), some (.ref pe), u4, u5] H1 (.bl (decide (1 < (eqs S c).length))) := ev_op (ev_lenS (es_of (ev_var rfl) he)) ev_c (rv_B (by
        rw [List.length_map]
        by_cases z : 1 < (eqs S c).length
        · rw [decide_eq_true z]
          exact decide_eq_true (by omega)
        · rw [decide_eq_false z]
          exact decide_eq_false (by omega)))
      obtain ⟨kvs, hc0, hck⟩ := R1.cl
      by_cases z : 1 < (eqs S c).length
      · rw [decide_eq_true z] at ht
        refine x_then (Ex.refl H1) (et_test ht) fun H2 e2 _ => ?_
        have R2 := R1.mono e2
        refine s_dputU (k := kI c) (xs := [.int (S.s0 c), .ref pe]) (kvs := kvs) (eu_tup (ea_cons (ev_var rfl) (ea_cons (ev_var rfl) ea_nil)) (show 2 ≤ 100000 by decide)) (e_closed T R2.o (ev_var rfl)) (ev_var rfl) (e2 _ _ hc0) ?_ fun pt H3 _ e3 h3 => ⟨⟨_, _, _, _, _, rfl⟩, ?_, ?_⟩
        · have := congrArg List.length hck
          rw [List.length_map, List.length_map] at this
          omega
        · rw [putK_new _ (valV_notin fun q hq e => by
            have : kI c ∈ (initP S f c).cl.map kI := by
              rw [← hck]
              exact List.mem_map.mpr ⟨q, hq, e⟩
            obtain ⟨d, hd, e'⟩ := List.mem_map.mp this
            have e'' := kI_inj.mp e'
            have := List.mem_range.mp (List.mem_filter.mp hd).1
            omega)]
          have e4 : initP S f (c + 1) = { initP S f c with cl := (initP S f c).cl ++ [c] } := by
            unfold initP
            rw [List.range_succ, List.filter_append, List.filter_append]
            simp [z]
          rw [e4]
          exact R2.putC e3 _ (by rw [List.map_append, hck, List.map_append]; rfl)
        · exact (b'.trans (ExB.of (((e'.trans e1).trans e2).trans e3))).trans (ExB.upd mutA_c)
      · rw [decide_eq_false z] at ht
        refine x_else (Ex.refl H1) (et_test ht) fun H2 e2 _ => ?_
        have R2 := R1.mono e2
        refine s_dput (k := kI c) (v := .int ((0 : Nat) : Int)) ev_c (e_waiting T R2.o (ev_var rfl)) (ev_var rfl) R2.wt (by rw [wtK_len]; omega) fun H3 e3 => ⟨⟨_, _, _, _, _, rfl⟩, ?_, ?_⟩
        · have hnew : putK (wtK (initP S f c).wt) (kI c) (V.int ((0 : Nat) : Int)) = wtK ((initP S f c).wt ++ [(c, 0)]) := by
            rw [putK_new _ (valV_notin fun q hq e => by
              obtain ⟨y, hy, rfl⟩ := List.mem_map.mp hq
              have e'' := kI_inj.mp e
              unfold initP at hy
              obtain ⟨d, hd, rfl⟩ := List.mem_map.mp hy
              have := List.mem_range.mp (List.mem_filter.mp hd).1
              have e3 : d = c := e''
              omega)]
            unfold wtK
            rw [List.map_append]
            rfl
          rw [hnew]
          have e4 : initP S f (c + 1) = { initP S f c with wt := (initP S f c).wt ++ [(c, 0)] } := by
            unfold initP
            rw [List.range_succ, List.filter_append, List.filter_append]
            simp [z]
          rw [e4]
          exact R2.putW e3 _
        · exact (b'.trans (ExB.of (((e'.trans e1).trans e2).trans e3))).trans (ExB.upd mutA_w)
    · rintro σ' H' ⟨⟨u1, u2, u3, u4, u5, rfl⟩, R', b'⟩
      have eN : (S.st.map V.int).length = S.N := List.length_map _
      rw [eN, initP_all] at R'
      have hlen := initP_len S f S.N
      rw [initP_all] at hlen
      refine s_while (fun m σ2 H2 => σ2 = [some (.ref a.p), some (.ref sa.p), u1, u2, u3, u4, u5] ∧ ∃ s, RunA K H2 a S ms s ∧ Inv S M0 s ∧ s.cl.length + s.wt.length ≤ S.N ∧ m = mu S M0 s ∧ ExB (mutA a) Hs H2) _ ⟨rfl, _, R', inv_init hfM, by omega, rfl, b'⟩ ?_
      rintro m σ2 H2 ⟨rfl, s, R2, I, hsz, rfl, b2⟩
      refine ⟨!(wtK s.wt).isEmpty, et_test (ev_neE (e_waiting T R2.o (ev_var rfl)) R2.wt), fun hb H3 e3 => ?_, fun hb H3 e3 => ?_⟩
      · refine ⟨fun σ4 H4 => σ4 = [some (.ref a.p), some (.ref sa.p), u1, u2, u3, u4, u5] ∧ ∃ s', RunA K H4 a S ms s' ∧ Inv S M0 s' ∧ s'.cl.length + s'.wt.length ≤ S.N ∧ mu S M0 s' < mu S M0 s ∧ ExB (mutA a) Hs H4, fun σ4 H4 ⟨h1, s', h2, h3, h4, h5, h6⟩ => ⟨_, h5, h1, s', h2, h3, h4, rfl, h6⟩, ?_⟩
        have R3 := R2.mono e3
        have hne : s.wt ≠ [] := fun z => by
          rw [z] at hb
          cases hb
        refine s_mut (Ex.refl H3) (ev_var rfl) R3.o (by kernel_rfl) ea_nil fun H4 e4 _ => ?_
        refine ⟨a, S, ms, s, [], rfl, rfl, R3.mono e4, ⟨rfl, hne, ⟨M0, O, I⟩, hsz⟩, fun s' H5 hp R5 b5 => ?_⟩
        exact ⟨rfl, s', R5, (hp.1 M0 O I).1, hp.2 hsz, (hp.1 M0 O I).2, (b2.trans (ExB.of (e3.trans e4))).trans b5⟩
      · have he : s.wt = [] := by
          cases hw : s.wt with
          | nil => rfl
          | cons q r =>
            rw [hw] at hb
            cases hb
        exact k H3 a ms s rfl hasa hfb hfc (R2.mono e3) he (inv_fin O I he) (by have := I.num; omega) ((ex_exB (g9 b2)).trans (ExB.of e3))
end
end RS
end

section
set_option Elab.async false
set_option linter.all false
set_option maxRecDepth 100000
set_option maxHeartbeats 4000000
namespace RS
open PySem PySem.Spec PyProof.Rows L2 Evl
/-! ### values of which something is known -/
abbrev VP := V → Hp → Prop
def EvQ (te : TE) (σ : L2.St) (G : Hp) (P : VP) : Prop := ∀ H1, Ex G H1 → ∀ Q : VK, (∀ z H2, Ex H1 H2 → P z H2 → Q z H2) → te σ H1 Q
def SpQ (P : List V → Hp → VP → Prop) : Sp := fun vs H Q _ => ∃ R, P vs H R ∧ ∀ z H', Ex H H' → R z H' → Q z H'
section
variable {K : PySem.W.Frag} {σ : L2.St} {G H H' : Hp} {ta tb te tl : TE} {t : TT} {g : TG} {wi : TI} {vs : List Nat} {P R : VP} {D : Ends} {tz tu : TS}
theorem EvQ.mono (e : Ex G H) (h : EvQ te σ G P) : EvQ te σ H P := fun H1 a Q q => h H1 (e.trans a) Q q
theorem EvQ.imp (h : EvQ te σ G P) (k : ∀ z H, Ex G H → P z H → R z H) : EvQ te σ G R := fun H1 e Q q => h H1 e Q fun z H2 e2 p => q z H2 e2 (k z H2 (e.trans e2) p)
theorem eq_fn {A : List V → Hp → VP → Prop} {us : List V} {E : XK} {tt : TA} (ha : EvA tt σ G us) (hs : ∀ H1, Ex G H1 → A us H1 R) : EvQ (tCall (SpQ A) [] E tt) σ G R := fun H1 e Q q =>
  ha H1 e _ fun H2 e2 => by
    rw [List.append_nil]
    exact ⟨R, hs H2 (e.trans e2), fun z H3 e3 r => q z H3 (e2.trans e3) r⟩
theorem eq_meth {a C dx : Addr} {fs : List (Str × V)} {m : Str} {A : List V → Hp → VP → Prop} {us : List V} {E : XK} {tt : TA} (h : Ev ta σ G (.ref a)) (ho : G a = some (.ins C dx fs)) (hl : fs.lookup m = none) (ha : EvA tt σ G us) (hs : ∀ H1, Ex G H1 → A (.ref a :: us) H1 R) :
    EvQ (tMeth C m (SpQ A) [] E ta tt) σ G R := fun H1 e Q q => h H1 e _ fun H2 e2 => ⟨a, dx, fs, rfl, e2 _ _ (e _ _ ho), hl, ha H2 (e.trans e2) _ fun H3 e3 => by
  rw [List.append_nil]
  exact ⟨R, hs H3 ((e.trans e2).trans e3), fun z H4 e4 r => q z H4 ((e2.trans e3).trans e4) r⟩⟩
theorem x_asgQ {i : Nat} (e : Ex G H) (h : EvQ te σ G P) (k : ∀ z H1, Ex G H1 → Ex H H1 → P z H1 → tz D (σ.set i (some z)) H1) : tSeq (tAsg te (gName i)) tz D σ H := h H e _ fun z H1 e1 p => k z H1 (e.trans e1) e1 p
theorem x_retQ (e : Ex G H) (h : EvQ te σ G P) (k : ∀ z H1, Ex G H1 → Ex H H1 → P z H1 → D.rt z H1) : tRet te D σ H := h H e _ fun z H1 e1 p => k z H1 (e.trans e1) e1 p
/-- a list that holds some values -/
def isL (xs : List V) : VP := fun z H => ∃ p, z = .ref p ∧ H p = some (.lst xs)
def isU (xs : List V) : VP := fun z H => ∃ p, z = .ref p ∧ H p = some (.tup xs)
theorem es_q {xs : List V} (h : EvQ te σ G (isL xs)) : EvS te σ G xs := fun H1 e Q q => h H1 e Q fun z H2 e2 ⟨p, hz, hp⟩ => hz ▸ q p H2 e2 hp
theorem esu_q {xs : List V} (h : EvQ te σ G (isU xs)) : EvSU te σ G xs := fun H1 e Q q => h H1 e Q fun z H2 e2 ⟨p, hz, hp⟩ => hz ▸ q p H2 e2 hp
theorem q_es {xs : List V} (h : EvS te σ G xs) : EvQ te σ G (isL xs) := fun H1 e Q q => h H1 e Q fun p H2 e2 hp => q _ H2 e2 ⟨p, rfl, hp⟩
/-! ### data compared -/
theorem Dp.isData : True := trivial
mutual
theorem dp_ex (e : Ex H H') : ∀ (d : PyData) (v : V), Dp K H v d → Dp K H' v d
  | .none, _, h => by cases h; exact .non
  | .bool b, _, h => by cases h; exact .bl b
  | .int i, _, h => by cases h; exact .int i
  | .str x, _, h => by cases h; exact .str x
  | .list ds, _, h => by
    cases h with
    | lst hs ha => exact .lst (ex_l e hs) (dp_exA e ds _ ha)
  | .tuple ds, _, h => by
    cases h with
    | tup hs ha => exact .tup (ex_t e hs) (dp_exA e ds _ ha)
  | .dict _, _, h => by cases h
theorem dp_exA (e : Ex H H') : ∀ (ds : List PyData) (vs : List V), DpAll K H vs ds → DpAll K H' vs ds
  | [], _, h => by cases h; exact .nil
  | d :: ds, _, h => by
    cases h with
    | cons h1 h2 => exact .cons (dp_ex e d _ h1) (dp_exA e ds _ h2)
end
mutual
theorem eqv_self : ∀ d : PyData, d.canLay0 = true → PyData.eqv d d = true
  | .none, _ => by simp [PyData.eqv]
  | .bool b, _ => by simp [PyData.eqv]
  | .int i, _ => by simp [PyData.eqv]
  | .str x, _ => by simp [PyData.eqv]
  | .list xs, h => by
    rw [PyData.eqv]
    exact eqv_selfA xs (by simpa [PyData.canLay0] using h)
  | .tuple xs, h => by
    rw [PyData.eqv]
    exact eqv_selfA xs (by simpa [PyData.canLay0] using h)
  | .dict _, h => by simp [PyData.canLay0] at h
theorem eqv_selfA : ∀ xs : List PyData, PyData.canLayAll0 xs = true → PyData.eqvAll xs xs = true
  | [], _ => by simp [PyData.eqvAll]
  | x :: xs, h => by
    rw [PyData.canLayAll0, Bool.and_eq_true] at h
    rw [PyData.eqvAll, eqv_self x h.1, eqv_selfA xs h.2]
    rfl
end
def dpV (K : PySem.W.Frag) (d : PyData) : VP := fun z H => Dp K H z d
def EvAQ (K : PySem.W.Frag) (ta : TA) (σ : L2.St) (G : Hp) (ds : List PyData) : Prop := ∀ H1, Ex G H1 → ∀ Q : List V → Hp → Prop, (∀ vs H2, Ex H1 H2 → DpAll K H2 vs ds → Q vs H2) → ta σ H1 Q
theorem daq_nil : EvAQ K tNil σ G [] := fun H1 _ Q q => q [] H1 (Ex.refl H1) .nil
theorem daq_cons {tr : TA} {d : PyData} {ds : List PyData} (h : EvQ te σ G (dpV K d)) (hr : EvAQ K tr σ G ds) : EvAQ K (tCons te tr) σ G (d :: ds) := fun H1 e Q q => h H1 e _ fun z H2 e2 p => hr H2 (e.trans e2) _ fun vs H3 e3 ps => q _ H3 (e2.trans e3) (.cons (dp_ex e3 _ _ p) ps)
theorem DpAll.len : ∀ {vs : List V} {ds : List PyData}, DpAll K H vs ds → vs.length = ds.length
  | _, _, .nil => rfl
  | _, _, .cons _ h => by rw [List.length_cons, List.length_cons, DpAll.len h]
theorem dq_tup {tt : TA} {ds : List PyData} (h : EvAQ K tt σ G ds) (hz : ds.length ≤ 100000) : EvQ (tTup tt) σ G (dpV K (.tuple ds)) := fun H1 e Q q => h H1 e _ fun vs H2 e2 hd => ⟨by rw [DpAll.len hd]; exact sz_of hz, fun p hp => q _ _ (e2.trans (Ex.new hp)) (.tup (st_of upd_same) (dp_exA (Ex.new hp) _ _ hd))⟩
theorem dq_lst {tt : TA} {ds : List PyData} (h : EvAQ K tt σ G ds) (hz : ds.length ≤ 100000) : EvQ (tLst tt) σ G (dpV K (.list ds)) := fun H1 e Q q => h H1 e _ fun vs H2 e2 hd => ⟨by rw [DpAll.len hd]; exact sz_of hz, fun p hp => q _ _ (e2.trans (Ex.new hp)) (.lst (sq_of upd_same) (dp_exA (Ex.new hp) _ _ hd))⟩
theorem dq_int {i : Int} (h : Ev te σ G (.int i)) : EvQ te σ G (dpV K (.int i)) := fun H1 e Q q => h H1 e Q fun H2 e2 => q _ H2 e2 (.int i)
theorem dq_str {x : Str} : EvQ (tC (.str x)) σ G (dpV K (.str x)) := fun H1 e Q q => q _ H1 (Ex.refl H1) (.str x)
theorem dp_ints : ∀ l : List Nat, DpAll K H (l.map fun c : Nat => V.int (c : Int)) (l.map fun c : Nat => PyData.int (c : Int))
  | [] => .nil
  | c :: l => .cons (.int _) (dp_ints l)
/-- the data of a list of clients -/
def nD (l : List Nat) : PyData := .list (l.map fun c : Nat => PyData.int (c : Int))
def nV (l : List Nat) : List V := l.map fun c : Nat => V.int (c : Int)
theorem dp_nums {p : Addr} {l : List Nat} (h : H p = some (.lst (nV l))) : Dp K H (.ref p) (nD l) := .lst (sq_of h) (dp_ints l)
theorem dq_nums {l : List Nat} (h : EvS te σ G (nV l)) : EvQ te σ G (dpV K (nD l)) := fun H1 e Q q => h H1 e Q fun p H2 e2 hp => q _ H2 e2 (dp_nums hp)
theorem dq_have {z : V} {d : PyData} (h : Ev te σ G z) (hd : Dp K G z d) : EvQ te σ G (dpV K d) := fun H1 e Q q => h H1 e Q fun H2 e2 => q _ H2 e2 (dp_ex (e.trans e2) _ _ hd)
theorem ev_eqD {d e : PyData} {b : Bool} (ha : EvQ ta σ G (dpV K d)) (hb : EvQ tb σ G (dpV K e)) (sd : SeqAt.shaped d = true) (se : SeqAt.shaped e = true) (h : PyData.eqv d e = b) : Ev (tOp (rEqD K) ta tb) σ G (.bl b) := fun H1 e1 Q q =>
  ha H1 e1 _ fun z H2 e2 p => hb H2 (e1.trans e2) _ fun y H3 e3 r => ⟨d, e, dp_ex e3 _ _ p, r, sd, se, by rw [h]; exact q H3 (e2.trans e3)⟩
theorem ev_neD {d e : PyData} {b : Bool} (ha : EvQ ta σ G (dpV K d)) (hb : EvQ tb σ G (dpV K e)) (sd : SeqAt.shaped d = true) (se : SeqAt.shaped e = true) (h : (!PyData.eqv d e) = b) : Ev (tOp (rNeD K) ta tb) σ G (.bl b) := fun H1 e1 Q q =>
  ha H1 e1 _ fun z H2 e2 p => hb H2 (e1.trans e2) _ fun y H3 e3 r => ⟨d, e, dp_ex e3 _ _ p, r, sd, se, by rw [h]; exact q H3 (e2.trans e3)⟩
theorem canLay_ints : ∀ l : List Nat, PyData.canLayAll0 (l.map fun c : Nat => PyData.int (c : Int)) = true
  | [] => by simp [PyData.canLayAll0]
  | c :: l => by
    rw [List.map_cons, PyData.canLayAll0, canLay_ints l]
    rfl
theorem depth_ints : ∀ l : List Nat, PyData.depthAll (l.map fun c : Nat => PyData.int (c : Int)) = 0
  | [] => by simp [PyData.depthAll]
  | c :: l => by
    rw [List.map_cons, PyData.depthAll, depth_ints l]
    rfl
theorem shaped_self {d : PyData} (h : SeqAt.shaped d = true) : PyData.eqv d d = true := eqv_self d (SeqAt.canLay_of_shaped h)
theorem shaped_nums (l : List Nat) : SeqAt.shaped (nD l) = true := by
  unfold SeqAt.shaped nD
  rw [PyData.canLay0, canLay_ints, PyData.depth, depth_ints]
  rfl
theorem strOk_met : PyData.canLay0 (.str "met") = true := by decide +kernel
theorem shaped_met (l : List Nat) : SeqAt.shaped (.tuple [.str "met", nD l]) = true := by
  unfold SeqAt.shaped nD
  rw [PyData.canLay0, PyData.canLayAll0, PyData.canLayAll0, PyData.canLayAll0, strOk_met, PyData.canLay0, canLay_ints]
  simp [PyData.depth, PyData.depthAll, depth_ints]
theorem nums_nil (l : List Nat) : PyData.eqv (nD l) (nD []) = l.isEmpty := by
  unfold nD
  rw [PyData.eqv]
  cases l with
  | nil => rfl
  | cons a r => rfl
/-- `l == []`, `l != []` -/
theorem ev_eqNil {l : List Nat} (h : EvS ta σ G (nV l)) : Ev (tOp (rEqD K) ta (tLst tNil)) σ G (.bl l.isEmpty) := ev_eqD (dq_nums h) (dq_lst (ds := []) daq_nil (by decide)) (shaped_nums l) (shaped_nums []) (nums_nil l)
theorem ev_neNil {l : List Nat} (h : EvS ta σ G (nV l)) : Ev (tOp (rNeD K) ta (tLst tNil)) σ G (.bl (!l.isEmpty)) := ev_neD (dq_nums h) (dq_lst (ds := []) daq_nil (by decide)) (shaped_nums l) (shaped_nums []) (by rw [← nums_nil l]; rfl)
/-! ### lists of new tuples -/
def ExT (H H' : Hp) : Prop := ∀ b xs, H b = some (.tup xs) → H' b = some (.tup xs)
/-- refs to tuples, the i-th as P tells -/
def Tups (n : Nat) (P : Nat → List V → Prop) (xs : List V) (H : Hp) : Prop := xs.length = n ∧ ∀ i z, xs[i]? = some z → ∃ t us, z = .ref t ∧ H t = some (.tup us) ∧ P i us
theorem Tups.mono {n : Nat} {P : Nat → List V → Prop} {xs : List V} (h : Tups n P xs H) (e : Ex H H') : Tups n P xs H' := ⟨h.1, fun i z hz => by
  obtain ⟨t, us, h1, h2, h3⟩ := h.2 i z hz
  exact ⟨t, us, h1, e _ _ h2, h3⟩⟩
def isT (P : List V → Prop) : VP := fun z H => ∃ t us, z = .ref t ∧ H t = some (.tup us) ∧ P us
def EvLQ (te : TE) (σ : L2.St) (G : Hp) (R : List V → Hp → Prop) : Prop := ∀ H1, Ex G H1 → ∀ Q : VK, (∀ p H2 xs, R xs H2 → H1 p = none → Ex H1 H2 → H2 p = some (.lst xs) → Q (.ref p) H2) → te σ H1 Q
theorem eu_isT {tt : TA} {us : List V} {P : List V → Prop} (h : EvA tt σ G us) (hl : us.length ≤ 100000) (hp : P us) : EvQ (tTup tt) σ G (isT P) := fun H1 e Q q => eu_tup h hl H1 e Q fun p H2 _ e2 h2 => q _ H2 e2 ⟨p, us, rfl, h2, hp⟩
/-- the target at turn i, all known things there -/
def TgG (G : Hp) (g : TG) (Y : Nat → Hp → V → Hp → Prop) (σ : L2.St) (i : Nat) (σ2 : L2.St) : Prop := ∀ x H' H'', Ex G H' → Y i H' x H'' → Ex H' H'' ∧ ∀ Kk : L2.St → Hp → Prop, Kk σ2 H'' → g x σ H'' Kk
theorem Tg.toG {Y : Nat → Hp → V → Hp → Prop} {i : Nat} {σ2 : L2.St} (h : Tg g Y σ i σ2) : TgG G g Y σ i σ2 := fun x H' H'' _ y => h x H' H'' y
theorem eq_comp {n : Nat} {Y : Nat → Hp → V → Hp → Prop} (hI : EvI wi σ G n Y) (S : Nat → L2.St) (hT : ∀ i, i < n → TgG G g Y (wipe σ vs) i (S i)) (hw : ∀ i, i < n → wipe (S i) vs = wipe σ vs) (P : Nat → List V → Prop)
    (he : ∀ i, i < n → EvQ te (S i) G (isT (P i))) (hz : n ≤ 40000) : EvLQ (tLc wi g tYes te vs) σ G (Tups n P) := fun H0 e Q q => hI H0 e _ fun J H1 Gd e1 w hG Dl hD =>
  lc_it w (fun i H' => H1 Dl = none ∧ Ex H1 H' ∧ ∃ acc, H' Dl = some (.lst acc) ∧ Tups i P acc H') ⟨hD, Ex.new hD, [], upd_same, rfl, fun i z h => by cases h⟩ (fun i H' _ p => hG H' p.2.1) (fun i x H' H'' hi p y => by
    obtain ⟨e2, hg⟩ := hT i hi x H' H'' ((e.trans e1).trans p.2.1) y
    refine hg _ ⟨hw i hi, ?_⟩
    show te (S i) H'' fun y H4 => _
    refine he i hi H'' (((e.trans e1).trans p.2.1).trans e2) _ fun z H4 e4 hz4 => ?_
    obtain ⟨acc, ha, ht⟩ := p.2.2
    have h4 := e4 _ _ (e2 _ _ ha)
    refine ⟨acc, h4, sz_lt (by rw [ht.1]; omega), p.1, Ex.mut ((p.2.1.trans e2).trans e4) p.1, _, upd_same, by rw [List.length_append, ht.1]; rfl, fun j v hj => ?_⟩
    have keep : ∀ t us, H4 t = some (.tup us) → upd H4 Dl (.lst (acc ++ [z])) t = some (.tup us) := fun t us h => by
      rw [upd_ne (ne_of h h4 (by intro z; cases z))]
      exact h
    rcases Nat.lt_or_ge j acc.length with hlt | hge
    · rw [List.getElem?_append_left hlt] at hj
      obtain ⟨t, us, h1, h2, h3⟩ := ht.2 j v hj
      exact ⟨t, us, h1, keep _ _ (e4 _ _ (e2 _ _ h2)), h3⟩
    · rw [List.getElem?_append_right hge] at hj
      have h0 : j - acc.length = 0 := by
        rcases Nat.eq_zero_or_pos (j - acc.length) with z | z
        · exact z
        · rw [List.getElem?_eq_none (by show 1 ≤ _; omega)] at hj
          cases hj
      rw [h0] at hj
      cases hj
      obtain ⟨t, us, h1, h2, h3⟩ := hz4
      have e5 : j = i := by rw [← ht.1]; omega
      rw [e5]
      exact ⟨t, us, h1, keep _ _ h2, h3⟩) (fun H' p => by
    obtain ⟨acc, ha, ht⟩ := p.2.2
    exact q Dl H' acc ht (fresh_back e1 p.1) (e1.trans p.2.1) ha)
theorem elq_lock {d : Addr} {kvs : List (Key × V)} {n : Nat} {P : Nat → List V → Prop} (hd : G d = some (.dK kvs)) (h : ∀ od, EvLQ te σ (upd G d (.frz od (.dK kvs))) (Tups n P)) : EvLQ (tLockE te) σ G (Tups n P) := fun H1 e Q q =>
  ⟨d, .dK kvs, e _ _ hd, trivial, fun od => h od _ (fun b o hb => by
    by_cases z : b = d
    · rw [z, upd_same] at hb ⊢
      exact hb
    · rw [upd_ne z] at hb ⊢
      exact e _ _ hb) _ fun p H2 xs hx hp e2 h2 => by
    have npd : p ≠ d := fun z => by
      rw [z, upd_same] at hp
      cases hp
    have keep : ∀ t us, H2 t = some (.tup us) → upd H2 d (.dK kvs) t = some (.tup us) := fun t us h => by
      rw [upd_ne (ne_of h (e2 _ _ upd_same) (by intro z; cases z))]
      exact h
    refine ⟨e2 _ _ upd_same, q p _ xs ⟨hx.1, fun i z hz => ?_⟩ (by rw [upd_ne npd] at hp; exact hp) (fun b o hb => ?_) (by rw [upd_ne npd]; exact h2)⟩
    · obtain ⟨t, us, h1, h3, h4⟩ := hx.2 i z hz
      exact ⟨t, us, h1, keep _ _ h3, h4⟩
    by_cases z : b = d
    · rw [z] at hb ⊢
      rw [e _ _ hd] at hb
      rw [upd_same]
      exact hb
    · rw [upd_ne z]
      exact e2 _ _ (by rw [upd_ne z]; exact hb)⟩
/-- sorted(xs) of new pairs -/
theorem elq_sorted {n : Nat} {P : Nat → List V → Prop} {A : List V → Prop} (h : EvLQ te σ G (Tups n P)) (hp : ∀ i us, i < n → P i us → ∃ x y : Int, us = [.int x, .int y] ∧ A us) : EvLQ (tCB (rSortedP K) (tCons te tNil)) σ G (Tups n fun _ => A) := fun H1 e Q q => h H1 e _ fun p H2 xs hx hp2 e2 h2 => by
  have get : ∀ z ∈ xs, ∃ t x y, z = .ref t ∧ H2 t = some (.tup [.int x, .int y]) ∧ A [.int x, .int y] := fun z hz => by
    obtain ⟨i, hi, ez⟩ := List.mem_iff_getElem.mp hz
    obtain ⟨t, us, h1, h3, h4⟩ := hx.2 i z (by rw [List.getElem?_eq_getElem hi, ez])
    obtain ⟨x, y, rfl, h5⟩ := hp i us (by rw [← hx.1]; exact hi) h4
    exact ⟨t, x, y, h1, h3, h5⟩
  refine ⟨p, xs, rfl, sq_of h2, fun z hz => ?_, fun ys l hl hln => q l _ ys ⟨by rw [hl.length_eq]; exact hx.1, fun i z hz => ?_⟩ (fresh_back e2 hln) (e2.trans (Ex.new hln)) upd_same⟩
  · obtain ⟨t, x, y, h1, h3, _⟩ := get z hz
    exact ⟨t, x, y, h1, h3⟩
  · obtain ⟨t, x, y, h1, h3, h4⟩ := get z (hl.mem_iff.mp (List.mem_of_getElem? hz))
    exact ⟨t, _, h1, Ex.new hln _ _ h3, h4⟩
def isTL (n : Nat) (P : Nat → List V → Prop) : VP := fun z H => ∃ p xs, z = .ref p ∧ H p = some (.lst xs) ∧ Tups n P xs H
theorem q_elq {n : Nat} {P : Nat → List V → Prop} (h : EvLQ te σ G (Tups n P)) : EvQ te σ G (isTL n P) := fun H1 e Q q => h H1 e Q fun p H2 xs hx _ e2 h2 => q _ H2 e2 ⟨p, xs, rfl, h2, hx⟩
theorem x_retLQ {R : List V → Hp → Prop} (e : Ex G H) (h : EvLQ te σ G R) (k : ∀ p H1 xs, Ex G H1 → H p = none → Ex H H1 → R xs H1 → H1 p = some (.lst xs) → D.rt (.ref p) H1) : tRet te D σ H := h H e _ fun p H1 xs hx hp e1 h1 => k p H1 xs (e.trans e1) hp e1 hx h1
theorem eq_ifT (h : EvT t σ G true) (h1 : EvQ ta σ G P) : EvQ (tIf t ta tb) σ G P := fun H1 e Q q => h H1 e _ fun H2 e2 => by
  show ta σ H2 Q
  exact h1 H2 (e.trans e2) Q fun z H3 e3 p => q z H3 (e2.trans e3) p
theorem eq_ifF (h : EvT t σ G false) (h1 : EvQ tb σ G P) : EvQ (tIf t ta tb) σ G P := fun H1 e Q q => h H1 e _ fun H2 e2 => by
  show tb σ H2 Q
  exact h1 H2 (e.trans e2) Q fun z H3 e3 p => q z H3 (e2.trans e3) p
theorem eq_if {b : Bool} (h : EvT t σ G b) (h1 : b = true → EvQ ta σ G P) (h2 : b = false → EvQ tb σ G P) : EvQ (tIf t ta tb) σ G P := by
  cases b with
  | true => exact eq_ifT h (h1 rfl)
  | false => exact eq_ifF h (h2 rfl)
/-- a comprehension over a list that is told by its shape -/
theorem lc_split {xs : List V} (h : EvQ tl σ G P) (k : ∀ z H2, Ex G H2 → P z H2 → EvL (tLc (iList K (tC z)) g t te vs) σ H2 xs) : EvL (tLc (iList K tl) g t te vs) σ G xs := fun H1 e Q q => h H1 e _ fun z H2 e2 pz => k z H2 (e.trans e2) pz H2 (Ex.refl _) Q fun p H3 hp e3 h3 => q p H3 (fresh_back e2 hp) (e2.trans e3) h3
theorem for_split (e : Ex G H) (h : EvQ tl σ G P) (k : ∀ z H2, Ex G H2 → Ex H H2 → P z H2 → tFor (iList K (tC z)) g tu D σ H2) : tFor (iList K tl) g tu D σ H := h H e _ fun z H2 e2 pz => k z H2 (e.trans e2) e2 pz
theorem q_eu {xs : List V} (h : EvU te σ G xs) : EvQ te σ G (isU xs) := fun H1 e Q q => h H1 e Q fun p H2 _ e2 hp => q _ H2 e2 ⟨p, rfl, hp⟩
theorem x_par {i j : Nat} {x y : V} (e : Ex G H) (ha : Ev ta σ G x) (hb : Ev tb σ G y) (k : ∀ H1, Ex G H1 → Ex H H1 → tz D ((σ.set i (some x)).set j (some y)) H1) : tSeq (tPar i j (tCons ta (tCons tb tNil))) tz D σ H :=
  (ea_cons ha (ea_cons hb ea_nil) : EvA (tCons ta (tCons tb tNil)) σ G [x, y]) H e (fun vs H1 => ∃ v w, vs = [v, w] ∧ tz D ((σ.set i (some v)).set j (some w)) H1) fun H1 e1 => ⟨x, y, rfl, k H1 (e.trans e1) e1⟩
theorem el_comp2 {n : Nat} {Y : Nat → Hp → V → Hp → Prop} (hI : EvI wi σ G n Y) (S : Nat → L2.St) (hT : ∀ i, i < n → TgG G g Y (wipe σ vs) i (S i)) (hw : ∀ i, i < n → wipe (S i) vs = wipe σ vs) (f : Nat → Bool) (v : Nat → V)
    (ht : ∀ i, i < n → EvT t (S i) G (f i)) (he : ∀ i, i < n → f i = true → Ev te (S i) G (v i)) (hz : n ≤ 40000) : EvL (tLc wi g t te vs) σ G (given n f v) := fun H0 e Q q => hI H0 e _ fun J H1 Gd e1 w hG Dl hD =>
  lc_it w (Cw H1 f v Dl) ⟨hD, Ex.new hD, upd_same⟩ (fun i H' _ p => hG H' p.2.1) (fun i x H' H'' hi p y => by
    obtain ⟨e2, hg⟩ := hT i hi x H' H'' ((e.trans e1).trans p.2.1) y
    refine hg _ ⟨hw i hi, ?_⟩
    exact cw_turn (H := H1) ⟨p.1, p.2.1.trans e2, e2 _ _ p.2.2⟩ (by omega) ((ht i hi).mono (e.trans e1)) fun hf => (he i hi hf).mono (e.trans e1)) (fun H' p => q Dl H' (fresh_back e1 p.1) (e1.trans p.2.1) p.2.2)
end
end RS
end

section
set_option Elab.async false
set_option linter.all false
set_option maxRecDepth 100000
set_option maxHeartbeats 4000000
namespace RS
open PySem PySem.Spec PyProof.Rows L2 Evl
/-! ### a finished run -/
structure Gone (K : PySem.W.Frag) (H : Hp) (a : UA) (S : Sc) (B : Int) (sv : List (Nat × Nat × Int)) : Prop where
  R : ∃ ms s, RunA K H a S ms s ∧ s.sv = sv
  lt : ∀ q ∈ sv, q.1 < S.N
  early : ∀ q ∈ sv, q.2.2 + S.ln ≤ B
  two : ∀ c, c < S.N → c ∉ sv.map (·.1) → ∀ x, B ≤ x → S.hits c x → ∃ d, d < S.N ∧ d ∉ sv.map (·.1) ∧ d ≠ c ∧ S.hits d x
  win : ∀ w ∈ S.ws, w.2 ≤ B
  st : ∀ x ∈ S.st, x ≤ B
  nsv : sv.length ≤ S.N
theorem Gone.mono {K : PySem.W.Frag} {H H' : Hp} {a : UA} {S : Sc} {B : Int} {sv : List (Nat × Nat × Int)} (g : Gone K H a S B sv) (e : Ex H H') : Gone K H' a S B sv :=
  ⟨let ⟨ms, s, R, h⟩ := g.R; ⟨ms, s, R.mono e, h⟩, g.lt, g.early, g.two, g.win, g.st, g.nsv⟩
/-- the clients that are never served, those of them that try in a slot -/
def nv (S : Sc) (sv : List (Nat × Nat × Int)) : List Nat := (List.range S.N).filter fun c => !decide (c ∈ sv.map (·.1))
noncomputable def ht (S : Sc) (sv : List (Nat × Nat × Int)) (x : Int) : List Nat := (nv S sv).filter fun c => hitB S.gs S.n (x - S.s0 c)
theorem mem_nv {S : Sc} {sv : List (Nat × Nat × Int)} {c : Nat} : c ∈ nv S sv ↔ c < S.N ∧ c ∉ sv.map (·.1) := by
  unfold nv
  rw [List.mem_filter, List.mem_range]
  simp
theorem mem_ht {K : PySem.W.Frag} {H : Hp} {a : UA} {S : Sc} {B : Int} {sv : List (Nat × Nat × Int)} (g : Gone K H a S B sv) {c : Nat} {x : Int} : c ∈ ht S sv x ↔ c ∈ nv S sv ∧ S.hits c x := by
  obtain ⟨ms, s, R, _⟩ := g.R
  unfold ht
  rw [List.mem_filter, hitB_iff R.sc.ru.ok]
  rfl
theorem nv_nodup (S : Sc) (sv : List (Nat × Nat × Int)) : (nv S sv).Nodup := List.Pairwise.filter _ List.nodup_range
theorem nv_len (S : Sc) (sv : List (Nat × Nat × Int)) : (nv S sv).length ≤ S.N := by
  have := List.length_filter_le (fun c => !decide (c ∈ sv.map (·.1))) (List.range S.N)
  rw [List.length_range] at this
  exact this
theorem ht_len (S : Sc) (sv : List (Nat × Nat × Int)) (x : Int) : (ht S sv x).length ≤ S.N := Nat.le_trans (List.length_filter_le _ _) (nv_len S sv)
/-- nobody is alone -/
theorem ht_two {K : PySem.W.Frag} {H : Hp} {a : UA} {S : Sc} {B : Int} {sv : List (Nat × Nat × Int)} (g : Gone K H a S B sv) {x : Int} (hx : B ≤ x) (h : ht S sv x ≠ []) : 1 < (ht S sv x).length := by
  obtain ⟨c, hc⟩ := List.exists_mem_of_ne_nil _ h
  obtain ⟨h1, h2⟩ := (mem_ht g).mp hc
  obtain ⟨h3, h4⟩ := mem_nv.mp h1
  obtain ⟨d, h5, h6, h7, h8⟩ := g.two c h3 h4 x hx h2
  have hd : d ∈ ht S sv x := (mem_ht g).mpr ⟨mem_nv.mpr ⟨h5, h6⟩, h8⟩
  cases hl : ht S sv x with
  | nil => exact absurd hl h
  | cons a r =>
    cases r with
    | nil =>
      rw [hl] at hc hd
      exact absurd ((List.mem_singleton.mp hd).trans (List.mem_singleton.mp hc).symm) h7
    | cons b r' =>
      show 1 < r'.length + 1 + 1
      omega
theorem svA_none {H : Hp} {kvs : List (Key × V)} {sv : List (Nat × Nat × Int)} (h : SvA H kvs sv) {c : Nat} (hc : c ∉ sv.map (·.1)) : valV kvs (kI c) = none := valV_notin fun z hz e => by
  obtain ⟨j, hj, ez⟩ := List.mem_iff_getElem.mp hz
  have hj' : j < sv.length := by rw [← h.len]; exact hj
  obtain ⟨t, h1, _⟩ := h.at_ j sv[j] (List.getElem?_eq_getElem hj')
  rw [List.getElem?_eq_getElem hj, ez] at h1
  have h2 := Option.some.inj h1
  rw [h2] at e
  exact hc (List.mem_map.mpr ⟨_, List.getElem_mem hj', kI_inj.mp e⟩)
theorem svA_some {H : Hp} {kvs : List (Key × V)} {sv : List (Nat × Nat × Int)} (h : SvA H kvs sv) {c : Nat} (hc : c ∈ sv.map (·.1)) : ∃ t i x, valV kvs (kI c) = some (.ref t) ∧ H t = some (.tup [.int ((i : Nat) : Int), .int x]) ∧ (c, i, x) ∈ sv := by
  obtain ⟨q, hq, e⟩ := List.mem_map.mp hc
  obtain ⟨j, hj, ej⟩ := List.mem_iff_getElem.mp hq
  obtain ⟨t, h1, _⟩ := h.at_ j q (by rw [List.getElem?_eq_getElem hj, ej])
  cases hf : kvs.find? (fun kv => decide (kv.1 = kI c)) with
  | none =>
    have := List.find?_eq_none.mp hf _ (List.mem_of_getElem? h1)
    exact absurd (decide_eq_true (by show kI q.1 = kI c; rw [e])) this
  | some z =>
    have hz := List.mem_of_find?_eq_some hf
    have hk := List.find?_some hf
    obtain ⟨m, hm, ez⟩ := List.mem_iff_getElem.mp hz
    have hm' : m < sv.length := by rw [← h.len]; exact hm
    obtain ⟨t', h3, h4⟩ := h.at_ m sv[m] (List.getElem?_eq_getElem hm')
    rw [List.getElem?_eq_getElem hm, ez] at h3
    have h5 := Option.some.inj h3
    have hk' : z.1 = kI c := of_decide_eq_true hk
    rw [h5] at hk'
    have h6 := kI_inj.mp hk'
    refine ⟨t', sv[m].2.1, sv[m].2.2, ?_, h4, ?_⟩
    · unfold valV
      rw [hf, h5]
      rfl
    · rw [← h6]
      exact List.getElem_mem hm'
section
variable {P : Program} {w : World} {K : PySem.W.Frag} {mg : Str → Option Value} {base : Heap} {G : Hp} {a : UA} {S : Sc} {B : Int} {sv : List (Nat × Nat × Int)} {σ : L2.St} {ta td : TE}
def SpGone (K : PySem.W.Frag) (A : UA → Sc → Int → List (Nat × Nat × Int) → List V → VP → Prop) (k : Nat) : Sp := SpQ fun vs H R => ∃ (a : UA) (S : Sc) (B : Int) (sv : List (Nat × Nat × Int)) (us : List V), vs = .ref a.p :: us ∧ us.length = k ∧ Gone K H a S B sv ∧ A a S B sv us R
theorem SpGone.len {A : UA → Sc → Int → List (Nat × Nat × Int) → List V → VP → Prop} {k : Nat} {vs : List V} {H : Hp} {Q : VK} {E : XK} (h : SpGone K A k vs H Q E) : vs.length = k + 1 := by
  obtain ⟨_, ⟨_, _, _, _, us, rfl, hk, _⟩, _⟩ := h
  rw [List.length_cons, hk]
theorem q_gone {A : UA → Sc → Int → List (Nat × Nat × Int) → List V → VP → Prop} {k : Nat} {us : List V} {R : VP} (g : Gone K G a S B sv) (h : A a S B sv us R) (hk : us.length = k) : ∀ H1, Ex G H1 → ∃ (a' : UA) (S' : Sc) (B' : Int) (sv' : List (Nat × Nat × Int)) (us' : List V), (.ref a.p :: us) = .ref a'.p :: us' ∧ us'.length = k ∧ Gone K H1 a' S' B' sv' ∧ A a' S' B' sv' us' R := fun H1 e => ⟨a, S, B, sv, us, rfl, hk, g.mono e, h⟩
theorem eq_gone {A : UA → Sc → Int → List (Nat × Nat × Int) → List V → VP → Prop} {k : Nat} {us : List V} {R : VP} {m : Str} {E : XK} {tt : TA} (h : Ev ta σ G (.ref a.p)) (g : Gone K G a S B sv) (hl : ∀ fr, (runF a.sa.p a.sa.ra.r a.b a.ch a.ds a.dc a.dw fr).lookup m = none) (ha : EvA tt σ G us) (hA : A a S B sv us R) (hk : us.length = k) :
    EvQ (tMeth (cRun K) m (SpGone K A k) [] E ta tt) σ G R := by
  obtain ⟨ms, s, Rn, _⟩ := g.R
  exact eq_meth h Rn.o (hl _) ha fun H1 e => ⟨a, S, B, sv, us, rfl, hk, g.mono e, hA⟩
def isV (v : V) : VP := fun z _ => z = v
theorem ev_q {te : TE} {v : V} (h : EvQ te σ G (isV v)) : Ev te σ G v := fun H1 e Q q => h H1 e Q fun z H2 e2 hz => by
  cases hz
  exact q H2 e2
def sp_Run_scene (K : PySem.W.Frag) : Sp := SpGone K (fun a _ _ _ us R => us = [] ∧ R = isV (.ref a.sa.p)) 0
theorem ok_Run_scene (T : Txt K mg) : ∃ fd, CalM P w K mg base 1 (cRun K) "scene" (He.ma K (cRun K) "scene") fd ["self"] (sp_Run_scene K) := by
  obtain ⟨fd, F⟩ := T.f_Run_scene
  refine ⟨fd, T.m_Run_scene, F.ok sc_Run_scene (fun vs H Q E h => ?_) (fun cdv A outer s H vs Q E hr h => ?_), F.bindsN fun _ _ _ _ _ _ us hl => match us, hl with | [_], _ => rfl⟩
  · exact h.len
  · obtain ⟨_, ⟨a, S, B, sv, us, rfl, _, g, rfl, rfl⟩, k⟩ := h
    obtain ⟨ms, s, R, rfl⟩ := g.R
    refine ⟨_, PSs.nox (pss_one (ps_ret (pe_fld (pv 0) rfl))), ?_⟩
    exact x_ret (Ex.refl H) (e_its_scene T R.o (ev_var rfl)) fun H1 e _ => k _ H1 e rfl
def sp_Run_outcome (K : PySem.W.Frag) : Sp := SpGone K (fun _ S _ sv us R => ∃ c : Nat, us = [.int c] ∧ c < S.N ∧ R = isT fun vs => if c ∈ sv.map (·.1) then ∃ i x : Int, vs = [.str "served", .int i, .int x] else vs = [.str "never"]) 1
theorem ok_Run_outcome (T : Txt K mg) : ∃ fd, CalM P w K mg base 4 (cRun K) "outcome" (He.ma K (cRun K) "outcome") fd ["self", "client"] (sp_Run_outcome K) := by
  obtain ⟨fd_Rule_attempts, c_Rule_attempts⟩ := ok_Rule_attempts (P := P) (w := w) (base := base) T
  obtain ⟨fd_Scene_check_client, c_Scene_check_client⟩ := ok_Scene_check_client (P := P) (w := w) (base := base) T
  obtain ⟨fd, F⟩ := T.f_Run_outcome
  refine ⟨fd, T.m_Run_outcome, F.ok sc_Run_outcome (fun vs H Q E h => ?_) (fun cdv A outer s H vs Q E hr h => ?_), F.bindsN fun _ _ _ _ _ _ us hl => match us, hl with | [_, _], _ => rfl⟩
  · exact h.len
  · obtain ⟨_, ⟨a, S, B, sv, us, rfl, _, g, c, rfl, hc, rfl⟩, k⟩ := h
    obtain ⟨ms, s, R, rfl⟩ := g.R
    obtain ⟨kvs, hd, hA⟩ := R.sv
    refine ⟨_, PSs.nox (pss_cons (ps_expr (pe_meth (pe_fld (pv 0) rfl) T.c_Scene c_Scene_check_client.at_ c_Scene_check_client.ok (hr.mono (by decide)) c_Scene_check_client.b .nil pass0 (pa_cons (pv 1) pa_nil)))
      (pss_cons (ps_if (pt_cmp (pc_din (hu_of hr) (pv 1) (pe_fld (pv 0) rfl))) (pss_cons (ps_asg (pe_dget (hu_of hr) (pe_fld (pv 0) rfl) (pv 1) (fun _ _ => rfl)) (pg_tup rfl (pgs_cons (pg_name (i := 2) sc_Run_outcome.nd rfl (by first | exact Or.inl rfl | exact Or.inr rfl)) (pgs_cons (pg_name (i := 3) sc_Run_outcome.nd rfl (by first | exact Or.inl rfl | exact Or.inr rfl)) pgs_nil))))
      (pss_one (ps_ret (pe_tup (pa_cons pe_str (pa_cons (pv 2) (pa_cons (pv 3) pa_nil))))))) pss_nil)
      (pss_one (ps_ret (pe_ifExp (pt_cmpR op_isN (pe_meth0 (pe_fld (pv 0) rfl) T.c_Rule c_Rule_attempts.at_ c_Rule_attempts.ok (hr.mono (by decide)) c_Rule_attempts.b .nil pass0) pe_non (nomark _)) (pe_tup (pa_cons pe_str pa_nil)) (pe_tup (pa_cons pe_str pa_nil))))))), ?_⟩
    refine x_drop (Ex.refl H) (ev_meth (e_its_scene T R.o (ev_var rfl)) R.sc.o (by kernel_rfl) (ea_cons (ev_var rfl) ea_nil) (v_scene R.sc ⟨c, rfl, hc, rfl⟩ rfl)) fun H1 e1 _ => ?_
    by_cases hcs : c ∈ s.sv.map (·.1)
    · obtain ⟨t, i, x, h1, h2, _⟩ := svA_some hA hcs
      refine x_yes e1 (et_test (ev_is (ev_din (k := kI c) (ev_var rfl) (e_services T R.o (ev_var rfl)) hd) (by rw [h1]; rfl))) fun H2 e2 _ => ?_
      refine (ev_dget (k := kI c) (e_services T R.o (ev_var rfl)) (ev_var rfl) hd h1) H2 e2 _ fun H3 e3 => ?_
      refine g_pair (st_of ((e2.trans e3) _ _ h2)) ?_
      refine x_retQ (Ex.refl H3) (eu_isT (ea_cons ev_c (ea_cons (ev_var rfl) (ea_cons (ev_var rfl) ea_nil))) (show 3 ≤ 100000 by decide) (if_pos hcs ▸ ⟨(i : Int), x, rfl⟩)) fun z H4 e4 _ hz => k z H4 ((e2.trans e3).trans e4) hz
    · refine x_no e1 (et_test (ev_is (ev_din (k := kI c) (ev_var rfl) (e_services T R.o (ev_var rfl)) hd) (by rw [svA_none hA hcs]; rfl))) fun H2 e2 _ => ?_
      refine x_retQ e2 (eq_ifT (et_test (ev_is (ev_isN (ev_meth (e_pattern T R.o (ev_var rfl)) R.sc.ru.o (by kernel_rfl) ea_nil (v_rule R.sc.ru ⟨rfl, rfl⟩ rfl))) rfl)) (eu_isT (ea_cons ev_c ea_nil) (show 1 ≤ 100000 by decide) ?_)) fun z H4 e4 _ hz => k z H4 e4 hz
      rw [if_neg hcs]
def outP (sv : List (Nat × Nat × Int)) (c : Nat) (vs : List V) : Prop := if c ∈ sv.map (·.1) then ∃ i x : Int, vs = [.str "served", .int i, .int x] else vs = [.str "never"]
theorem q_outcome (g : Gone K G a S B sv) {c : Nat} (hc : c < S.N) : ∀ H1, Ex G H1 → ∃ (a' : UA) (S' : Sc) (B' : Int) (sv' : List (Nat × Nat × Int)) (us' : List V), (.ref a.p :: [.int (c : Int)]) = .ref a'.p :: us' ∧ us'.length = 1 ∧ Gone K H1 a' S' B' sv' ∧ ∃ c' : Nat, us' = [.int c'] ∧ c' < S'.N ∧ isT (outP sv c) = isT (outP sv' c') := fun H1 e => ⟨a, S, B, sv, [.int c], rfl, rfl, g.mono e, c, rfl, hc, rfl⟩
def sp_Run_outcomes (K : PySem.W.Frag) : Sp := SpGone K (fun _ S _ sv us R => us = [] ∧ R = isTL S.N (outP sv)) 0
theorem ok_Run_outcomes (T : Txt K mg) : ∃ fd, CalM P w K mg base 5 (cRun K) "outcomes" (He.ma K (cRun K) "outcomes") fd ["self"] (sp_Run_outcomes K) := by
  obtain ⟨fd_Run_outcome, c_Run_outcome⟩ := ok_Run_outcome (P := P) (w := w) (base := base) T
  obtain ⟨fd, F⟩ := T.f_Run_outcomes
  refine ⟨fd, T.m_Run_outcomes, F.ok sc_Run_outcomes (fun vs H Q E h => ?_) (fun cdv A outer s H vs Q E hr h => ?_), F.bindsN fun _ _ _ _ _ _ us hl => match us, hl with | [_], _ => rfl⟩
  · exact h.len
  · obtain ⟨_, ⟨a, S, B, sv, us, rfl, _, g, rfl, rfl⟩, k⟩ := h
    obtain ⟨ms, s, R, hs⟩ := g.R
    refine ⟨_, PSs.nox (pss_one (ps_ret (pe_lc (own := [("client", 1)]) rfl sc_Run_outcomes.nd (pi_range1 (by rfl) T.b_range (pa_cons (pe_callB call_len_seq (by rfl) T.b_len (by decide +kernel) (pa_cons (pe_fld (pv 0) rfl) pa_nil)) pa_nil)) (blkOk_by (own := [("client", 1)]) (N := ["self", "client"]) (sc := defScope s_Run_outcomes) (by decide +kernel)) (fun _ _ _ _ _ => (pg_name (i := 1) sc_Run_outcomes.nd rfl (by first | exact Or.inl rfl | exact Or.inr rfl))) (fun _ _ _ _ _ => pts_nil) (fun _ _ _ _ _ => (pe_meth (pv 0) T.c_Run c_Run_outcome.at_ c_Run_outcome.ok (hr.mono (by decide)) c_Run_outcome.b .nil pass0 (pa_cons (pv 1) pa_nil)))))), ?_⟩
    have h40 := R.sc.n40
    refine x_retLQ (Ex.refl H) (eq_comp (ei_range (N := S.N) (ev_is (ev_lenS (es_of (e_begins T R.o (ev_var rfl)) R.b)) (by rw [List.length_map]; rfl)) rfl (by omega)) (fun i => [some (.ref a.p), some (.int (i : Int))]) (fun i _ => Tg.toG tg_fn) (fun i _ => rfl) (outP sv) (fun i hi => eq_meth (ev_var rfl) R.o (by kernel_rfl) (ea_cons (ev_var rfl) ea_nil) (q_outcome g hi)) (by omega)) fun p H1 xs e1 _ _ hx h1 => k _ H1 e1 ⟨p, xs, rfl, h1, hx⟩
def ordP (sv : List (Nat × Nat × Int)) (us : List V) : Prop := ∃ q ∈ sv, us = [.int q.2.2, .int (q.1 : Int)]
def sp_Run_order (K : PySem.W.Frag) : Sp := SpGone K (fun _ _ _ sv us R => us = [] ∧ R = isTL sv.length fun _ => ordP sv) 0
theorem ok_Run_order (T : Txt K mg) : ∃ fd, CalM P w K mg base 1 (cRun K) "order" (He.ma K (cRun K) "order") fd ["self"] (sp_Run_order K) := by
  obtain ⟨fd, F⟩ := T.f_Run_order
  refine ⟨fd, T.m_Run_order, F.ok sc_Run_order (fun vs H Q E h => ?_) (fun cdv A outer s H vs Q E hr h => ?_), F.bindsN fun _ _ _ _ _ _ us hl => match us, hl with | [_], _ => rfl⟩
  · exact h.len
  · obtain ⟨_, ⟨a, S, B, sv, us, rfl, _, g, rfl, rfl⟩, k⟩ := h
    obtain ⟨ms, s, R, rfl⟩ := g.R
    obtain ⟨kvs, hd, hA⟩ := R.sv
    refine ⟨_, PSs.nox (pss_one (ps_ret (pe_callB cr_sortedP (by rfl) T.b_sorted (by decide +kernel) (pa_cons (pe_lock (pe_lc (own := [("client", 1), ("attempt", 2), ("slot", 3)]) rfl sc_Run_order.nd (pi_items (pe_fld (pv 0) rfl)) (blkOk_by (own := [("client", 1), ("attempt", 2), ("slot", 3)]) (N := ["self", "client", "attempt", "slot"]) (sc := defScope s_Run_order) (by decide +kernel)) (fun _ _ _ _ _ => (pg_tupK K 2 rfl (pgs_cons (pg_name (i := 1) sc_Run_order.nd rfl (by first | exact Or.inl rfl | exact Or.inr rfl)) (pgs_cons (pg_tupK K 2 rfl (pgs_cons (pg_name (i := 2) sc_Run_order.nd rfl (by first | exact Or.inl rfl | exact Or.inr rfl)) (pgs_cons (pg_name (i := 3) sc_Run_order.nd rfl (by first | exact Or.inl rfl | exact Or.inr rfl)) pgs_nil))) pgs_nil)))) (fun _ _ _ _ _ => pts_nil) (fun _ _ _ _ _ => (pe_tup (pa_cons (pv 3) (pa_cons (pv 1) pa_nil)))))) pa_nil)))), ?_⟩
    have h40 := R.sc.n40
    have hns := g.nsv
    have hlen := hA.len
    refine x_retLQ (Ex.refl H) (elq_sorted (P := fun i us => ∃ q, s.sv[i]? = some q ∧ us = [.int q.2.2, .int (q.1 : Int)]) (A := ordP s.sv) (elq_lock hd fun od => ?_) fun i us _ ⟨q, hq, e⟩ => ⟨q.2.2, (q.1 : Int), e, q, List.mem_of_getElem? hq, e⟩) fun p H1 xs e1 _ _ hx h1 => k _ H1 e1 ⟨p, xs, rfl, h1, hx⟩
    have Wk := R.walk hd (.frz od (.dK kvs))
    rw [← hlen]
    have hA' : SvA (upd H a.ds (.frz od (.dK kvs))) kvs s.sv := hA.nk (NK.updO (Ex.refl H) hd)
    have get : ∀ i, i < kvs.length → ∃ t, kvs[i]? = some (kI (s.sv.getD i (0, 0, 0)).1, .ref t) ∧ s.sv[i]? = some (s.sv.getD i (0, 0, 0)) ∧ upd H a.ds (.frz od (.dK kvs)) t = some (.tup [.int ((s.sv.getD i (0, 0, 0)).2.1 : Int), .int (s.sv.getD i (0, 0, 0)).2.2]) := fun i hi => by
      have hi' : i < s.sv.length := by omega
      have hq : s.sv[i]? = some (s.sv.getD i (0, 0, 0)) := by
        rw [List.getD_eq_getElem?_getD, List.getElem?_eq_getElem hi']
        rfl
      obtain ⟨t, h1, h2⟩ := hA'.at_ i _ hq
      exact ⟨t, h1, hq, h2⟩
    refine eq_comp (ei_items (e_services T Wk.o (ev_var rfl)) upd_same) (fun i => [some (.ref a.p), some (.int ((s.sv.getD i (0, 0, 0)).1 : Int)), some (.int ((s.sv.getD i (0, 0, 0)).2.1 : Int)), some (.int (s.sv.getD i (0, 0, 0)).2.2)]) (fun i hi => ?_) (fun i _ => rfl) _ (fun i hi => ?_) (by omega)
    · obtain ⟨t, h1, h2, h3⟩ := get i hi
      intro z H' H'' e hy
      obtain ⟨Tt, x, y, rfl, hT, rfl, ha, hb⟩ := hy
      have ha : (kvs[i]?).map (fun kv => kV kv.1) = some x := ha
      have hb : (kvs[i]?).map Prod.snd = some y := hb
      rw [h1] at ha hb
      cases ha
      cases hb
      exact ⟨Ex.new hT, fun Kk q => ⟨Tt, _, rfl, st_of upd_same, rfl, _, _, rfl, _, _, rfl, ⟨t, _, rfl, st_of (Ex.new hT _ _ (e _ _ h3)), rfl, _, _, rfl, _, _, rfl, rfl, rfl, q⟩⟩⟩
    · obtain ⟨t, h1, h2, h3⟩ := get i hi
      exact eu_isT (ea_cons (ev_var rfl) (ea_cons (ev_var rfl) ea_nil)) (show 2 ≤ 100000 by decide) ⟨_, h2, rfl⟩
def sp_Run_is_active (K : PySem.W.Frag) : Sp := SpGone K (fun _ S B sv us R => ∃ (c : Nat) (x : Int), us = [.int c, .int x] ∧ c < S.N ∧ B ≤ x ∧ R = isV (.bl (!decide (c ∈ sv.map (·.1))))) 2
theorem ok_Run_is_active (T : Txt K mg) : ∃ fd, CalM P w K mg base 4 (cRun K) "is_active" (He.ma K (cRun K) "is_active") fd ["self", "client", "slot"] (sp_Run_is_active K) := by
  obtain ⟨fd_Rule_first_from, c_Rule_first_from⟩ := ok_Rule_first_from (P := P) (w := w) (base := base) T
  obtain ⟨fd, F⟩ := T.f_Run_is_active
  refine ⟨fd, T.m_Run_is_active, F.ok sc_Run_is_active (fun vs H Q E h => ?_) (fun cdv A outer s H vs Q E hr h => ?_), F.bindsN fun _ _ _ _ _ _ us hl => match us, hl with | [_, _, _], _ => rfl⟩
  · exact h.len
  · obtain ⟨_, ⟨a, S, B, sv, us, rfl, _, g, c, x, rfl, hc, hx, rfl⟩, k⟩ := h
    obtain ⟨ms, s, R, rfl⟩ := g.R
    obtain ⟨kvs, hd, hA⟩ := R.sv
    refine ⟨_, PSs.nox (pss_cons (ps_if (PW.pt (pw_or (pt_cmpR op_gt (pe_ix ix_list (pe_fld (pv 0) rfl) (pv 1) (fun _ _ => rfl)) (pv 2) (nomark _)) (pw_or1 (PW.pt (pw_and (pt_cmp (pc_din (hu_of hr) (pv 1) (pe_fld (pv 0) rfl))) (pw_and1 (pt_cmpR op_lt (pe_ix ix_tup (pe_dget (hu_of hr) (pe_fld (pv 0) rfl) (pv 1) (fun _ _ => rfl)) pe_int (fun _ _ => rfl)) (pv 2) (nomark _)))))))) (pss_one (ps_ret pe_bl)) pss_nil)
      (pss_one (ps_ret (pe_cmpR op_notN (pe_meth (pe_fld (pv 0) rfl) T.c_Rule c_Rule_first_from.at_ c_Rule_first_from.ok (hr.mono (by decide)) c_Rule_first_from.b .nil pass0 (pa_cons (pe_op op_sub (pv 2) (pe_ix ix_list (pe_fld (pv 0) rfl) (pv 1) (fun _ _ => rfl))) pa_nil)) pe_non (nomark _))))), ?_⟩
    have hst := g.st _ (s0_mem hc)
    have hln := R.sc.ln1
    have e1 : Ev (tOp (rIxL K) (tFld K (tVar 0) "begins") (tVar 1)) [some (.ref a.p), some (.int (c : Int)), some (.int x)] H (.int (S.s0 c)) := e_begin T R.o R.b (ev_var rfl) hc (ev_var rfl)
    by_cases hcs : c ∈ s.sv.map (·.1)
    · obtain ⟨t, i, y, h1, h2, h3⟩ := svA_some hA hcs
      have hy := g.early _ h3
      refine x_yes (Ex.refl H) (et_or (a := false) (b := true) (et_test (ev_op e1 (ev_var rfl) (rv_B (decide_eq_false (by omega))))) fun _ => et_and (a := true) (b := true) (et_test (ev_is (ev_din (k := kI c) (ev_var rfl) (e_services T R.o (ev_var rfl)) hd) (by rw [h1]; rfl))) fun _ => et_test (ev_op (ev_ixU (esu_of (ev_dget (k := kI c) (e_services T R.o (ev_var rfl)) (ev_var rfl) hd h1) h2) ev_c rfl) (ev_var rfl) (rv_B (decide_eq_true (show y < x by have : y + S.ln ≤ B := hy; omega))))) fun H2 e2 _ => ?_
      refine x_ret e2 ev_c fun H3 e3 _ => k _ H3 e3 ?_
      rw [decide_eq_true hcs]
      rfl
    · refine x_no (Ex.refl H) (et_or (a := false) (b := false) (et_test (ev_op e1 (ev_var rfl) (rv_B (decide_eq_false (by omega))))) fun _ => et_andF (et_test (ev_is (ev_din (k := kI c) (ev_var rfl) (e_services T R.o (ev_var rfl)) hd) (by rw [svA_none hA hcs]; rfl)))) fun H2 e2 _ => ?_
      refine x_ret e2 (ev_notN (ev_meth (e_pattern T R.o (ev_var rfl)) R.sc.ru.o (by kernel_rfl) (ea_cons (ev_op (ev_var rfl) e1 rv_I0) ea_nil) (v_first_from R.sc.ru _))) fun H3 e3 _ => k _ H3 e3 ?_
      rw [decide_eq_false hcs]
      rfl
def sp_Run_active (K : PySem.W.Frag) : Sp := SpGone K (fun _ S B sv us R => ∃ x : Int, us = [.int x] ∧ B ≤ x ∧ R = isL (nV (nv S sv))) 1
theorem ok_Run_active (T : Txt K mg) : ∃ fd, CalM P w K mg base 5 (cRun K) "active" (He.ma K (cRun K) "active") fd ["self", "slot"] (sp_Run_active K) := by
  obtain ⟨fd_Run_is_active, c_Run_is_active⟩ := ok_Run_is_active (P := P) (w := w) (base := base) T
  obtain ⟨fd_is_integer, c_is_integer⟩ := ok_is_integer (P := P) (w := w) (base := base) T
  obtain ⟨fd, F⟩ := T.f_Run_active
  refine ⟨fd, T.m_Run_active, F.ok sc_Run_active (fun vs H Q E h => ?_) (fun cdv A outer s H vs Q E hr h => ?_), F.bindsN fun _ _ _ _ _ _ us hl => match us, hl with | [_, _], _ => rfl⟩
  · exact h.len
  · obtain ⟨_, ⟨a, S, B, sv, us, rfl, _, g, x, rfl, hx, rfl⟩, k⟩ := h
    obtain ⟨ms, s, R, hs⟩ := g.R
    refine ⟨_, PSs.nox (pss_cons (ps_if (pt_not (pt_val (pe_call c_is_integer.ok (hr.mono (by decide)) (by rfl) c_is_integer.gl c_is_integer.kp c_is_integer.b .nil pass0 (pa_cons (pv 1) pa_nil)))) (pss_one ps_never) pss_nil)
      (pss_one (ps_ret (pe_lc (own := [("client", 2)]) rfl sc_Run_active.nd (pi_range1 (by rfl) T.b_range (pa_cons (pe_callB call_len_seq (by rfl) T.b_len (by decide +kernel) (pa_cons (pe_fld (pv 0) rfl) pa_nil)) pa_nil)) (blkOk_by (own := [("client", 2)]) (N := ["self", "slot", "client"]) (sc := defScope s_Run_active) (by decide +kernel)) (fun _ _ _ _ _ => (pg_name (i := 2) sc_Run_active.nd rfl (by first | exact Or.inl rfl | exact Or.inr rfl))) (fun _ _ _ _ _ => (pts_one (pt_val (pe_meth (pv 0) T.c_Run c_Run_is_active.at_ c_Run_is_active.ok (hr.mono (by decide)) c_Run_is_active.b .nil pass0 (pa_cons (pv 2) (pa_cons (pv 1) pa_nil)))))) (fun _ _ _ _ _ => (pv 2)))))), ?_⟩
    have h40 := R.sc.n40
    refine x_no (Ex.refl H) (et_not (a := true) (et_B (ev_fn (ea_cons (ev_var rfl) ea_nil) (v_is_integer _)))) fun H1 e1 _ => ?_
    refine x_retL e1 (el_comp (ei_range (N := S.N) (ev_is (ev_lenS (es_of (e_begins T R.o (ev_var rfl)) R.b)) (by rw [List.length_map]; rfl)) rfl (by omega)) (fun i => [some (.ref a.p), some (.int x), some (.int (i : Int))]) (fun i _ => tg_fn) (fun i _ => rfl) (fun c : Nat => !decide (c ∈ sv.map fun q : Nat × Nat × Int => q.1)) (fun i => V.int (i : Int)) (fun i hi => et_B (ev_q (eq_gone (ev_var rfl) g (fun _ => by kernel_rfl) (ea_cons (ev_var rfl) (ea_cons (ev_var rfl) ea_nil)) ⟨i, x, rfl, hi, hx, rfl⟩ rfl))) (fun i _ _ => ev_var rfl) (by omega)) fun p H2 e2 _ _ h2 => k _ H2 e2 ⟨p, rfl, h2⟩
def sp_Run_attempting (K : PySem.W.Frag) : Sp := SpGone K (fun _ S B sv us R => ∃ x : Int, us = [.int x] ∧ B ≤ x ∧ R = isL (nV (ht S sv x))) 1
theorem ok_Run_attempting (T : Txt K mg) : ∃ fd, CalM P w K mg base 6 (cRun K) "attempting" (He.ma K (cRun K) "attempting") fd ["self", "slot"] (sp_Run_attempting K) := by
  obtain ⟨fd_Run_active, c_Run_active⟩ := ok_Run_active (P := P) (w := w) (base := base) T
  obtain ⟨fd_Scene_attempt_in, c_Scene_attempt_in⟩ := ok_Scene_attempt_in (P := P) (w := w) (base := base) T
  obtain ⟨fd, F⟩ := T.f_Run_attempting
  refine ⟨fd, T.m_Run_attempting, F.ok sc_Run_attempting (fun vs H Q E h => ?_) (fun cdv A outer s H vs Q E hr h => ?_), F.bindsN fun _ _ _ _ _ _ us hl => match us, hl with | [_, _], _ => rfl⟩
  · exact h.len
  · obtain ⟨_, ⟨a, S, B, sv, us, rfl, _, g, x, rfl, hx, rfl⟩, k⟩ := h
    obtain ⟨ms, s, R, hs⟩ := g.R
    refine ⟨_, PSs.nox (pss_one (ps_ret (pe_lc (own := [("client", 2)]) rfl sc_Run_attempting.nd (pi_list (pe_meth (pv 0) T.c_Run c_Run_active.at_ c_Run_active.ok (hr.mono (by decide)) c_Run_active.b .nil pass0 (pa_cons (pv 1) pa_nil))) (blkOk_by (own := [("client", 2)]) (N := ["self", "slot", "client"]) (sc := defScope s_Run_attempting) (by decide +kernel)) (fun _ _ _ _ _ => (pg_name (i := 2) sc_Run_attempting.nd rfl (by first | exact Or.inl rfl | exact Or.inr rfl))) (fun _ _ _ _ _ => (pts_one (pt_cmpR op_notN (pe_meth (pe_fldK K (pv 0) rfl) T.c_Scene c_Scene_attempt_in.at_ c_Scene_attempt_in.ok (hr.mono (by decide)) c_Scene_attempt_in.b .nil pass0 (pa_cons (pv 2) (pa_cons (pv 1) pa_nil))) pe_non (nomark _)))) (fun _ _ _ _ _ => (pv 2))))), ?_⟩
    have h40 := R.sc.n40
    have hnl := nv_len S sv
    refine x_retL (Ex.refl H) (el_map (0 : Nat) (es_q (eq_gone (ev_var rfl) g (fun _ => by kernel_rfl) (ea_cons (ev_var rfl) ea_nil) ⟨x, rfl, hx, rfl⟩ rfl)) rfl (fun c => hitB S.gs S.n (x - S.s0 c)) (fun c => V.int (c : Int)) (fun _ => rfl) (fun c hc => et_is (et_test (ev_notN (ev_meth (e_its_scene T R.o (ev_var rfl)) R.sc.o (by kernel_rfl) (ea_cons (ev_var rfl) (ea_cons (ev_var rfl) ea_nil)) (v_scene R.sc ⟨c, x, rfl, (mem_nv.mp hc).1, rfl⟩ rfl : SpV (sp_Scene_attempt_in K) _ _ _)))) (by rw [atV_non, Bool.not_not])) (fun c _ _ => ev_var rfl) (by omega)) fun p H2 e2 _ _ h2 => k _ H2 e2 ⟨p, rfl, h2⟩
def sp_Run_busy_with (K : PySem.W.Frag) : Sp := SpGone K (fun _ S B sv us R => ∃ x : Int, us = [.int x] ∧ B ≤ x ∧ R = isV .non) 1
theorem ok_Run_busy_with (T : Txt K mg) : ∃ fd, CalM P w K mg base 2 (cRun K) "busy_with" (He.ma K (cRun K) "busy_with") fd ["self", "slot"] (sp_Run_busy_with K) := by
  obtain ⟨fd_Run_order, c_Run_order⟩ := ok_Run_order (P := P) (w := w) (base := base) T
  obtain ⟨fd_Scene_length, c_Scene_length⟩ := ok_Scene_length (P := P) (w := w) (base := base) T
  obtain ⟨fd, F⟩ := T.f_Run_busy_with
  refine ⟨fd, T.m_Run_busy_with, F.ok sc_Run_busy_with (fun vs H Q E h => ?_) (fun cdv A outer s H vs Q E hr h => ?_), F.bindsN fun _ _ _ _ _ _ us hl => match us, hl with | [_, _], _ => rfl⟩
  · exact h.len
  · obtain ⟨_, ⟨a, S, B, sv, us, rfl, _, g, x, rfl, hx, rfl⟩, k⟩ := h
    obtain ⟨ms, s, R, hs⟩ := g.R
    refine ⟨_, PSs.nox (pss_cons (ps_set (i := 2) sc_Run_busy_with.nd rfl (by first | exact Or.inl rfl | exact Or.inr rfl) (pe_meth0 (pe_fld (pv 0) rfl) T.c_Scene c_Scene_length.at_ c_Scene_length.ok (hr.mono (by decide)) c_Scene_length.b .nil pass0))
      (pss_one (ps_ret (pe_ix ix_list (pe_op op_cat (pe_lc (own := [("begin", 3), ("client", 4)]) rfl sc_Run_busy_with.nd (pi_list (pe_meth0 (pv 0) T.c_Run c_Run_order.at_ c_Run_order.ok (hr.mono (by decide)) c_Run_order.b .nil pass0)) (blkOk_by (own := [("begin", 3), ("client", 4)]) (N := ["self", "slot", "length", "begin", "client"]) (sc := defScope s_Run_busy_with) (by decide +kernel)) (fun _ _ _ _ _ => (pg_tupK K 2 rfl (pgs_cons (pg_name (i := 3) sc_Run_busy_with.nd rfl (by first | exact Or.inl rfl | exact Or.inr rfl)) (pgs_cons (pg_name (i := 4) sc_Run_busy_with.nd rfl (by first | exact Or.inl rfl | exact Or.inr rfl)) pgs_nil)))) (fun _ _ _ _ _ => (pts_one (pt_chain op_lt op_lt (pv 3) (pv 1) (pe_op op_add (pv 3) (pv 2))))) (fun _ _ _ _ _ => (pv 4))) (pe_lst (pa_cons pe_non pa_nil))) pe_int (fun _ _ => rfl))))), ?_⟩
    have h40 := R.sc.n40
    have hns := g.nsv
    refine x_asg (Ex.refl H) (ev_meth (e_its_scene T R.o (ev_var rfl)) R.sc.o (by kernel_rfl) ea_nil (v_scene R.sc ⟨rfl, rfl⟩ rfl : SpV (sp_Scene_length K) _ _ _)) fun H1 e1 _ => ?_
    refine x_ret e1 (ev_ixS (es_new (el_cat (xs := []) (ys := [.non]) (es_new (lc_split (eq_gone (ev_var rfl) g (fun _ => by kernel_rfl) ea_nil ⟨rfl, rfl⟩ rfl) fun z H2 e2 hz => ?_)) (es_new (el_lst (ea_cons ev_c ea_nil) (show 1 ≤ 100000 by decide))) (by decide))) ev_c rfl) fun H2 e2 _ => k _ H2 e2 rfl
    obtain ⟨p, xs, rfl, hp, hx'⟩ := hz
    have hlen := hx'.1
    have hg : ∀ i, ∃ uv : V × V, i < xs.length → ∃ t, xs[i]? = some (.ref t) ∧ H2 t = some (.tup [uv.1, uv.2]) ∧ ordP sv [uv.1, uv.2] := fun i => by
      by_cases hi : i < xs.length
      · obtain ⟨t, us, h1, h2, h3⟩ := hx'.2 i _ (List.getElem?_eq_getElem hi)
        obtain ⟨q, hq, rfl⟩ := h3
        exact ⟨(_, _), fun _ => ⟨t, by rw [List.getElem?_eq_getElem hi, h1], h2, q, hq, rfl⟩⟩
      · exact ⟨(.non, .non), fun h => absurd h hi⟩
    have hf := fun i => (hg i).choose_spec
    refine el_is (el_comp2 (ei_list (es_of ev_c hp)) (fun i => [some (.ref a.p), some (.int x), some (.int S.ln), some (hg i).choose.1, some (hg i).choose.2]) (fun i hi => ?_) (fun i hi => rfl) (fun _ => false) (fun _ => .non) (fun i hi => ?_) (fun i hi q => nomatch q) (by omega)) (by unfold given; simp)
    · obtain ⟨t, h1, h2, _⟩ := hf i hi
      intro y H' H'' e hy
      obtain ⟨rfl, hy⟩ := hy
      rw [h1] at hy
      cases hy
      exact ⟨Ex.refl _, fun Kk q => ⟨t, _, rfl, st_of (e _ _ h2), rfl, _, _, rfl, _, _, rfl, rfl, q⟩⟩
    · obtain ⟨t, h1, h2, q, hq, h3⟩ := hf i hi
      have hq2 := g.early q hq
      have h4 : (hg i).choose.1 = .int q.2.2 := by
        injection h3
      exact et_test (ev_is (ev_chain (k := decide (q.2.2 < x)) (k' := decide (x < q.2.2 + S.ln)) (ev_is (ev_var rfl) h4) (ev_var rfl) rv_I0 (fun _ => ev_op (ev_is (ev_var rfl) h4) (ev_var rfl) rv_I0) (fun _ => rv_I0)) (by rw [decide_eq_false (show ¬ x < q.2.2 + S.ln by omega), Bool.and_false]))
def isMet (l : List Nat) : VP := fun z H => ∃ p q, z = .ref p ∧ H p = some (.tup [.str "met", .ref q]) ∧ H q = some (.lst (nV l))
def isEv (l : List Nat) : VP := fun z H => if l = [] then isU [.str "idle"] z H else isMet l z H
def sp_Run_event (K : PySem.W.Frag) : Sp := SpGone K (fun _ S B sv us R => ∃ x : Int, us = [.int x] ∧ B ≤ x ∧ R = isEv (ht S sv x)) 1
theorem ok_Run_event (T : Txt K mg) : ∃ fd, CalM P w K mg base 7 (cRun K) "event" (He.ma K (cRun K) "event") fd ["self", "slot"] (sp_Run_event K) := by
  obtain ⟨fd_Run_attempting, c_Run_attempting⟩ := ok_Run_attempting (P := P) (w := w) (base := base) T
  obtain ⟨fd_Run_busy_with, c_Run_busy_with⟩ := ok_Run_busy_with (P := P) (w := w) (base := base) T
  obtain ⟨fd_Scene_outage_at, c_Scene_outage_at⟩ := ok_Scene_outage_at (P := P) (w := w) (base := base) T
  obtain ⟨fd, F⟩ := T.f_Run_event
  refine ⟨fd, T.m_Run_event, F.ok sc_Run_event (fun vs H Q E h => ?_) (fun cdv A outer s H vs Q E hr h => ?_), F.bindsN fun _ _ _ _ _ _ us hl => match us, hl with | [_, _], _ => rfl⟩
  · exact h.len
  · obtain ⟨_, ⟨a, S, B, sv, us, rfl, _, g, x, rfl, hx, rfl⟩, k⟩ := h
    obtain ⟨ms, s, R, hs⟩ := g.R
    refine ⟨_, PSs.nox (pss_cons (ps_set (i := 2) sc_Run_event.nd rfl (by first | exact Or.inl rfl | exact Or.inr rfl) (pe_meth (pv 0) T.c_Run c_Run_attempting.at_ c_Run_attempting.ok (hr.mono (by decide)) c_Run_attempting.b .nil pass0 (pa_cons (pv 1) pa_nil)))
      (pss_cons (ps_par (i := 3) (j := 4) (by rfl) sc_Run_event.nd rfl rfl (by decide) rfl rfl (pa_cons (pe_meth (pe_fld (pv 0) rfl) T.c_Scene c_Scene_outage_at.at_ c_Scene_outage_at.ok (hr.mono (by decide)) c_Scene_outage_at.b .nil pass0 (pa_cons (pv 1) pa_nil)) (pa_cons (pe_meth (pv 0) T.c_Run c_Run_busy_with.at_ c_Run_busy_with.ok (hr.mono (by decide)) c_Run_busy_with.b .nil pass0 (pa_cons (pv 1) pa_nil)) pa_nil)) (by rfl))
      (pss_cons (ps_if (pt_cmpR op_notN (pv 3) pe_non (nomark _)) (pss_one (ps_ret (pe_tup (pa_cons pe_str (pa_cons (pv 3) (pa_cons (pv 2) pa_nil)))))) pss_nil)
      (pss_cons (ps_if (pt_cmpR op_notN (pv 4) pe_non (nomark _)) (pss_one (ps_ret (pe_tup (pa_cons pe_str (pa_cons (pv 4) (pa_cons (pv 2) pa_nil)))))) pss_nil)
      (pss_cons (ps_if (pt_cmpR op_gt (pe_callB call_len_seq (by rfl) T.b_len (by decide +kernel) (pa_cons (pv 2) pa_nil)) pe_int (nomark _)) (pss_one (ps_ret (pe_tup (pa_cons pe_str (pa_cons (pv 2) pa_nil))))) pss_nil)
      (pss_one (ps_ret (pe_ifExp (pt_cmpR (op_neD hr.units) (pv 2) (pe_lst pa_nil) (nomark _)) (pe_tup (pa_cons pe_str (pa_cons (pe_ix ix_list (pv 2) pe_int (fun _ _ => rfl)) pa_nil))) (pe_tup (pa_cons pe_str pa_nil)))))))))), ?_⟩
    refine x_asgQ (Ex.refl H) (eq_gone (ev_var rfl) g (fun _ => by kernel_rfl) (ea_cons (ev_var rfl) ea_nil) ⟨x, rfl, hx, rfl⟩ rfl) fun z H1 e1 _ hz => ?_
    obtain ⟨pc, rfl, hpc⟩ := hz
    have hw : ¬ S.inW x := fun ⟨w, hw, h1, h2⟩ => by
      have := g.win w hw
      omega
    refine x_par e1 (ev_is (ev_meth (e_its_scene T R.o (ev_var rfl)) R.sc.o (by kernel_rfl) (ea_cons (ev_var rfl) ea_nil) (v_outage_at R.sc x)) (outV_none hw)) (ev_q (eq_gone (ev_var rfl) g (fun _ => by kernel_rfl) (ea_cons (ev_var rfl) ea_nil) ⟨x, rfl, hx, rfl⟩ rfl)) fun H2 e2 e2' => ?_
    have hp2 := e2' _ _ hpc
    refine x_no e2 (et_test (ev_is (ev_notN (ev_var rfl)) rfl)) fun H3 e3 e3' => ?_
    refine x_no e3 (et_test (ev_is (ev_notN (ev_var rfl)) rfl)) fun H4 e4 e4' => ?_
    have hp4 := e4' _ _ (e3' _ _ hp2)
    by_cases hn : ht S sv x = []
    · rw [hn] at hp4
      refine x_no (Ex.refl H4) (et_test (ev_op (ev_lenS (es_of (ev_var rfl) hp4)) ev_c (rv_B rfl))) fun H5 e5 _ => ?_
      refine x_retQ e5 (eq_ifF (et_test (ev_is (ev_neNil (K := K) (l := []) (es_of (ev_var rfl) hp4)) rfl)) (q_eu (eu_tup (ea_cons ev_c ea_nil) (show 1 ≤ 100000 by decide)))) fun z H6 e6 _ hz => k z H6 (e4.trans e6) ?_
      unfold isEv
      rw [if_pos hn]
      exact hz
    · have h2 := ht_two g hx hn
      refine x_yes (Ex.refl H4) (et_test (ev_op (ev_lenS (es_of (ev_var rfl) hp4)) ev_c (rv_B (decide_eq_true (by unfold nV; rw [List.length_map]; omega))))) fun H5 e5 _ => ?_
      refine x_retU e5 (eu_tup (ea_cons ev_c (ea_cons (ev_var rfl) ea_nil)) (show 2 ≤ 100000 by decide)) fun p H6 e6 _ _ h6 => k _ H6 (e4.trans e6) ?_
      unfold isEv
      rw [if_neg hn]
      exact ⟨p, pc, rfl, h6, e6 _ _ hp4⟩
end
end RS
end

section
set_option Elab.async false
set_option linter.all false
set_option maxRecDepth 100000
set_option maxHeartbeats 4000000
namespace RS
open PySem PySem.Spec PyProof.Rows L2 Evl
section
variable {P : Program} {w : World} {K : PySem.W.Frag} {mg : Str → Option Value} {base : Heap} {G H : Hp} {a : UA} {S : Sc} {B : Int} {sv : List (Nat × Nat × Int)} {σ : L2.St} {ta td te tb : TE} {Dn : Ends} {tz tu : TS}
theorem eq_gfn {A : UA → Sc → Int → List (Nat × Nat × Int) → List V → VP → Prop} {k : Nat} {us : List V} {R : VP} {E : XK} {tt : TA} (ha : EvA tt σ G (.ref a.p :: us)) (g : Gone K G a S B sv) (hA : A a S B sv us R) (hk : us.length = k) :
    EvQ (tCall (SpGone K A k) [] E tt) σ G R := eq_fn ha fun H1 e => ⟨a, S, B, sv, us, rfl, hk, g.mono e, hA⟩
theorem eq_met {l : List Nat} (h : EvL te σ G (nV l)) : EvQ (tTup (tCons (tC (.str "met")) (tCons te tNil))) σ G (isMet l) := fun H1 e Q q =>
  h H1 e (fun v H2 => _ ∧ _) fun p H2 hp e2 h2 => ⟨(show 2 ≤ sizeLine by decide), fun t ht => q _ _ (e2.trans (Ex.new ht)) ⟨t, p, rfl, upd_same, Ex.new ht _ _ h2⟩⟩
theorem isi_run (T : Txt K mg) (g : Gone K G a S B sv) (h : Ev ta σ G (.ref a.p)) (h' : Ev tb σ G (.ref (cRun K))) : Ev (tCB (rIsi K) (tCons ta (tCons tb tNil))) σ G (.bl true) := by
  obtain ⟨ms, s, R, _⟩ := g.R
  exact ev_isi (b := true) h h' (.own _) (fun _ e => ty_own T.inst.2.2 T.c_Run (e _ _ R.o)) (kit_self _)
def sp_check_run (K : PySem.W.Frag) : Sp := SpGone K (fun _ _ _ _ us R => us = [] ∧ R = isV .non) 0
theorem ok_check_run (T : Txt K mg) : ∃ fd, CalG P w K mg base 1 "check_run" (He.ga K "check_run") fd ["run"] (sp_check_run K) := by
  obtain ⟨fd, F⟩ := T.f_check_run
  refine ⟨fd, T.g_check_run, F.kp, F.ok sc_check_run (fun vs H Q E h => ?_) (fun cdv A outer s H vs Q E hr h => ?_), F.bindsN fun _ _ _ _ _ _ us hl => match us, hl with | [_], _ => rfl⟩
  · exact h.len
  · obtain ⟨_, ⟨a, S, B, sv, us, rfl, _, g, rfl, rfl⟩, k⟩ := h
    refine ⟨_, PSs.nox (pss_one (ps_if (pt_not (pt_val (pe_callB call_isi (by rfl) T.b_isinstance (by decide +kernel) (pa_cons (pv 0) (pa_cons (pe_glob (v := .ref (cRun K)) (by rfl) T.g_Run rfl) pa_nil))))) (pss_one ps_never) pss_nil)), ?_⟩
    exact x_noL (Ex.refl H) (et_not (a := true) (et_B (isi_run T g (ev_var rfl) ev_c))) fun H1 e _ => k _ H1 e rfl
def sp_attempts_made (K : PySem.W.Frag) : Sp := SpGone K (fun _ _ _ sv us R => ∃ c : Nat, us = [.int c] ∧ c ∉ sv.map (·.1) ∧ R = isV .non) 1
theorem ok_attempts_made (T : Txt K mg) : ∃ fd, CalG P w K mg base 2 "attempts_made" (He.ga K "attempts_made") fd ["run", "client"] (sp_attempts_made K) := by
  obtain ⟨fd_Rule_attempts, c_Rule_attempts⟩ := ok_Rule_attempts (P := P) (w := w) (base := base) T
  obtain ⟨fd, F⟩ := T.f_attempts_made
  refine ⟨fd, T.g_attempts_made, F.kp, F.ok sc_attempts_made (fun vs H Q E h => ?_) (fun cdv A outer s H vs Q E hr h => ?_), F.bindsN fun _ _ _ _ _ _ us hl => match us, hl with | [_, _], _ => rfl⟩
  · exact h.len
  · obtain ⟨_, ⟨a, S, B, sv, us, rfl, _, g, c, rfl, hc, rfl⟩, k⟩ := h
    obtain ⟨ms, s, R, rfl⟩ := g.R
    obtain ⟨kvs, hd, hA⟩ := R.sv
    refine ⟨_, PSs.nox (pss_cons (ps_if (pt_cmp (pc_din (hu_of hr) (pv 1) (pe_fld (pv 0) rfl))) (pss_one (ps_ret (pe_op op_add (pe_ix ix_tup (pe_dget (hu_of hr) (pe_fld (pv 0) rfl) (pv 1) (fun _ _ => rfl)) pe_int (fun _ _ => rfl)) pe_int))) pss_nil)
      (pss_one (ps_ret (pe_meth0 (pe_fld (pv 0) rfl) T.c_Rule c_Rule_attempts.at_ c_Rule_attempts.ok (hr.mono (by decide)) c_Rule_attempts.b .nil pass0)))), ?_⟩
    refine x_no (Ex.refl H) (et_test (ev_is (ev_din (k := kI c) (ev_var rfl) (e_services T R.o (ev_var rfl)) hd) (by rw [svA_none hA hc]; rfl))) fun H1 e1 _ => ?_
    exact x_ret e1 (ev_meth (e_pattern T R.o (ev_var rfl)) R.sc.ru.o (by kernel_rfl) ea_nil (v_rule R.sc.ru ⟨rfl, rfl⟩ rfl)) fun H2 e2 _ => k _ H2 e2 rfl
noncomputable def othersOf (S : Sc) (sv : List (Nat × Nat × Int)) (c : Nat) (x : Int) : List Nat := (ht S sv x).filter fun o => !decide (o = c)
theorem others_ne (g : Gone K G a S B sv) {c : Nat} {x : Int} (hc : c ∈ nv S sv) (hx : B ≤ x) (hh : S.hits c x) : othersOf S sv c x ≠ [] := by
  obtain ⟨h1, h2⟩ := mem_nv.mp hc
  obtain ⟨d, h3, h4, h5, h6⟩ := g.two c h1 h2 x hx hh
  have : d ∈ othersOf S sv c x := List.mem_filter.mpr ⟨(mem_ht g).mpr ⟨mem_nv.mpr ⟨h3, h4⟩, h6⟩, by rw [decide_eq_false h5]; rfl⟩
  exact List.ne_nil_of_mem this
def sp_reason_of (K : PySem.W.Frag) : Sp := SpGone K (fun _ S B sv us R => ∃ c k : Nat, us = [.int c, .int k] ∧ c ∈ nv S sv ∧ B ≤ S.slot c k ∧ R = isMet (othersOf S sv c (S.slot c k))) 2
theorem ok_reason_of (T : Txt K mg) : ∃ fd, CalG P w K mg base 8 "reason_of" (He.ga K "reason_of") fd ["run", "client", "attempt"] (sp_reason_of K) := by
  obtain ⟨fd_Rule_offset_of, c_Rule_offset_of⟩ := ok_Rule_offset_of (P := P) (w := w) (base := base) T
  obtain ⟨fd_Run_event, c_Run_event⟩ := ok_Run_event (P := P) (w := w) (base := base) T
  obtain ⟨fd, F⟩ := T.f_reason_of
  refine ⟨fd, T.g_reason_of, F.kp, F.ok sc_reason_of (fun vs H Q E h => ?_) (fun cdv A outer s H vs Q E hr h => ?_), F.bindsN fun _ _ _ _ _ _ us hl => match us, hl with | [_, _, _], _ => rfl⟩
  · exact h.len
  · obtain ⟨_, ⟨a, S, B, sv, us, rfl, _, g, c, j, rfl, hc, hB, rfl⟩, k⟩ := h
    obtain ⟨ms, s, R, hs⟩ := g.R
    refine ⟨_, PSs.nox (pss_cons (ps_set (i := 3) sc_reason_of.nd rfl (by first | exact Or.inl rfl | exact Or.inr rfl) (pe_meth (pv 0) T.c_Run c_Run_event.at_ c_Run_event.ok (hr.mono (by decide)) c_Run_event.b .nil pass0 (pa_cons (pe_op op_add (pe_ix ix_list (pe_fld (pv 0) rfl) (pv 1) (fun _ _ => rfl)) (pe_meth (pe_fld (pv 0) rfl) T.c_Rule c_Rule_offset_of.at_ c_Rule_offset_of.ok (hr.mono (by decide)) c_Rule_offset_of.b .nil pass0 (pa_cons (pv 2) pa_nil))) pa_nil)))
      (pss_cons (ps_if (pt_cmpR op_eq (pe_ix ix_tup (pv 3) pe_int (fun _ _ => rfl)) pe_str (nomark _)) (pss_one (ps_ret (pe_tup (pa_cons pe_str (pa_cons (pe_lc (own := [("other", 4)]) rfl sc_reason_of.nd (pi_list (pe_ix ix_tup (pv 3) pe_int (fun _ _ => rfl))) (blkOk_by (own := [("other", 4)]) (N := ["run", "client", "attempt", "found", "other"]) (sc := defScope s_reason_of) (by decide +kernel)) (fun _ _ _ _ _ => (pg_name (i := 4) sc_reason_of.nd rfl (by first | exact Or.inl rfl | exact Or.inr rfl))) (fun _ _ _ _ _ => (pts_one (pt_cmpR op_ne (pv 4) (pv 1) (nomark _)))) (fun _ _ _ _ _ => (pv 4))) pa_nil))))) pss_nil)
      (pss_one ps_never))), ?_⟩
    have h40 := R.sc.n40
    have hhl := ht_len S sv (S.slot c j)
    have hin : c ∈ ht S sv (S.slot c j) := (mem_ht g).mpr ⟨hc, hits_slot c j⟩
    have hne : ht S sv (S.slot c j) ≠ [] := List.ne_nil_of_mem hin
    refine x_asgQ (Ex.refl H) (eq_gone (ev_var rfl) g (fun _ => by kernel_rfl) (ea_cons (ev_op (e_begin T R.o R.b (ev_var rfl) (mem_nv.mp hc).1 (ev_var rfl)) (ev_meth (e_pattern T R.o (ev_var rfl)) R.sc.ru.o (by kernel_rfl) (ea_cons (ev_var rfl) ea_nil) (v_offset_of R.sc.ru j)) rv_I0) ea_nil) ⟨S.slot c j, rfl, hB, rfl⟩ rfl) fun z H1 e1 _ hz => ?_
    unfold isEv at hz
    rw [if_neg hne] at hz
    obtain ⟨p, q, rfl, hp, hq⟩ := hz
    refine x_yes (Ex.refl H1) (et_test (ev_op (ev_ixU (esu_of (ev_var rfl) hp) ev_c rfl) ev_c (rv_eqS (decide_eq_true rfl)))) fun H2 e2 _ => ?_
    refine x_retQ e2 (eq_met (el_map (0 : Nat) (es_of (ev_ixU (esu_of (ev_var rfl) hp) ev_c rfl) hq) rfl (fun o => !decide (o = c)) (fun o => V.int (o : Int)) (fun _ => rfl) (fun o _ => et_test (ev_op (ev_var rfl) (ev_var rfl) (rv_neI ?_))) (fun o _ _ => ev_var rfl) (by omega))) fun z H3 e3 _ hz => k z H3 (e1.trans e3) hz
    by_cases z : o = c
    · rw [z, decide_eq_true rfl, decide_eq_true rfl]
    · rw [decide_eq_false z, decide_eq_false (by omega)]
def sp_reason (K : PySem.W.Frag) : Sp := SpGone K (fun _ S B sv us R => ∃ c k : Nat, us = [.int c, .int k] ∧ c ∈ nv S sv ∧ B ≤ S.slot c k ∧ R = isMet (othersOf S sv c (S.slot c k))) 2
theorem ok_reason (T : Txt K mg) : ∃ fd, CalG P w K mg base 9 "reason" (He.ga K "reason") fd ["run", "client", "attempt"] (sp_reason K) := by
  obtain ⟨fd_Run_scene, c_Run_scene⟩ := ok_Run_scene (P := P) (w := w) (base := base) T
  obtain ⟨fd_Scene_slot_of, c_Scene_slot_of⟩ := ok_Scene_slot_of (P := P) (w := w) (base := base) T
  obtain ⟨fd_attempts_made, c_attempts_made⟩ := ok_attempts_made (P := P) (w := w) (base := base) T
  obtain ⟨fd_check_run, c_check_run⟩ := ok_check_run (P := P) (w := w) (base := base) T
  obtain ⟨fd_reason_of, c_reason_of⟩ := ok_reason_of (P := P) (w := w) (base := base) T
  obtain ⟨fd, F⟩ := T.f_reason
  refine ⟨fd, T.g_reason, F.kp, F.ok sc_reason (fun vs H Q E h => ?_) (fun cdv A outer s H vs Q E hr h => ?_), F.bindsN fun _ _ _ _ _ _ us hl => match us, hl with | [_, _, _], _ => rfl⟩
  · exact h.len
  · obtain ⟨_, ⟨a, S, B, sv, us, rfl, _, g, c, j, rfl, hc, hB, rfl⟩, k⟩ := h
    obtain ⟨ms, s, R, hs⟩ := g.R
    refine ⟨_, PSs.nox (pss_cons (ps_expr (pe_call c_check_run.ok (hr.mono (by decide)) (by rfl) c_check_run.gl c_check_run.kp c_check_run.b .nil pass0 (pa_cons (pv 0) pa_nil)))
      (pss_cons (ps_expr (pe_meth (pe_meth0 (pv 0) T.c_Run c_Run_scene.at_ c_Run_scene.ok (hr.mono (by decide)) c_Run_scene.b .nil pass0) T.c_Scene c_Scene_slot_of.at_ c_Scene_slot_of.ok (hr.mono (by decide)) c_Scene_slot_of.b .nil pass0 (pa_cons (pv 1) (pa_cons (pv 2) pa_nil))))
      (pss_cons (ps_set (i := 3) sc_reason.nd rfl (by first | exact Or.inl rfl | exact Or.inr rfl) (pe_call c_attempts_made.ok (hr.mono (by decide)) (by rfl) c_attempts_made.gl c_attempts_made.kp c_attempts_made.b .nil pass0 (pa_cons (pv 0) (pa_cons (pv 1) pa_nil))))
      (pss_one (ps_ret (pe_ifExp (PW.pt (pw_and (pt_cmpR op_notN (pv 3) pe_non (nomark _)) (pw_and1 (pt_cmpR op_ge (pv 2) (pv 3) (nomark _))))) pe_non (pe_call c_reason_of.ok (hr.mono (by decide)) (by rfl) c_reason_of.gl c_reason_of.kp c_reason_of.b .nil pass0 (pa_cons (pv 0) (pa_cons (pv 1) (pa_cons (pv 2) pa_nil)))))))))), ?_⟩
    obtain ⟨hcN, hcs⟩ := mem_nv.mp hc
    refine x_drop (Ex.refl H) (ev_q (eq_gfn (ea_cons (ev_var rfl) ea_nil) g ⟨rfl, rfl⟩ rfl)) fun H1 e1 _ => ?_
    refine x_drop e1 (ev_meth (ev_q (eq_gone (ev_var rfl) g (fun _ => by kernel_rfl) ea_nil ⟨rfl, rfl⟩ rfl)) R.sc.o (by kernel_rfl) (ea_cons (ev_var rfl) (ea_cons (ev_var rfl) ea_nil)) (v_scene R.sc ⟨c, j, rfl, hcN, rfl⟩ rfl : SpV (sp_Scene_slot_of K) _ _ _)) fun H2 e2 _ => ?_
    refine x_asg e2 (ev_q (eq_gfn (ea_cons (ev_var rfl) (ea_cons (ev_var rfl) ea_nil)) g ⟨c, rfl, hcs, rfl⟩ rfl)) fun H3 e3 _ => ?_
    exact x_retQ e3 (eq_ifF (et_andF (et_test (ev_is (ev_notN (ev_var rfl)) rfl))) (eq_gfn (ea_cons (ev_var rfl) (ea_cons (ev_var rfl) (ea_cons (ev_var rfl) ea_nil))) g ⟨c, j, rfl, hc, hB, rfl⟩ rfl)) fun z H4 e4 _ hz => k z H4 e4 hz
def sp_first_attempt (K : PySem.W.Frag) : Sp := SpGone K (fun _ S _ _ us R => ∃ (c : Nat) (x : Int), us = [.int c, .int x] ∧ c < S.N ∧ R = isV (.int (first S.gs S.n (x - S.s0 c) : Nat))) 2
theorem ok_first_attempt (T : Txt K mg) : ∃ fd, CalG P w K mg base 4 "first_attempt" (He.ga K "first_attempt") fd ["run", "client", "slot"] (sp_first_attempt K) := by
  obtain ⟨fd_Rule_attempts, c_Rule_attempts⟩ := ok_Rule_attempts (P := P) (w := w) (base := base) T
  obtain ⟨fd_Rule_first_from, c_Rule_first_from⟩ := ok_Rule_first_from (P := P) (w := w) (base := base) T
  obtain ⟨fd, F⟩ := T.f_first_attempt
  refine ⟨fd, T.g_first_attempt, F.kp, F.ok sc_first_attempt (fun vs H Q E h => ?_) (fun cdv A outer s H vs Q E hr h => ?_), F.bindsN fun _ _ _ _ _ _ us hl => match us, hl with | [_, _, _], _ => rfl⟩
  · exact h.len
  · obtain ⟨_, ⟨a, S, B, sv, us, rfl, _, g, c, x, rfl, hc, rfl⟩, k⟩ := h
    obtain ⟨ms, s, R, hs⟩ := g.R
    refine ⟨_, PSs.nox (pss_cons (ps_set (i := 3) sc_first_attempt.nd rfl (by first | exact Or.inl rfl | exact Or.inr rfl) (pe_meth (pe_fld (pv 0) rfl) T.c_Rule c_Rule_first_from.at_ c_Rule_first_from.ok (hr.mono (by decide)) c_Rule_first_from.b .nil pass0 (pa_cons (pe_op op_sub (pv 2) (pe_ix ix_list (pe_fld (pv 0) rfl) (pv 1) (fun _ _ => rfl))) pa_nil)))
      (pss_one (ps_ret (pe_ifExp (pt_cmpR op_isN (pv 3) pe_non (nomark _)) (pe_meth0 (pe_fld (pv 0) rfl) T.c_Rule c_Rule_attempts.at_ c_Rule_attempts.ok (hr.mono (by decide)) c_Rule_attempts.b .nil pass0) (pv 3))))), ?_⟩
    refine x_asg (Ex.refl H) (ev_meth (e_pattern T R.o (ev_var rfl)) R.sc.ru.o (by kernel_rfl) (ea_cons (ev_op (ev_var rfl) (e_begin T R.o R.b (ev_var rfl) hc (ev_var rfl)) rv_I0) ea_nil) (v_first_from R.sc.ru _)) fun H1 e1 _ => ?_
    exact x_ret e1 (ev_ifF (et_test (ev_is (ev_isN (ev_var rfl)) rfl)) (ev_var rfl)) fun H2 e2 _ => k _ H2 e2 rfl
theorem nobs : inV (.str "met") [.str "outage", .str "busy"] = false := by decide +kernel
def sp_behind_window (K : PySem.W.Frag) : Sp := SpQ fun vs H R => ∃ (x c : V) (k : Int) (p q : Addr), vs = [x, c, .int k, .ref p] ∧ H p = some (.tup [.str "met", .ref q]) ∧ R = isV (.int (k + 1))
theorem ok_behind_window (T : Txt K mg) : ∃ fd, CalG P w K mg base 1 "behind_window" (He.ga K "behind_window") fd ["run", "client", "attempt", "found"] (sp_behind_window K) := by
  obtain ⟨fd, F⟩ := T.f_behind_window
  refine ⟨fd, T.g_behind_window, F.kp, F.ok sc_behind_window (fun vs H Q E h => ?_) (fun cdv A outer s H vs Q E hr h => ?_), F.bindsN fun _ _ _ _ _ _ us hl => match us, hl with | [_, _, _, _], _ => rfl⟩
  · obtain ⟨_, ⟨_, _, _, _, _, rfl, _⟩, _⟩ := h
    rfl
  · obtain ⟨_, ⟨x, c, j, p, q, rfl, hp, rfl⟩, k⟩ := h
    refine ⟨_, PSs.nox (pss_cons (ps_if (pt_cmpR op_notIn_seq (pe_ix ix_tup (pv 3) pe_int (fun _ _ => rfl)) (pe_tup (pa_cons pe_str (pa_cons pe_str pa_nil))) (by rfl)) (pss_one (ps_ret (pe_op op_add (pv 2) pe_int))) pss_nil)
      (pss_cons ps_never
      (pss_one ps_never))), ?_⟩
    refine x_yes (Ex.refl H) (et_test (ev_is (ev_niU (ev_ixU (esu_of (ev_var rfl) hp) ev_c rfl) (eu_tup (ea_cons ev_c (ea_cons ev_c ea_nil)) (show 2 ≤ 100000 by decide)) rfl rfl) (by rw [nobs]; rfl))) fun H1 e1 _ => ?_
    exact x_ret e1 (ev_op (ev_var rfl) ev_c rv_I0) fun H2 e2 _ => k _ H2 e2 rfl
def sp_check_bounds : Sp := SpR fun vs _ z => ∃ i j : Int, vs = [.int i, .int j] ∧ 0 ≤ i ∧ i ≤ j ∧ z = .non
theorem ok_check_bounds (T : Txt K mg) : ∃ fd, CalG P w K mg base 2 "check_bounds" (He.ga K "check_bounds") fd ["first", "after"] sp_check_bounds := by
  obtain ⟨fd_is_integer, c_is_integer⟩ := ok_is_integer (P := P) (w := w) (base := base) T
  obtain ⟨fd, F⟩ := T.f_check_bounds
  refine ⟨fd, T.g_check_bounds, F.kp, F.ok sc_check_bounds (fun vs H Q E h => ?_) (fun cdv A outer s H vs Q E hr h => ?_), F.bindsN fun _ _ _ _ _ _ us hl => match us, hl with | [_, _], _ => rfl⟩
  · obtain ⟨_, ⟨_, _, rfl, _⟩, _⟩ := h
    rfl
  · obtain ⟨z, ⟨i, j, rfl, h0, hij, rfl⟩, k⟩ := h
    refine ⟨_, PSs.nox (pss_cons (ps_if (PW.pt (pw_or (pt_not (pt_val (pe_call c_is_integer.ok (hr.mono (by decide)) (by rfl) c_is_integer.gl c_is_integer.kp c_is_integer.b .nil pass0 (pa_cons (pv 0) pa_nil)))) (pw_or1 (pt_cmpR op_lt (pv 0) pe_int (nomark _))))) (pss_one ps_never) pss_nil)
      (pss_one (ps_if (PW.pt (pw_or (pt_not (pt_val (pe_call c_is_integer.ok (hr.mono (by decide)) (by rfl) c_is_integer.gl c_is_integer.kp c_is_integer.b .nil pass0 (pa_cons (pv 1) pa_nil)))) (pw_or1 (pt_cmpR op_lt (pv 1) (pv 0) (nomark _))))) (pss_one ps_never) pss_nil))), ?_⟩
    refine x_no (Ex.refl H) (et_or (a := false) (et_not (a := true) (et_B (ev_fn (ea_cons (ev_var rfl) ea_nil) (v_is_integer _)))) fun _ => et_test (ev_op (ev_var rfl) ev_c (rv_B (decide_eq_false (by omega))))) fun H1 e1 _ => ?_
    exact x_noL e1 (et_or (a := false) (et_not (a := true) (et_B (ev_fn (ea_cons (ev_var rfl) ea_nil) (v_is_integer _)))) fun _ => et_test (ev_op (ev_var rfl) (ev_var rfl) (rv_B (decide_eq_false (by omega))))) fun H2 e2 _ => k H2 e2
theorem v_check_bounds {i j : Int} (h0 : 0 ≤ i) (h1 : i ≤ j) : SpV sp_check_bounds [.int i, .int j] G .non := sp_r fun _ _ => ⟨i, j, rfl, h0, h1, rfl⟩
/-! ### history -/
structure Hist (S : Sc) (sv : List (Nat × Nat × Int)) (c k m : Nat) (xs : List V) (H : Hp) : Prop where
  len : xs.length = m
  at_ : ∀ (i : Nat) y, xs[i]? = some y → ∃ t f, y = .ref t ∧ H t = some (.tup [.int ((k + i : Nat) : Int), .int ((k + i + 1 : Nat) : Int), f]) ∧ isMet (othersOf S sv c (S.slot c (k + i))) f H
theorem isMet.mono {l : List Nat} {z : V} {H' : Hp} (h : isMet l z H) (e : Ex H H') : isMet l z H' := by
  obtain ⟨p, q, h1, h2, h3⟩ := h
  exact ⟨p, q, h1, e _ _ h2, e _ _ h3⟩
theorem Hist.mono {c k m : Nat} {xs : List V} {H' : Hp} (h : Hist S sv c k m xs H) (e : Ex H H') : Hist S sv c k m xs H' := ⟨h.len, fun i y hy => by
  obtain ⟨t, f, h1, h2, h3⟩ := h.at_ i y hy
  exact ⟨t, f, h1, e _ _ h2, h3.mono e⟩⟩
theorem nV_hist {c k m : Nat} {xs : List V} {l : List Nat} (hh : Hist S sv c k m xs H) (h : l ≠ []) : HO.lst (nV l) ≠ HO.lst xs := by
  intro z
  have z1 : nV l = xs := by injection z
  cases l with
  | nil => exact h rfl
  | cons d r =>
    obtain ⟨t, f, z2, _⟩ := hh.at_ 0 (.int (d : Int)) (by rw [← z1]; rfl)
    cases z2
def sp_history (K : PySem.W.Frag) : Sp := SpGone K (fun _ S B sv us R => ∃ c k m : Nat, us = [.int c, .int k, .int ((k + m : Nat) : Int)] ∧ m ≤ 5 ∧ c ∈ nv S sv ∧ B ≤ S.slot c k ∧ (∀ j, k ≤ j → S.slot c k ≤ S.slot c j) ∧ R = fun z H => ∃ p xs, z = .ref p ∧ H p = some (.lst xs) ∧ Hist S sv c k m xs H) 3
theorem ok_history (T : Txt K mg) : ∃ fd, CalG P w K mg base 9 "history" (He.ga K "history") fd ["run", "client", "first", "after"] (sp_history K) := by
  obtain ⟨fd_Rule_tail, c_Rule_tail⟩ := ok_Rule_tail (P := P) (w := w) (base := base) T
  obtain ⟨fd_Run_scene, c_Run_scene⟩ := ok_Run_scene (P := P) (w := w) (base := base) T
  obtain ⟨fd_Scene_check_client, c_Scene_check_client⟩ := ok_Scene_check_client (P := P) (w := w) (base := base) T
  obtain ⟨fd_attempts_made, c_attempts_made⟩ := ok_attempts_made (P := P) (w := w) (base := base) T
  obtain ⟨fd_behind_window, c_behind_window⟩ := ok_behind_window (P := P) (w := w) (base := base) T
  obtain ⟨fd_check_bounds, c_check_bounds⟩ := ok_check_bounds (P := P) (w := w) (base := base) T
  obtain ⟨fd_check_run, c_check_run⟩ := ok_check_run (P := P) (w := w) (base := base) T
  obtain ⟨t_MOST_ENTRIES, i_MOST_ENTRIES⟩ := T.i_MOST_ENTRIES
  obtain ⟨fd_reason_of, c_reason_of⟩ := ok_reason_of (P := P) (w := w) (base := base) T
  obtain ⟨fd, F⟩ := T.f_history
  refine ⟨fd, T.g_history, F.kp, F.ok sc_history (fun vs H Q E h => ?_) (fun cdv A outer s H vs Q E hr h => ?_), F.bindsN fun _ _ _ _ _ _ us hl => match us, hl with | [_, _, _, _], _ => rfl⟩
  · exact h.len
  · obtain ⟨_, ⟨a, S, B, sv, us, rfl, _, g, c, j, m, rfl, hm, hc, hB, hmon, rfl⟩, k⟩ := h
    obtain ⟨ms, s, R, hs⟩ := g.R
    refine ⟨_, PSs.nox (pss_cons (ps_expr (pe_call c_check_run.ok (hr.mono (by decide)) (by rfl) c_check_run.gl c_check_run.kp c_check_run.b .nil pass0 (pa_cons (pv 0) pa_nil)))
      (pss_cons (ps_expr (pe_meth (pe_meth0 (pv 0) T.c_Run c_Run_scene.at_ c_Run_scene.ok (hr.mono (by decide)) c_Run_scene.b .nil pass0) T.c_Scene c_Scene_check_client.at_ c_Scene_check_client.ok (hr.mono (by decide)) c_Scene_check_client.b .nil pass0 (pa_cons (pv 1) pa_nil)))
      (pss_cons (ps_expr (pe_call c_check_bounds.ok (hr.mono (by decide)) (by rfl) c_check_bounds.gl c_check_bounds.kp c_check_bounds.b .nil pass0 (pa_cons (pv 2) (pa_cons (pv 3) pa_nil))))
      (pss_cons (ps_set (i := 4) sc_history.nd rfl (by first | exact Or.inl rfl | exact Or.inr rfl) (pe_call c_attempts_made.ok (hr.mono (by decide)) (by rfl) c_attempts_made.gl c_attempts_made.kp c_attempts_made.b .nil pass0 (pa_cons (pv 0) (pa_cons (pv 1) pa_nil))))
      (pss_cons (ps_set (i := 5) sc_history.nd rfl (by first | exact Or.inl rfl | exact Or.inr rfl) (pe_ifExp (pt_cmpR op_isN (pv 4) pe_non (nomark _)) (pv 3) (pe_callB (call_min2 rfl) (by rfl) T.b_min (by decide +kernel) (pa_cons (pv 3) (pa_cons (pv 4) pa_nil)))))
      (pss_cons (ps_if (PW.pt (pw_and (pt_cmpR op_eq (pe_ix ix_tup (pe_meth0 (pe_fld (pv 0) rfl) T.c_Rule c_Rule_tail.at_ c_Rule_tail.ok (hr.mono (by decide)) c_Rule_tail.b .nil pass0) pe_int (fun _ _ => rfl)) pe_str (nomark _)) (pw_and (pt_cmpR op_lt (pv 2) (pv 5) (nomark _)) (pw_and1 (pt_cmpR op_gt (pe_op op_sub (pv 5) pe_int) (pe_glob (v := .int 1000) (by rfl) i_MOST_ENTRIES ⟨_, rfl⟩) (nomark _)))))) (pss_one ps_never) pss_nil)
      (pss_cons (ps_set (i := 6) sc_history.nd rfl (by first | exact Or.inl rfl | exact Or.inr rfl) (pe_lst pa_nil))
      (pss_cons (ps_while PassesOwn.never (pt_cmpR op_lt (pv 2) (pv 5) (nomark _)) (pss_cons (ps_if (pt_cmpR op_eq (pe_callB call_len_seq (by rfl) T.b_len (by decide +kernel) (pa_cons (pv 6) pa_nil)) (pe_glob (v := .int 1000) (by rfl) i_MOST_ENTRIES ⟨_, rfl⟩) (nomark _)) (pss_one ps_never) pss_nil)
      (pss_cons (ps_set (i := 7) sc_history.nd rfl (by first | exact Or.inl rfl | exact Or.inr rfl) (pe_call c_reason_of.ok (hr.mono (by decide)) (by rfl) c_reason_of.gl c_reason_of.kp c_reason_of.b .nil pass0 (pa_cons (pv 0) (pa_cons (pv 1) (pa_cons (pv 2) pa_nil)))))
      (pss_cons (ps_set (i := 8) sc_history.nd rfl (by first | exact Or.inl rfl | exact Or.inr rfl) (pe_callB (call_min2 rfl) (by rfl) T.b_min (by decide +kernel) (pa_cons (pv 5) (pa_cons (pe_call c_behind_window.ok (hr.mono (by decide)) (by rfl) c_behind_window.gl c_behind_window.kp c_behind_window.b .nil pass0 (pa_cons (pv 0) (pa_cons (pv 1) (pa_cons (pv 2) (pa_cons (pv 7) pa_nil))))) pa_nil))))
      (pss_cons (ps_expr (pe_bm PySem.F.plainAttrs_list PySem.F.slot_list_append PySem.F.type_list_append mt_append (pv 6) (pa_cons (pe_tup (pa_cons (pv 2) (pa_cons (pv 8) (pa_cons (pv 7) pa_nil)))) pa_nil)))
      (pss_one (ps_set (i := 2) sc_history.nd rfl (by first | exact Or.inl rfl | exact Or.inr rfl) (pv 8))))))))
      (pss_one (ps_ret (pv 6))))))))))), ?_⟩
    obtain ⟨hcN, hcs⟩ := mem_nv.mp hc
    refine x_drop (Ex.refl H) (ev_q (eq_gfn (ea_cons (ev_var rfl) ea_nil) g ⟨rfl, rfl⟩ rfl)) fun H1 e1 _ => ?_
    refine x_drop e1 (ev_meth (ev_q (eq_gone (ev_var rfl) g (fun _ => by kernel_rfl) ea_nil ⟨rfl, rfl⟩ rfl)) R.sc.o (by kernel_rfl) (ea_cons (ev_var rfl) ea_nil) (v_scene R.sc ⟨c, rfl, hcN, rfl⟩ rfl : SpV (sp_Scene_check_client K) _ _ _)) fun H2 e2 _ => ?_
    refine x_drop e2 (ev_fn (ea_cons (ev_var rfl) (ea_cons (ev_var rfl) ea_nil)) (v_check_bounds (by omega) (by omega))) fun H3 e3 _ => ?_
    refine x_asg e3 (ev_q (eq_gfn (ea_cons (ev_var rfl) (ea_cons (ev_var rfl) ea_nil)) g ⟨c, rfl, hcs, rfl⟩ rfl)) fun H4 e4 _ => ?_
    refine x_asg e4 (ev_ifT (et_test (ev_is (ev_isN (ev_var rfl)) rfl)) (ev_var rfl)) fun H5 e5 _ => ?_
    refine x_no e5 (et_andF (et_test (ev_op (ev_ixU (esu_of (ev_meth (e_pattern T R.o (ev_var rfl)) R.sc.ru.o (by kernel_rfl) ea_nil (v_rule R.sc.ru ⟨rfl, rfl⟩ rfl)) R.sc.ru.t) ev_c rfl) ev_c (rv_eqS (decide_eq_false ntimes))))) fun H6 e6 _ => ?_
    refine x_asgL e6 (el_lst (vs := []) ea_nil (by decide)) fun pe H7 e7 hpe e7' h7 => ?_
    have hpe0 : H pe = none := fresh_back e6 hpe
    refine q_while (fun n σ' H' => ∃ (i : Nat) (u v : Option V) (xs : List V), n = m - i ∧ i ≤ m ∧ σ' = [some (.ref a.p), some (.int (c : Int)), some (.int ((j + i : Nat) : Int)), some (.int ((j + m : Nat) : Int)), some .non, some (.int ((j + m : Nat) : Int)), some (.ref pe), u, v] ∧ Ex H H' ∧ H' pe = some (.lst xs) ∧ Hist S sv c j i xs H') m ⟨0, none, none, [], rfl, Nat.zero_le _, rfl, e7, h7, rfl, fun i y h => by cases h⟩ ?_
    rintro n σ' H' ⟨i, u, v, xs, rfl, him, rfl, e8, h8, hh⟩
    refine ⟨decide (((j + i : Nat) : Int) < ((j + m : Nat) : Int)), et_test (ev_op (ev_var rfl) (ev_var rfl) rv_I0), fun hb H9 e9 => ?_, fun hb H9 e9 => ?_⟩
    · have hlt : i < m := by
        have := of_decide_eq_true hb
        omega
      refine ⟨fun σ2 H2 => ∃ (i' : Nat) (u v : Option V) (xs : List V), i' = i + 1 ∧ σ2 = [some (.ref a.p), some (.int (c : Int)), some (.int ((j + i' : Nat) : Int)), some (.int ((j + m : Nat) : Int)), some .non, some (.int ((j + m : Nat) : Int)), some (.ref pe), u, v] ∧ Ex H H2 ∧ H2 pe = some (.lst xs) ∧ Hist S sv c j i' xs H2, fun σ2 H2 ⟨i', u, v, xs, h1, h2, h3, h4, h5⟩ => ⟨m - i', by omega, i', u, v, xs, rfl, by omega, h2, h3, h4, h5⟩, ?_⟩
      have h9 := e9 _ _ h8
      have hlen := hh.len
      refine x_no (Ex.refl H9) (et_test (ev_op (ev_lenS (es_of (ev_var rfl) h9)) ev_c (rv_eqI (decide_eq_false (by omega))))) fun H10 e10 _ => ?_
      have hBi : B ≤ S.slot c (j + i) := by
        have := hmon (j + i) (by omega)
        omega
      have e10' := (e8.trans e9).trans e10
      refine x_asgQ e10' (eq_gfn (ea_cons (ev_var rfl) (ea_cons (ev_var rfl) (ea_cons (ev_var rfl) ea_nil))) g ⟨c, j + i, rfl, hc, hBi, rfl⟩ rfl) fun f H11 e11 e11' hf => ?_
      have h11 := e11' _ _ (e10 _ _ h9)
      have hf' := hf
      obtain ⟨p, q, rfl, hp, hq⟩ := hf
      have hone := others_ne g hc hBi (hits_slot c (j + i))
      have hqp : q ≠ pe := ne_of hq h11 (nV_hist hh hone)
      refine x_asg (v := .int ((j + i + 1 : Nat) : Int)) (Ex.refl H11) (ev_is (ev_min2 (ev_var rfl) (ev_q (eq_fn (ea_cons (ev_var rfl) (ea_cons (ev_var rfl) (ea_cons (ev_var rfl) (ea_cons (ev_var rfl) ea_nil)))) fun H1 e => ⟨_, _, _, p, q, rfl, e _ _ hp, rfl⟩))) ?_) fun H12 e12 _ => ?_
      · congr 1
        split <;> omega
      have h12 := e12 _ _ h11
      refine q_appU h12 (ev_var rfl) (eu_tup (ea_cons (ev_var rfl) (ea_cons (ev_var rfl) (ea_cons (ev_var rfl) ea_nil))) (show 3 ≤ 100000 by decide)) (by omega) fun pt H13 hpt e13 h13 => ?_
      refine s_asg (ev_var rfl) fun H14 e14 => ?_
      have keepT : ∀ {b : Addr} {us : List V}, H13 b = some (.tup us) → H14 b = some (.tup us) := fun {b us} hb => e14 _ _ (by
        rw [upd_ne (ne_of hb (e13 _ _ h12) (by intro z; cases z))]
        exact hb)
      have e9_13 := ((e10.trans e11').trans e12).trans e13
      refine ⟨i + 1, _, _, xs ++ [.ref pt], rfl, rfl, ?_, e14 _ _ upd_same, by rw [List.length_append, hlen]; rfl, fun l y hy => ?_⟩
      · exact (Ex.mut ((e11.trans e12).trans e13) hpe0).trans e14
      · rcases Nat.lt_or_ge l xs.length with hl | hl
        · rw [List.getElem?_append_left hl] at hy
          obtain ⟨t, f, z1, z2, p', q', z3, z4, z5⟩ := hh.at_ l y hy
          refine ⟨t, f, z1, keepT (e9_13 _ _ (e9 _ _ z2)), p', q', z3, keepT (e9_13 _ _ (e9 _ _ z4)), e14 _ _ ?_⟩
          have hone' := others_ne g hc (show B ≤ S.slot c (j + l) by have := hmon (j + l) (by omega); omega) (hits_slot c (j + l))
          have nq : q' ≠ pe := ne_of z5 h8 (nV_hist hh hone')
          rw [upd_ne nq]
          exact e9_13 _ _ (e9 _ _ z5)
        · rw [List.getElem?_append_right hl] at hy
          have h0 : l - xs.length = 0 := by
            rcases Nat.eq_zero_or_pos (l - xs.length) with z | z
            · exact z
            · rw [List.getElem?_eq_none (by show 1 ≤ _; omega)] at hy
              cases hy
          rw [h0] at hy
          cases hy
          have hli : l = i := by omega
          subst hli
          refine ⟨pt, _, rfl, keepT h13, p, q, rfl, keepT (e13 _ _ (e12 _ _ hp)), e14 _ _ ?_⟩
          rw [upd_ne hqp]
          exact e13 _ _ (e12 _ _ hq)
    · have hlt : i = m := by
        have := of_decide_eq_false hb
        omega
      subst hlt
      exact x_ret (e8.trans e9) (ev_var rfl) fun H10 e10 e10' => k _ H10 e10 ⟨pe, xs, rfl, e10' _ _ (e9 _ _ h8), hh.mono (e9.trans e10')⟩
end
end RS
end

section
set_option Elab.async false
set_option linter.all false
set_option maxRecDepth 100000
set_option maxHeartbeats 4000000
namespace RS
open PySem PySem.Spec PyProof.Rows L2 Evl
/-- windows that end early -/
def lowP (B : Int) (us : List V) : Prop := ∃ x y : Int, us = [.int x, .int y] ∧ y ≤ B
structure TupL (P : List V → Prop) (m : Nat) (xs : List V) (H : Hp) : Prop where
  len : xs.length ≤ m
  at_ : ∀ z ∈ xs, ∃ t us, z = .ref t ∧ H t = some (.tup us) ∧ P us
def isLow (B : Int) (m : Nat) : VP := fun z H => ∃ p xs, z = .ref p ∧ H p = some (.lst xs) ∧ TupL (lowP B) m xs H
theorem TupL.keep {P : List V → Prop} {m : Nat} {xs : List V} {H H' : Hp} (h : TupL P m xs H) (e : ∀ t us, H t = some (.tup us) → H' t = some (.tup us)) : TupL P m xs H' := ⟨h.len, fun z hz => by
  obtain ⟨t, us, h1, h2, h3⟩ := h.at_ z hz
  exact ⟨t, us, h1, e _ _ h2, h3⟩⟩
theorem TupL.app {P : List V → Prop} {m n : Nat} {xs ys : List V} {H : Hp} (h : TupL P m xs H) (h' : TupL P n ys H) : TupL P (m + n) (xs ++ ys) H := ⟨by rw [List.length_append]; exact Nat.add_le_add h.len h'.len, fun z hz => by
  rcases List.mem_append.mp hz with q | q
  · exact h.at_ z q
  · exact h'.at_ z q⟩
theorem TupL.le {P : List V → Prop} {m n : Nat} {xs : List V} {H : Hp} (h : TupL P m xs H) (q : m ≤ n) : TupL P n xs H := ⟨Nat.le_trans h.len q, h.at_⟩
theorem keep_lst {H : Hp} {l : Addr} {xs ys : List V} (h : H l = some (.lst xs)) : ∀ t us, H t = some (.tup us) → upd H l (.lst ys) t = some (.tup us) := fun t us ht => by
  rw [upd_ne (ne_of ht h (by intro z; cases z))]
  exact ht
section
variable {P : Program} {w : World} {K : PySem.W.Frag} {mg : Str → Option Value} {base : Heap} {G H : Hp} {a : UA} {S : Sc} {B : Int} {sv : List (Nat × Nat × Int)} {σ : L2.St} {ta td te tb tu : TE} {D : Ends} {tz ts : TS}
/-- xs.extend(e), e a list told by its shape -/
theorem s_extQ {l : Addr} {xs : List V} {Pz : List V → Hp → Prop} (hl : H l = some (.lst xs)) (ha : Ev ta σ H (.ref l)) (h : EvQ te σ H (fun z H => ∃ p zs, z = .ref p ∧ H p = some (.lst zs) ∧ Pz zs H)) (hz : ∀ zs H1, Pz zs H1 → xs.length + zs.length ≤ 100000) (k : ∀ zs H1, Ex H H1 → Pz zs H1 → D.nx σ (upd H1 l (.lst (xs ++ zs)))) :
    tDrop (tBM K "list" rExtend ta (tCons te tNil)) D σ H := ha H (Ex.refl H) _ fun H1 e1 =>
  ⟨Or.inl ⟨rfl, xs, sq_of (e1 l _ hl)⟩, h H1 e1 _ fun z H2 e2 hz2 => by
    obtain ⟨p, zs, rfl, hp, hq⟩ := hz2
    exact ⟨l, p, xs, zs, rfl, rfl, e2 l _ (e1 l _ hl), hp, sz_of (hz zs H2 hq), k zs H2 (e1.trans e2) hq⟩⟩
/-- xs + [(..)] -/
theorem eq_cat1 {p : Addr} {xs us : List V} (h : Ev ta σ G (.ref p)) (hp : G p = some (.lst xs)) (hu : EvU tu σ G us) (hz : xs.length + 1 ≤ 100000) : EvQ (tOp rCat ta (tLst (tCons tu tNil))) σ G (fun z H => ∃ q t, z = .ref q ∧ H q = some (.lst (xs ++ [.ref t])) ∧ H t = some (.tup us)) := fun H1 e Q q =>
  h H1 e _ fun H2 e2 => hu H2 (e.trans e2) (fun v H3 => _ ∧ _) fun t H3 ht e3 h3 => ⟨(show 1 ≤ sizeLine by decide), fun l hl => ⟨p, l, xs, [.ref t], rfl, rfl, Ex.new hl _ _ (e3 _ _ (e2 _ _ (e _ _ hp))), upd_same, sz_of hz, fun r hr => q _ _ ((e2.trans e3).trans ((Ex.new hl).trans (Ex.new hr))) ⟨r, t, rfl, upd_same, Ex.new hr _ _ (Ex.new hl _ _ h3)⟩⟩⟩
/-- the items of a list of pairs of ints -/
theorem pairs_fn {B : Int} {m : Nat} {xs : List V} (h : TupL (lowP B) m xs H) : ∃ f : Nat → Int × Int, ∀ i, i < xs.length → ∃ t, xs[i]? = some (.ref t) ∧ H t = some (.tup [.int (f i).1, .int (f i).2]) ∧ (f i).2 ≤ B := by
  have hg : ∀ i, ∃ uv : Int × Int, i < xs.length → ∃ t, xs[i]? = some (.ref t) ∧ H t = some (.tup [.int uv.1, .int uv.2]) ∧ uv.2 ≤ B := fun i => by
    by_cases hi : i < xs.length
    · obtain ⟨t, us, h1, h2, x, y, rfl, h3⟩ := h.at_ _ (List.getElem_mem hi)
      exact ⟨(x, y), fun _ => ⟨t, by rw [List.getElem?_eq_getElem hi, h1], h2, h3⟩⟩
    · exact ⟨(0, 0), fun q => absurd q hi⟩
  exact ⟨fun i => (hg i).choose, fun i => (hg i).choose_spec⟩
theorem lcq_split {tl : TE} {g : TG} {t : TT} {vs : List Nat} {P R : VP} (h : EvQ tl σ G P) (k : ∀ z H2, Ex G H2 → P z H2 → EvQ (tLc (iList K (tC z)) g t te vs) σ H2 R) : EvQ (tLc (iList K tl) g t te vs) σ G R := fun H1 e Q q => h H1 e _ fun z H2 e2 pz => k z H2 (e.trans e2) pz H2 (Ex.refl _) Q fun z3 H3 e3 h3 => q z3 H3 (e2.trans e3) h3
theorem mem_given {n : Nat} {f : Nat → Bool} {v : Nat → V} {z : V} (h : z ∈ given n f v) : ∃ i, i < n ∧ z = v i := by
  unfold given at h
  obtain ⟨i, hi, e⟩ := List.mem_map.mp h
  exact ⟨i, List.mem_range.mp (List.mem_filter.mp hi).1, e.symm⟩
def sp_without_outages (K : PySem.W.Frag) : Sp := SpGone K (fun _ _ B _ us R => ∃ b e : Int, us = [.int b, .int e] ∧ e ≤ B ∧ R = isLow B 11) 2
theorem ok_without_outages (T : Txt K mg) : ∃ fd, CalG P w K mg base 2 "without_outages" (He.ga K "without_outages") fd ["run", "begin", "end"] (sp_without_outages K) := by
  obtain ⟨fd_Run_scene, c_Run_scene⟩ := ok_Run_scene (P := P) (w := w) (base := base) T
  obtain ⟨fd_Scene_outages, c_Scene_outages⟩ := ok_Scene_outages (P := P) (w := w) (base := base) T
  obtain ⟨fd, F⟩ := T.f_without_outages
  refine ⟨fd, T.g_without_outages, F.kp, F.ok sc_without_outages (fun vs H Q E h => ?_) (fun cdv A outer s H vs Q E hr h => ?_), F.bindsN fun _ _ _ _ _ _ us hl => match us, hl with | [_, _, _], _ => rfl⟩
  · exact h.len
  · obtain ⟨_, ⟨a, S, B, sv, us, rfl, _, g, b, e, rfl, he, rfl⟩, k⟩ := h
    obtain ⟨ms, s, R, hs⟩ := g.R
    refine ⟨_, PSs.nox (pss_cons (ps_set (i := 3) sc_without_outages.nd rfl (by first | exact Or.inl rfl | exact Or.inr rfl) (pe_lst pa_nil))
      (pss_cons (ps_for PassesOwn.never rfl (pi_list (pe_meth0 (pe_meth0 (pv 0) T.c_Run c_Run_scene.at_ c_Run_scene.ok (hr.mono (by decide)) c_Run_scene.b .nil pass0) T.c_Scene c_Scene_outages.at_ c_Scene_outages.ok (hr.mono (by decide)) c_Scene_outages.b .nil pass0)) (pg_tup rfl (pgs_cons (pg_name (i := 4) sc_without_outages.nd rfl (by first | exact Or.inl rfl | exact Or.inr rfl)) (pgs_cons (pg_name (i := 5) sc_without_outages.nd rfl (by first | exact Or.inl rfl | exact Or.inr rfl)) pgs_nil))) (pss_cons (ps_if (pt_cmpR op_gt (pv 4) (pv 1) (nomark _)) (pss_one (ps_expr (pe_bm PySem.F.plainAttrs_list PySem.F.slot_list_append PySem.F.type_list_append mt_append (pv 3) (pa_cons (pe_tup (pa_cons (pv 1) (pa_cons (pe_callB (call_min2 rfl) (by rfl) T.b_min (by decide +kernel) (pa_cons (pv 4) (pa_cons (pv 2) pa_nil))) pa_nil))) pa_nil)))) pss_nil)
      (pss_one (ps_set (i := 1) sc_without_outages.nd rfl (by first | exact Or.inl rfl | exact Or.inr rfl) (pe_callB (call_max2 rfl) (by rfl) T.b_max (by decide +kernel) (pa_cons (pv 1) (pa_cons (pv 5) pa_nil)))))))
      (pss_one (ps_ret (pe_lc (own := [("part", 6)]) rfl sc_without_outages.nd (pi_list (pe_op op_cat (pv 3) (pe_lst (pa_cons (pe_tup (pa_cons (pv 1) (pa_cons (pv 2) pa_nil))) pa_nil)))) (blkOk_by (own := [("part", 6)]) (N := ["run", "begin", "end", "parts", "first", "after", "part"]) (sc := defScope s_without_outages) (by decide +kernel)) (fun _ _ _ _ _ => (pg_name (i := 6) sc_without_outages.nd rfl (by first | exact Or.inl rfl | exact Or.inr rfl))) (fun _ _ _ _ _ => (pts_one (pt_cmpR op_lt (pe_ix (ix_tupK K) (pv 6) pe_int (fun _ _ => rfl)) (pe_ix (ix_tupK K) (pv 6) pe_int (fun _ _ => rfl)) (nomark _)))) (fun _ _ _ _ _ => (pv 6))))))), ?_⟩
    have h10 := R.sc.w10
    have hwl := R.sc.wn.len
    refine x_asgL (Ex.refl H) (el_lst (vs := []) ea_nil (by decide)) fun pp H1 e1 hpp _ hp1 => ?_
    have hpp0 : H pp = none := hpp
    refine q_forNL (H := H1) ((el_meth (ev_q (eq_gone (ev_var rfl) g (fun _ => by kernel_rfl) ea_nil ⟨rfl, rfl⟩ rfl)) R.sc.o (by kernel_rfl) ea_nil (l_scene R.sc ⟨rfl, rfl⟩ rfl : SpL (sp_Scene_outages K) _ _ _) : EvL _ _ H _).mono e1)
      (fun p i σ' H' => p ≠ pp ∧ H' p = some (.lst (a.sa.rs.map V.ref)) ∧ (∃ (b' : Int) (u v : Option V), σ' = [some (.ref a.p), some (.int b'), some (.int e), some (.ref pp), u, v, none]) ∧ Ex H H' ∧ ∃ xs, H' pp = some (.lst xs) ∧ TupL (lowP B) i xs H') ?_ (fun p i σ' H' _ q => sq_of q.2.1) ?_ ?_
    · intro p H2 hp e2 h2
      exact ⟨fun z => (by rw [z, hp1] at hp; cases hp), h2, ⟨b, none, none, rfl⟩, e1.trans e2, [], e2 _ _ hp1, Nat.le_refl _, fun z h => by cases h⟩
    · rintro p i x σ' H' hx ⟨hne, hp, ⟨b', u, v, rfl⟩, e2, xs, hxs, ht⟩
      have hi : i < a.sa.rs.length := by
        have := (List.getElem?_eq_some_iff.mp hx).1
        rw [List.length_map] at this
        exact this
      obtain ⟨hg, hx'⟩ := R.sc.wn.get hi
      rw [hx'] at hx
      cases hx
      refine g_pair (st_of (e2 _ _ hg)) ?_
      refine x_if (Ex.refl H') (et_test (ev_op (ev_var rfl) (ev_var rfl) rv_I0)) (fun _ H3 e3 _ => ?_) fun _ H3 e3 _ => ?_
      · refine s_appU (e3 _ _ hxs) (ev_var rfl) (eu_tup (ea_cons (ev_var rfl) (ea_cons (ev_min2 (ev_var rfl) (ev_var rfl)) ea_nil)) (show 2 ≤ 100000 by decide)) (by have := ht.len; omega) fun pt H4 hpt e4 h4 => ?_
        refine s_asg (ev_max2 (ev_var rfl) (ev_var rfl)) fun H5 e5 => ?_
        have hk := keep_lst (ys := xs ++ [.ref pt]) (e4 _ _ (e3 _ _ hxs))
        refine ⟨hne, e5 _ _ (by rw [upd_ne hne]; exact e4 _ _ (e3 _ _ hp)), ⟨_, _, _, rfl⟩, (Ex.mut ((e2.trans e3).trans e4) hpp0).trans e5, _, e5 _ _ upd_same, ?_⟩
        refine (ht.keep fun t us h => e5 _ _ (hk _ _ (e4 _ _ (e3 _ _ h)))).app ⟨Nat.le_refl 1, fun z hz => ?_⟩
        rw [List.mem_singleton.mp hz]
        refine ⟨pt, _, rfl, e5 _ _ (hk _ _ h4), _, _, rfl, ?_⟩
        split <;> omega
      · refine s_asg (ev_max2 (ev_var rfl) (ev_var rfl)) fun H5 e5 => ?_
        exact ⟨hne, e5 _ _ (e3 _ _ hp), ⟨_, _, _, rfl⟩, (e2.trans e3).trans e5, xs, e5 _ _ (e3 _ _ hxs), (ht.keep fun t us h => e5 _ _ (e3 _ _ h)).le (Nat.le_succ _)⟩
    · rintro p σ' H' ⟨hne, hp, ⟨b', u, v, rfl⟩, e2, xs, hxs, ht⟩
      rw [List.length_map] at ht
      have htl := ht.len
      refine x_retQ (Ex.refl H') (lcq_split (R := isLow B 11) (eq_cat1 (ev_var rfl) hxs (eu_tup (ea_cons (ev_var rfl) (ea_cons (ev_var rfl) ea_nil)) (show 2 ≤ 100000 by decide)) (by omega)) fun z H3 e3 hz => ?_) fun z H3 e3 _ hz => k z H3 (e2.trans e3) hz
      obtain ⟨q, t, rfl, hq, ht3⟩ := hz
      have hl3 : TupL (lowP B) (a.sa.rs.length + 1) (xs ++ [.ref t]) H3 := (ht.keep fun _ _ h => e3 _ _ h).app ⟨Nat.le_refl 1, fun z hz => by
        rw [List.mem_singleton.mp hz]
        exact ⟨t, _, rfl, ht3, _, _, rfl, he⟩⟩
      obtain ⟨f, hf⟩ := pairs_fn hl3
      have hlen := hl3.len
      have hgd : ∀ i, i < (xs ++ [V.ref t]).length → (xs ++ [V.ref t])[i]? = some ((xs ++ [V.ref t]).getD i .non) := fun i hi => by
        rw [List.getD_eq_getElem?_getD, List.getElem?_eq_getElem hi]
        rfl
      have hE : EvL _ _ H3 (given (xs ++ [V.ref t]).length (fun i => decide ((f i).1 < (f i).2)) fun i => (xs ++ [V.ref t]).getD i .non) := el_comp (wi := iList K (tC (V.ref q))) (g := gName 6) (σ := [some (.ref a.p), some (.int b'), some (.int e), some (.ref pp), u, v, none]) (t := tTest (tOp (rI0 fun i j => .bl (decide (i < j))) (tOp (rIxT K) (tVar 6) (tC (.int 0))) (tOp (rIxT K) (tVar 6) (tC (.int 1))))) (te := tVar 6) (vs := [6]) (ei_list (es_of ev_c hq)) (fun i => [some (.ref a.p), some (.int b'), some (.int e), some (.ref pp), u, v, some ((xs ++ [V.ref t]).getD i .non)]) (fun i hi => tg_at (hgd i hi)) (fun i _ => rfl) (fun i => decide ((f i).1 < (f i).2)) (fun i => (xs ++ [V.ref t]).getD i .non) (fun i hi => by
        obtain ⟨t', h1, h2, _⟩ := hf i hi
        have h3 : (xs ++ [V.ref t]).getD i .non = .ref t' := by
          have := hgd i hi
          rw [h1] at this
          exact (Option.some.inj this).symm
        rw [h3]
        exact et_test (ev_op (ev_ixU (esu_of (ev_var rfl) h2) ev_c rfl) (ev_ixU (esu_of (ev_var rfl) h2) ev_c rfl) rv_I0)) (fun i hi _ => ev_var rfl) (by omega)
      refine fun H4 e4 Q q => hE H4 e4 Q fun p H5 _ e5 h5 => q _ H5 e5 ⟨p, _, rfl, h5, ?_, fun z hz => ?_⟩
      · have := given_len (xs ++ [V.ref t]).length (fun i => decide ((f i).1 < (f i).2)) fun i => (xs ++ [V.ref t]).getD i .non
        omega
      · obtain ⟨i, hi, rfl⟩ := mem_given hz
        obtain ⟨t', us, h1, h2, h3⟩ := hl3.at_ _ (getD_mem (d := V.non) hi)
        exact ⟨t', us, h1, (e4.trans e5) _ _ h2, h3⟩
theorem for_splitS {tl : TE} {g : TG} {P : VP} (e : Ex G H) (h : EvQ tl σ G P) (k : ∀ z H2, Ex G H2 → Ex H H2 → P z H2 → tSeq (tFor (iList K (tC z)) g ts) tz D σ H2) : tSeq (tFor (iList K tl) g ts) tz D σ H := h H e _ fun z H2 e2 pz => k z H2 (e.trans e2) e2 pz
def sp_busy_windows (K : PySem.W.Frag) : Sp := SpGone K (fun _ _ B _ us R => ∃ c : Nat, us = [.int c] ∧ R = isLow B 440) 1
theorem ok_busy_windows (T : Txt K mg) : ∃ fd, CalG P w K mg base 3 "busy_windows" (He.ga K "busy_windows") fd ["run", "client"] (sp_busy_windows K) := by
  obtain ⟨fd_Run_order, c_Run_order⟩ := ok_Run_order (P := P) (w := w) (base := base) T
  obtain ⟨fd_Run_scene, c_Run_scene⟩ := ok_Run_scene (P := P) (w := w) (base := base) T
  obtain ⟨fd_Scene_length, c_Scene_length⟩ := ok_Scene_length (P := P) (w := w) (base := base) T
  obtain ⟨fd_without_outages, c_without_outages⟩ := ok_without_outages (P := P) (w := w) (base := base) T
  obtain ⟨fd, F⟩ := T.f_busy_windows
  refine ⟨fd, T.g_busy_windows, F.kp, F.ok sc_busy_windows (fun vs H Q E h => ?_) (fun cdv A outer s H vs Q E hr h => ?_), F.bindsN fun _ _ _ _ _ _ us hl => match us, hl with | [_, _], _ => rfl⟩
  · exact h.len
  · obtain ⟨_, ⟨a, S, B, sv, us, rfl, _, g, c, rfl, rfl⟩, k⟩ := h
    obtain ⟨ms, s, R, hs⟩ := g.R
    refine ⟨_, PSs.nox (pss_cons (ps_set (i := 2) sc_busy_windows.nd rfl (by first | exact Or.inl rfl | exact Or.inr rfl) (pe_lst pa_nil))
      (pss_cons (ps_for PassesOwn.never rfl (pi_list (pe_meth0 (pv 0) T.c_Run c_Run_order.at_ c_Run_order.ok (hr.mono (by decide)) c_Run_order.b .nil pass0)) (pg_tup rfl (pgs_cons (pg_name (i := 3) sc_busy_windows.nd rfl (by first | exact Or.inl rfl | exact Or.inr rfl)) (pgs_cons (pg_name (i := 4) sc_busy_windows.nd rfl (by first | exact Or.inl rfl | exact Or.inr rfl)) pgs_nil))) (pss_one (ps_if (pt_cmpR op_ne (pv 4) (pv 1) (nomark _)) (pss_one (ps_expr (pe_bm PySem.F.plainAttrs_list PySem.F.slot_list_extend PySem.F.type_list_extend mt_extend (pv 2) (pa_cons (pe_call c_without_outages.ok (hr.mono (by decide)) (by rfl) c_without_outages.gl c_without_outages.kp c_without_outages.b .nil pass0 (pa_cons (pv 0) (pa_cons (pe_op op_add (pv 3) pe_int) (pa_cons (pe_op op_add (pv 3) (pe_meth0 (pe_meth0 (pv 0) T.c_Run c_Run_scene.at_ c_Run_scene.ok (hr.mono (by decide)) c_Run_scene.b .nil pass0) T.c_Scene c_Scene_length.at_ c_Scene_length.ok (hr.mono (by decide)) c_Scene_length.b .nil pass0)) pa_nil)))) pa_nil)))) pss_nil)))
      (pss_one (ps_ret (pv 2))))), ?_⟩
    have h40 := R.sc.n40
    have hns := g.nsv
    refine x_asgL (Ex.refl H) (el_lst (vs := []) ea_nil (by decide)) fun pf H1 e1 hpf _ hf1 => ?_
    refine for_splitS (Ex.refl H1) ((eq_gone (ev_var rfl) g (fun _ => by kernel_rfl) ea_nil ⟨rfl, rfl⟩ rfl : EvQ _ _ H _).mono e1) fun z H2 e2 _ hz => ?_
    obtain ⟨p, xs, rfl, hp, hx⟩ := hz
    have hxl := hx.1
    refine x_for (G := H2) (p := p) (xs := xs) (Ex.refl H2) ev_c (fun _ e => sq_of (e _ _ hp)) (fun i σ' H' => H' p = some (.lst xs) ∧ (∃ u v : Option V, σ' = [some (.ref a.p), some (.int (c : Int)), some (.ref pf), u, v]) ∧ Ex H H' ∧ Tups sv.length (fun _ => ordP sv) xs H' ∧ ∃ ys, H' pf = some (.lst ys) ∧ TupL (lowP B) (11 * i) ys H') ?_ (fun i σ' H' _ q => sq_of q.1) ?_ ?_
    · intro H3 e3 _
      exact ⟨e3 _ _ hp, ⟨none, none, rfl⟩, (e1.trans e2).trans e3, hx.mono e3, [], e3 _ _ (e2 _ _ hf1), Nat.le_refl _, fun z h => by cases h⟩
    · rintro i x σ' H' hxi ⟨hp', ⟨u, v, rfl⟩, e3, hx', ys, hy, ht⟩
      have hi : i < xs.length := (List.getElem?_eq_some_iff.mp hxi).1
      have hne : p ≠ pf := ne_of hp (e2 _ _ hf1) (by
        intro z
        have z1 : xs = [] := by injection z
        rw [z1] at hi
        cases hi)
      obtain ⟨t, us, rfl, h2, q, hq, rfl⟩ := hx'.2 i x hxi
      refine g_pair (st_of h2) ?_
      have hen := g.early q hq
      by_cases hc : q.1 = c
      · exact x_noL (Ex.refl H') (et_test (ev_op (ev_var rfl) (ev_var rfl) (rv_neI (by rw [hc, decide_eq_true rfl]; rfl)))) fun H4 e4 _ => ⟨e4 _ _ hp', ⟨_, _, rfl⟩, e3.trans e4, hx'.mono e4, ys, e4 _ _ hy, (ht.keep fun t us h => e4 _ _ h).le (by omega)⟩
      · refine x_then (Ex.refl H') (et_test (ev_op (ev_var rfl) (ev_var rfl) (rv_neI (by rw [decide_eq_false (by omega)]; rfl)))) fun H4 e4 _ => ?_
        have g4 := g.mono (e3.trans e4)
        obtain ⟨ms4, s4, R4, _⟩ := g4.R
        refine s_extQ (Pz := TupL (lowP B) 11) (e4 _ _ hy) (ev_var rfl) (eq_gfn (ea_cons (ev_var rfl) (ea_cons (ev_op (ev_var rfl) ev_c rv_I0) (ea_cons (ev_op (ev_var rfl) (ev_meth (ev_q (eq_gone (ev_var rfl) g4 (fun _ => by kernel_rfl) ea_nil ⟨rfl, rfl⟩ rfl)) R4.sc.o (by kernel_rfl) ea_nil (v_scene R4.sc ⟨rfl, rfl⟩ rfl : SpV (sp_Scene_length K) _ _ _)) rv_I0) ea_nil))) g4 ⟨_, _, rfl, hen, rfl⟩ rfl) (fun zs H5 hz => by have := hz.len; have := ht.len; omega) fun zs H5 e5 hz => ?_
        have hk := keep_lst (ys := ys ++ zs) (e5 _ _ (e4 _ _ hy))
        refine ⟨by rw [upd_ne hne]; exact e5 _ _ (e4 _ _ hp'), ⟨_, _, rfl⟩, Ex.mut ((e3.trans e4).trans e5) hpf, ⟨hx'.1, fun j z hz => ?_⟩, _, upd_same, ?_⟩
        · obtain ⟨t, us, h1, h2, h3⟩ := hx'.2 j z hz
          exact ⟨t, us, h1, hk _ _ (e5 _ _ (e4 _ _ h2)), h3⟩
        · exact ((ht.keep fun t us h => hk _ _ (e5 _ _ (e4 _ _ h))).app (hz.keep hk)).le (by omega)
    · rintro σ' H' ⟨_, ⟨u, v, rfl⟩, e3, _, ys, hy, ht⟩
      exact x_ret (Ex.refl H') (ev_var rfl) fun H4 e4 _ => k _ H4 (e3.trans e4) ⟨pf, ys, rfl, e4 _ _ hy, (ht.keep fun t us h => e4 _ _ h).le (by omega)⟩
def sp_count_within (K : PySem.W.Frag) : Sp := SpQ fun vs H R => ∃ (a : UA) (S : Sc) (B : Int) (sv : List (Nat × Nat × Int)) (c : Nat) (k k2 : Int) (p : Addr) (xs : List V) (m : Nat), vs = [.ref a.p, .int (c : Int), .ref p, .int k, .int k2] ∧ Gone K H a S B sv ∧ c < S.N ∧ H p = some (.lst xs) ∧ TupL (lowP B) m xs H ∧ B - S.s0 c ≤ k ∧ R = isV (.int 0)
theorem ok_count_within (T : Txt K mg) : ∃ fd, CalG P w K mg base 5 "count_within" (He.ga K "count_within") fd ["run", "client", "windows", "first", "stop"] (sp_count_within K) := by
  obtain ⟨fd_first_attempt, c_first_attempt⟩ := ok_first_attempt (P := P) (w := w) (base := base) T
  obtain ⟨fd, F⟩ := T.f_count_within
  refine ⟨fd, T.g_count_within, F.kp, F.ok sc_count_within (fun vs H Q E h => ?_) (fun cdv A outer s H vs Q E hr h => ?_), F.bindsN fun _ _ _ _ _ _ us hl => match us, hl with | [_, _, _, _, _], _ => rfl⟩
  · obtain ⟨_, ⟨_, _, _, _, _, _, _, _, _, _, rfl, _⟩, _⟩ := h
    rfl
  · obtain ⟨_, ⟨a, S, B, sv, c, j, j2, p, xs, m, rfl, g, hc, hp, ht, hB, rfl⟩, k⟩ := h
    obtain ⟨ms, s, R, hs⟩ := g.R
    refine ⟨_, PSs.nox (pss_cons (ps_set (i := 5) sc_count_within.nd rfl (by first | exact Or.inl rfl | exact Or.inr rfl) pe_int)
      (pss_cons (ps_for PassesOwn.never rfl (pi_list (pv 2)) (pg_tup rfl (pgs_cons (pg_name (i := 6) sc_count_within.nd rfl (by first | exact Or.inl rfl | exact Or.inr rfl)) (pgs_cons (pg_name (i := 7) sc_count_within.nd rfl (by first | exact Or.inl rfl | exact Or.inr rfl)) pgs_nil))) (pss_cons (ps_par (i := 8) (j := 9) (by rfl) sc_count_within.nd rfl rfl (by decide) rfl rfl (pa_cons (pe_call c_first_attempt.ok (hr.mono (by decide)) (by rfl) c_first_attempt.gl c_first_attempt.kp c_first_attempt.b .nil pass0 (pa_cons (pv 0) (pa_cons (pv 1) (pa_cons (pv 6) pa_nil)))) (pa_cons (pe_call c_first_attempt.ok (hr.mono (by decide)) (by rfl) c_first_attempt.gl c_first_attempt.kp c_first_attempt.b .nil pass0 (pa_cons (pv 0) (pa_cons (pv 1) (pa_cons (pv 7) pa_nil)))) pa_nil)) (by rfl))
      (pss_one (ps_aug (i := 5) sc_count_within.nd rfl (.inl rfl) (pe_callB (call_max2 rfl) (by rfl) T.b_max (by decide +kernel) (pa_cons pe_int (pa_cons (pe_op op_sub (pe_callB (call_min2 rfl) (by rfl) T.b_min (by decide +kernel) (pa_cons (pv 9) (pa_cons (pv 4) pa_nil))) (pe_callB (call_max2 rfl) (by rfl) T.b_max (by decide +kernel) (pa_cons (pv 8) (pa_cons (pv 3) pa_nil)))) pa_nil))) ip_add))))
      (pss_one (ps_ret (pv 5))))), ?_⟩
    have hst := g.st _ (s0_mem hc)
    refine x_asg (Ex.refl H) ev_c fun H1 e1 _ => ?_
    refine x_for (p := p) (xs := xs) e1 (ev_var rfl) (fun _ e => sq_of (e _ _ hp)) (fun i σ' H' => Ex H H' ∧ ∃ u1 u2 u3 u4 : Option V, σ' = [some (.ref a.p), some (.int (c : Int)), some (.ref p), some (.int j), some (.int j2), some (.int 0), u1, u2, u3, u4]) ?_ (fun i σ' H' _ q => sq_of (q.1 _ _ hp)) ?_ ?_
    · intro H2 e2 _
      exact ⟨e2, none, none, none, none, rfl⟩
    · rintro i x σ' H' hxi ⟨e2, u1, u2, u3, u4, rfl⟩
      obtain ⟨t, us, rfl, h2, b, e, rfl, he⟩ := ht.at_ x (List.mem_of_getElem? hxi)
      refine g_pair (st_of (e2 _ _ h2)) ?_
      refine x_par e2 (ev_q (eq_gfn (ea_cons (ev_var rfl) (ea_cons (ev_var rfl) (ea_cons (ev_var rfl) ea_nil))) g ⟨c, b, rfl, hc, rfl⟩ rfl)) (ev_q (eq_gfn (ea_cons (ev_var rfl) (ea_cons (ev_var rfl) (ea_cons (ev_var rfl) ea_nil))) g ⟨c, e, rfl, hc, rfl⟩ rfl)) fun H3 e3 _ => ?_
      have hle := first_le R.sc.ru.ok (show e - S.s0 c ≤ j by omega) (show 0 ≤ j by omega)
      refine s_aug (a := 0) (b := 0) rfl (ev_is (ev_max2 ev_c (ev_op (ev_min2 (ev_var rfl) (ev_var rfl)) (ev_max2 (ev_var rfl) (ev_var rfl)) rv_I0)) ?_) fun H4 e4 => ⟨e3.trans e4, _, _, _, _, rfl⟩
      congr 1
      split <;> split <;> split <;> omega
    · rintro σ' H' ⟨e2, u1, u2, u3, u4, rfl⟩
      exact x_ret e2 (ev_var rfl) fun H3 e3 _ => k _ H3 e3 rfl
theorem outs_low (g : Gone K H a S B sv) : TupL (lowP B) 10 (a.sa.rs.map V.ref) H := by
  obtain ⟨ms, s, R, _⟩ := g.R
  have h10 := R.sc.w10
  have hwl := R.sc.wn.len
  refine ⟨by rw [List.length_map]; omega, fun z hz => ?_⟩
  obtain ⟨r, hr, rfl⟩ := List.mem_map.mp hz
  obtain ⟨i, hi, e⟩ := List.mem_iff_getElem.mp hr
  obtain ⟨w, h1, h2⟩ := R.sc.wn.at_ i r (by rw [List.getElem?_eq_getElem hi, e])
  exact ⟨r, _, rfl, h2, _, _, rfl, g.win w (List.mem_of_getElem? h1)⟩
theorem low_of {m : Nat} {xs : List V} (h : EvL te σ G xs) (ht : TupL (lowP B) m xs G) : EvQ te σ G (isLow B m) := fun H1 e Q q => h H1 e Q fun p H2 _ e2 h2 => q _ H2 e2 ⟨p, xs, rfl, h2, ht.keep fun _ _ h => e2 _ _ (e _ _ h)⟩
theorem cw_call {E : XK} {c m : Nat} {j j2 : Int} (h0 : σ[0]? = some (some (.ref a.p))) (h1 : σ[1]? = some (some (.int (c : Int)))) (h2 : σ[2]? = some (some (.int j))) (h5 : σ[5]? = some (some (.int j2))) (h : EvQ te σ G (isLow B m)) (g : Gone K G a S B sv) (hc : c < S.N) (hB : B - S.s0 c ≤ j) :
    Ev (tCall (sp_count_within K) [] E (tCons (tVar 0) (tCons (tVar 1) (tCons te (tCons (tVar 2) (tCons (tVar 5) tNil)))))) σ G (.int 0) := fun H1 e Q q =>
  ⟨_, h0, ⟨_, h1, h H1 e _ fun z H2 e2 hz => ⟨_, h2, ⟨_, h5, by
    obtain ⟨p, xs, rfl, hp, ht⟩ := hz
    exact ⟨isV (.int 0), ⟨a, S, B, sv, c, j, j2, p, xs, m, rfl, g.mono (e.trans e2), hc, hp, ht, hB, rfl⟩, fun z H3 e3 hz => by
      cases hz
      exact q H3 (e2.trans e3)⟩⟩⟩⟩⟩
def sp_failure_counts (K : PySem.W.Frag) : Sp := SpGone K (fun _ S B sv us R => ∃ (c : Nat) (k k2 : Int), us = [.int c, .int k, .int k2] ∧ c ∈ nv S sv ∧ k ≤ k2 ∧ B - S.s0 c ≤ k ∧ R = isU [.int 0, .int 0, .int (k2 - k)]) 3
theorem ok_failure_counts (T : Txt K mg) : ∃ fd, CalG P w K mg base 6 "failure_counts" (He.ga K "failure_counts") fd ["run", "client", "first", "after"] (sp_failure_counts K) := by
  obtain ⟨fd_Run_scene, c_Run_scene⟩ := ok_Run_scene (P := P) (w := w) (base := base) T
  obtain ⟨fd_Scene_check_client, c_Scene_check_client⟩ := ok_Scene_check_client (P := P) (w := w) (base := base) T
  obtain ⟨fd_Scene_outages, c_Scene_outages⟩ := ok_Scene_outages (P := P) (w := w) (base := base) T
  obtain ⟨fd_attempts_made, c_attempts_made⟩ := ok_attempts_made (P := P) (w := w) (base := base) T
  obtain ⟨fd_busy_windows, c_busy_windows⟩ := ok_busy_windows (P := P) (w := w) (base := base) T
  obtain ⟨fd_check_bounds, c_check_bounds⟩ := ok_check_bounds (P := P) (w := w) (base := base) T
  obtain ⟨fd_check_run, c_check_run⟩ := ok_check_run (P := P) (w := w) (base := base) T
  obtain ⟨fd_count_within, c_count_within⟩ := ok_count_within (P := P) (w := w) (base := base) T
  obtain ⟨fd, F⟩ := T.f_failure_counts
  refine ⟨fd, T.g_failure_counts, F.kp, F.ok sc_failure_counts (fun vs H Q E h => ?_) (fun cdv A outer s H vs Q E hr h => ?_), F.bindsN fun _ _ _ _ _ _ us hl => match us, hl with | [_, _, _, _], _ => rfl⟩
  · exact h.len
  · obtain ⟨_, ⟨a, S, B, sv, us, rfl, _, g, c, j, j2, rfl, hc, hj, hB, rfl⟩, k⟩ := h
    obtain ⟨ms, s, R, hs⟩ := g.R
    refine ⟨_, PSs.nox (pss_cons (ps_expr (pe_call c_check_run.ok (hr.mono (by decide)) (by rfl) c_check_run.gl c_check_run.kp c_check_run.b .nil pass0 (pa_cons (pv 0) pa_nil)))
      (pss_cons (ps_expr (pe_meth (pe_meth0 (pv 0) T.c_Run c_Run_scene.at_ c_Run_scene.ok (hr.mono (by decide)) c_Run_scene.b .nil pass0) T.c_Scene c_Scene_check_client.at_ c_Scene_check_client.ok (hr.mono (by decide)) c_Scene_check_client.b .nil pass0 (pa_cons (pv 1) pa_nil)))
      (pss_cons (ps_expr (pe_call c_check_bounds.ok (hr.mono (by decide)) (by rfl) c_check_bounds.gl c_check_bounds.kp c_check_bounds.b .nil pass0 (pa_cons (pv 2) (pa_cons (pv 3) pa_nil))))
      (pss_cons (ps_set (i := 4) sc_failure_counts.nd rfl (by first | exact Or.inl rfl | exact Or.inr rfl) (pe_call c_attempts_made.ok (hr.mono (by decide)) (by rfl) c_attempts_made.gl c_attempts_made.kp c_attempts_made.b .nil pass0 (pa_cons (pv 0) (pa_cons (pv 1) pa_nil))))
      (pss_cons (ps_set (i := 5) sc_failure_counts.nd rfl (by first | exact Or.inl rfl | exact Or.inr rfl) (pe_ifExp (pt_cmpR op_isN (pv 4) pe_non (nomark _)) (pv 3) (pe_callB (call_min2 rfl) (by rfl) T.b_min (by decide +kernel) (pa_cons (pv 3) (pa_cons (pe_op op_sub (pv 4) (pe_callTy call_int1 (by rfl) T.b_int (by decide +kernel) (pa_cons (pe_cmp (pc_din (hu_of hr) (pv 1) (pe_fld (pv 0) rfl)) rfl) pa_nil))) pa_nil)))))
      (pss_cons (ps_set (i := 2) sc_failure_counts.nd rfl (by first | exact Or.inl rfl | exact Or.inr rfl) (pe_callB (call_min2 rfl) (by rfl) T.b_min (by decide +kernel) (pa_cons (pv 2) (pa_cons (pv 5) pa_nil))))
      (pss_cons (ps_set (i := 6) sc_failure_counts.nd rfl (by first | exact Or.inl rfl | exact Or.inr rfl) (pe_call c_count_within.ok (hr.mono (by decide)) (by rfl) c_count_within.gl c_count_within.kp c_count_within.b .nil pass0 (pa_cons (pv 0) (pa_cons (pv 1) (pa_cons (pe_meth0 (pe_meth0 (pv 0) T.c_Run c_Run_scene.at_ c_Run_scene.ok (hr.mono (by decide)) c_Run_scene.b .nil pass0) T.c_Scene c_Scene_outages.at_ c_Scene_outages.ok (hr.mono (by decide)) c_Scene_outages.b .nil pass0) (pa_cons (pv 2) (pa_cons (pv 5) pa_nil)))))))
      (pss_cons (ps_set (i := 7) sc_failure_counts.nd rfl (by first | exact Or.inl rfl | exact Or.inr rfl) (pe_call c_count_within.ok (hr.mono (by decide)) (by rfl) c_count_within.gl c_count_within.kp c_count_within.b .nil pass0 (pa_cons (pv 0) (pa_cons (pv 1) (pa_cons (pe_call c_busy_windows.ok (hr.mono (by decide)) (by rfl) c_busy_windows.gl c_busy_windows.kp c_busy_windows.b .nil pass0 (pa_cons (pv 0) (pa_cons (pv 1) pa_nil))) (pa_cons (pv 2) (pa_cons (pv 5) pa_nil)))))))
      (pss_one (ps_ret (pe_tup (pa_cons (pv 6) (pa_cons (pv 7) (pa_cons (pe_op op_sub (pe_op op_sub (pe_op op_sub (pv 5) (pv 2)) (pv 6)) (pv 7)) pa_nil)))))))))))))), ?_⟩
    obtain ⟨hcN, hcs⟩ := mem_nv.mp hc
    have hst := g.st _ (s0_mem hcN)
    refine x_drop (Ex.refl H) (ev_q (eq_gfn (ea_cons (ev_var rfl) ea_nil) g ⟨rfl, rfl⟩ rfl)) fun H1 e1 _ => ?_
    refine x_drop e1 (ev_meth (ev_q (eq_gone (ev_var rfl) g (fun _ => by kernel_rfl) ea_nil ⟨rfl, rfl⟩ rfl)) R.sc.o (by kernel_rfl) (ea_cons (ev_var rfl) ea_nil) (v_scene R.sc ⟨c, rfl, hcN, rfl⟩ rfl : SpV (sp_Scene_check_client K) _ _ _)) fun H2 e2 _ => ?_
    refine x_drop e2 (ev_fn (ea_cons (ev_var rfl) (ea_cons (ev_var rfl) ea_nil)) (v_check_bounds (by omega) hj)) fun H3 e3 _ => ?_
    refine x_asg e3 (ev_q (eq_gfn (ea_cons (ev_var rfl) (ea_cons (ev_var rfl) ea_nil)) g ⟨c, rfl, hcs, rfl⟩ rfl)) fun H4 e4 _ => ?_
    refine x_asg e4 (ev_ifT (et_test (ev_is (ev_isN (ev_var rfl)) rfl)) (ev_var rfl)) fun H5 e5 _ => ?_
    refine x_asg e5 (ev_is (ev_min2 (ev_var rfl) (ev_var rfl)) (show V.int (if j2 < j then j2 else j) = .int j by congr 1; split <;> omega)) fun H6 e6 _ => ?_
    -- the two counts: the list of windows, then the call
    refine x_asg (v := .int 0) e6 (cw_call rfl rfl rfl rfl (low_of (el_meth (ev_q (eq_gone (ev_var rfl) g (fun _ => by kernel_rfl) ea_nil ⟨rfl, rfl⟩ rfl)) R.sc.o (by kernel_rfl) ea_nil (l_scene R.sc ⟨rfl, rfl⟩ rfl : SpL (sp_Scene_outages K) _ _ _)) (outs_low g)) g hcN hB) fun H7 e7 _ => ?_
    refine x_asg (v := .int 0) e7 (cw_call rfl rfl rfl rfl (eq_gfn (ea_cons (ev_var rfl) (ea_cons (ev_var rfl) ea_nil)) g ⟨c, rfl, rfl⟩ rfl) g hcN hB) fun H8 e8 _ => ?_
    refine x_retQ e8 (q_eu (eu_tup (ea_cons (ev_var rfl) (ea_cons (ev_var rfl) (ea_cons (ev_is (ev_op (ev_op (ev_op (ev_var rfl) (ev_var rfl) rv_I0) (ev_var rfl) rv_I0) (ev_var rfl) rv_I0) (show V.int (j2 - j - 0 - 0) = .int (j2 - j) by congr 1; omega)) ea_nil))) (show 3 ≤ 100000 by decide))) fun z H9 e9 _ hz => k z H9 e9 hz
end
end RS
end

section
set_option Elab.async false
set_option linter.all false
set_option maxRecDepth 100000
set_option maxHeartbeats 4000000
namespace RS
open PySem PySem.Spec PyProof.Rows L2 Evl
/-! ### a source of draws: a list of three ints, the last one a count -/
def WellA (H : Hp) (p : Addr) (n : Nat) : Prop := ∃ i j c : Int, H p = some (.lst [.int i, .int j, .int c]) ∧ 0 ≤ c ∧ c ≤ (n : Int)
theorem WellA.le {H : Hp} {p : Addr} {n m : Nat} (h : WellA H p n) (e : n ≤ m) : WellA H p m := by
  obtain ⟨i, j, c, h1, h2, h3⟩ := h
  exact ⟨i, j, c, h1, h2, by omega⟩
theorem WellA.mono {H H' : Hp} {p : Addr} {n : Nat} (h : WellA H p n) (e : Ex H H') : WellA H' p n := by
  obtain ⟨i, j, c, h1, h2, h3⟩ := h
  exact ⟨i, j, c, e _ _ h1, h2, h3⟩
theorem WellA.ne {H : Hp} {p q : Addr} {n : Nat} (h : WellA H p n) (hq : H q = none) : q ≠ p := fun z => by
  obtain ⟨i, j, c, h1, _⟩ := h
  rw [z, h1] at hq
  cases hq
theorem WellA.neT {H : Hp} {p q : Addr} {n : Nat} {us : List V} (h : WellA H p n) (hq : H q = some (.tup us)) : q ≠ p := fun z => by
  obtain ⟨i, j, c, h1, _⟩ := h
  rw [z, h1] at hq
  cases hq
theorem hid_of {H : Hp} {p b : Addr} {o : HO} (n : b ≠ p) (h : H b = some o) : hide H [p] b = some o := by
  rw [hide_out (by simpa using n)]
  exact h
theorem hid_ex {p : Addr} {H H' : Hp} (e : ExB [p] H H') : Ex (hide H [p]) (hide H' [p]) := fun b o h => by
  unfold hide at h ⊢
  split at h
  · cases h
  · rename_i z
    rw [if_neg z]
    exact e b o z h
theorem hid_exE {p : Addr} {H H' : Hp} (e : Ex H H') : Ex (hide H [p]) (hide H' [p]) := hid_ex (ExB.of e)
theorem hid_none {p : Addr} {H : Hp} : hide H [p] p = none := hide_in (List.mem_singleton.mpr rfl)
/-- evaluated with draws -/
def EvW (p : Addr) (d : Nat) (te : TE) (σ : L2.St) (G : Hp) (R : VP) : Prop := ∀ n H1, n + d ≤ 100000 → WellA H1 p n → Ex G (hide H1 [p]) → ∀ Q : VK, (∀ z H2, ExB [p] H1 H2 → WellA H2 p (n + d) → R z (hide H2 [p]) → Q z H2) → te σ H1 Q
def SpW (A : Hp → List V → VP → Nat → Prop) : Sp := fun vs H Q _ => ∃ p n us d R, vs = .ref p :: us ∧ WellA H p n ∧ n + d ≤ 100000 ∧ A (hide H [p]) us R d ∧ ∀ z H', ExB [p] H H' → WellA H' p (n + d) → R z (hide H' [p]) → Q z H'
def isI (A : Int → Prop) : VP := fun z _ => ∃ i, z = .int i ∧ A i
/-- facts that stay -/
def Stay (R : VP) : Prop := ∀ z H H', Ex H H' → R z H → R z H'
theorem stay_I {A : Int → Prop} : Stay (isI A) := fun _ _ _ _ h => h
theorem stay_V {v : V} : Stay (isV v) := fun _ _ _ _ h => h
theorem stay_L {xs : List V} : Stay (isL xs) := fun _ _ _ e ⟨p, h1, h2⟩ => ⟨p, h1, e _ _ h2⟩
theorem stay_U {xs : List V} : Stay (isU xs) := fun _ _ _ e ⟨p, h1, h2⟩ => ⟨p, h1, e _ _ h2⟩
section
variable {K : PySem.W.Frag} {p : Addr} {d d1 d2 : Nat} {σ : L2.St} {G H H' : Hp} {ta tb te tl : TE} {R R1 : VP} {vs : List Nat} {D : Ends} {tz tu : TS}
theorem EvW.mono (e : Ex G H) (h : EvW p d te σ G R) : EvW p d te σ H R := fun n H1 hn hw g Q q => h n H1 hn hw (e.trans g) Q q
theorem EvW.imp (h : EvW p d te σ G R) (k : ∀ z H, Ex G H → R z H → R1 z H) : EvW p d te σ G R1 := fun n H1 hn hw g Q q => h n H1 hn hw g Q fun z H2 e2 w2 r => q z H2 e2 w2 (k z _ (g.trans (hid_ex e2)) r)
theorem EvW.le (h : EvW p d1 te σ G R) (e : d1 ≤ d2) : EvW p d2 te σ G R := fun n H1 hn hw g Q q => h n H1 (by omega) hw g Q fun z H2 e2 w2 r => q z H2 e2 (w2.le (by omega)) r
theorem ew_ev {v : V} (h : Ev te σ G v) : EvW p 0 te σ G (isV v) := fun n H1 hn hw g Q q => h H1 (g.trans hide_ex) Q fun H2 e2 => q v H2 (ExB.of e2) (hw.mono e2) rfl
theorem ew_int {i : Int} {A : Int → Prop} (h : Ev te σ G (.int i)) (hA : A i) : EvW p 0 te σ G (isI A) := (ew_ev h).imp fun z H _ hz => ⟨i, hz, hA⟩
theorem ew_lst {xs : List V} (h : EvL te σ G xs) : EvW p 0 te σ G (isL xs) := fun n H1 hn hw g Q q => h H1 (g.trans hide_ex) Q fun r H2 hr e2 h2 => q _ H2 (ExB.of e2) (hw.mono e2) ⟨r, rfl, hid_of (hw.ne hr) h2⟩
theorem ew_tup {xs : List V} (h : EvU te σ G xs) : EvW p 0 te σ G (isU xs) := fun n H1 hn hw g Q q => h H1 (g.trans hide_ex) Q fun r H2 hr e2 h2 => q _ H2 (ExB.of e2) (hw.mono e2) ⟨r, rfl, hid_of (hw.ne hr) h2⟩
theorem ew_op {r : R2} {A B C : Int → Prop} {g : Int → Int → Int} (ha : EvW p d1 ta σ G (isI A)) (hb : EvW p d2 tb σ G (isI B)) (hr : ∀ i j H, A i → B j → RV r (.int i) (.int j) H (.int (g i j))) (hC : ∀ i j, A i → B j → C (g i j)) : EvW p (d1 + d2) (tOp r ta tb) σ G (isI C) := fun n H1 hn hw e Q q =>
  ha n H1 (by omega) hw e _ fun z H2 e2 w2 ⟨i, hz, hi⟩ => hb (n + d1) H2 (by omega) w2 (e.trans (hid_ex e2)) _ fun y H3 e3 w3 ⟨j, hy, hj⟩ => by
    subst hz hy
    exact hr i j H3 hi hj H3 (Ex.refl _) Q fun H4 e4 => q _ H4 ((e2.trans e3).trans (ExB.of e4)) (by rw [← Nat.add_assoc]; exact w3.mono e4) ⟨_, rfl, hC i j hi hj⟩
/-- a call of a def that draws, the second argument with draws, too -/
theorem ew_call {A : Hp → List V → VP → Nat → Prop} {E : XK} {i : Nat} (h0 : σ[i]? = some (some (.ref p))) (h : EvW p d1 te σ G R1) (hA : ∀ z G', Ex G G' → R1 z G' → A G' [z] R d2) : EvW p (d1 + d2) (tCall (SpW A) [] E (tCons (tVar i) (tCons te tNil))) σ G R := fun n H1 hn hw e Q q =>
  ⟨_, h0, h n H1 (by omega) hw e _ fun z H2 e2 w2 r => ⟨p, n + d1, [z], d2, R, rfl, w2, by omega, hA z _ (e.trans (hid_ex e2)) r, fun y H3 e3 w3 r3 => q y H3 (e2.trans e3) (by rw [← Nat.add_assoc]; exact w3) r3⟩⟩
theorem ew_call0 {A : Hp → List V → VP → Nat → Prop} {E : XK} {i : Nat} (h0 : σ[i]? = some (some (.ref p))) (hA : ∀ G', Ex G G' → A G' [] R d) : EvW p d (tCall (SpW A) [] E (tCons (tVar i) tNil)) σ G R := fun n H1 hn hw e Q q =>
  ⟨_, h0, ⟨p, n, [], d, R, rfl, hw, hn, hA _ e, fun y H3 e3 w3 r3 => q y H3 e3 w3 r3⟩⟩
/-- some values, with draws -/
def EvAW (p : Addr) (d : Nat) (ta : TA) (σ : L2.St) (G : Hp) (R : List V → Hp → Prop) : Prop := ∀ n H1, n + d ≤ 100000 → WellA H1 p n → Ex G (hide H1 [p]) → ∀ Q : List V → Hp → Prop, (∀ z H2, ExB [p] H1 H2 → WellA H2 p (n + d) → R z (hide H2 [p]) → Q z H2) → ta σ H1 Q
theorem ew_anil : EvAW p 0 tNil σ G (fun vs _ => vs = []) := fun n H1 hn hw e Q q => q [] H1 ExB.refl hw rfl
theorem ew_acons {tr : TA} {S : List V → Hp → Prop} (h : EvW p d1 te σ G R) (hs : Stay R) (hr : EvAW p d2 tr σ G S) : EvAW p (d1 + d2) (tCons te tr) σ G (fun vs H => ∃ z r, vs = z :: r ∧ R z H ∧ S r H) := fun n H1 hn hw e Q q =>
  h n H1 (by omega) hw e _ fun z H2 e2 w2 r => hr (n + d1) H2 (by omega) w2 (e.trans (hid_ex e2)) _ fun zs H3 e3 w3 s => q _ H3 (e2.trans e3) (by rw [← Nat.add_assoc]; exact w3) ⟨z, zs, rfl, hs _ _ _ (hid_ex e3) r, s⟩
theorem ew_tupW {tt : TA} {S : List V → Hp → Prop} {m : Nat} (h : EvAW p d tt σ G S) (hl : ∀ vs H, S vs H → vs.length = m) (hm : m ≤ 100000) (hs : ∀ vs H H', Ex H H' → S vs H → S vs H') : EvW p d (tTup tt) σ G (fun z H => ∃ t vs, z = .ref t ∧ H t = some (.tup vs) ∧ S vs H) := fun n H1 hn hw e Q q =>
  h n H1 hn hw e _ fun vs H2 e2 w2 s => ⟨by rw [hl _ _ s]; exact sz_of hm, fun t ht => q _ _ (e2.trans (ExB.of (Ex.new ht))) (w2.mono (Ex.new ht)) ⟨t, vs, rfl, hid_of (w2.ne ht) upd_same, hs _ _ _ (hid_exE (Ex.new ht)) s⟩⟩
theorem ew_lstW {tt : TA} {S : List V → Hp → Prop} {m : Nat} (h : EvAW p d tt σ G S) (hl : ∀ vs H, S vs H → vs.length = m) (hm : m ≤ 100000) (hs : ∀ vs H H', Ex H H' → S vs H → S vs H') : EvW p d (tLst tt) σ G (fun z H => ∃ t vs, z = .ref t ∧ H t = some (.lst vs) ∧ S vs H) := fun n H1 hn hw e Q q =>
  h n H1 hn hw e _ fun vs H2 e2 w2 s => ⟨by rw [hl _ _ s]; exact sz_of hm, fun t ht => q _ _ (e2.trans (ExB.of (Ex.new ht))) (w2.mono (Ex.new ht)) ⟨t, vs, rfl, hid_of (w2.ne ht) upd_same, hs _ _ _ (hid_exE (Ex.new ht)) s⟩⟩
theorem x_asgW {i n : Nat} (hw : WellA H p n) (h : EvW p d te σ (hide H [p]) R) (hn : n + d ≤ 100000) (k : ∀ z H1, ExB [p] H H1 → WellA H1 p (n + d) → R z (hide H1 [p]) → tz D (σ.set i (some z)) H1) : tSeq (tAsg te (gName i)) tz D σ H := h n H hn hw (Ex.refl _) _ k
theorem s_asgW {i n : Nat} (hw : WellA H p n) (h : EvW p d te σ (hide H [p]) R) (hn : n + d ≤ 100000) (k : ∀ z H1, ExB [p] H H1 → WellA H1 p (n + d) → R z (hide H1 [p]) → D.nx (σ.set i (some z)) H1) : tAsg te (gName i) D σ H := h n H hn hw (Ex.refl _) _ k
theorem x_retW {n : Nat} (hw : WellA H p n) (h : EvW p d te σ (hide H [p]) R) (hn : n + d ≤ 100000) (k : ∀ z H1, ExB [p] H H1 → WellA H1 p (n + d) → R z (hide H1 [p]) → D.rt z H1) : tRet te D σ H := h n H hn hw (Ex.refl _) _ k
/-- ints of a list -/
def isNs (lo hi : Nat) (A : Int → Prop) : VP := fun z H => ∃ (q : Addr) (ns : List Int), z = .ref q ∧ H q = some (.lst (ns.map V.int)) ∧ lo ≤ ns.length ∧ ns.length ≤ hi ∧ ∀ x ∈ ns, A x
theorem stay_Ns {lo hi : Nat} {A : Int → Prop} : Stay (isNs lo hi A) := fun _ _ _ e ⟨q, ns, h1, h2, h3⟩ => ⟨q, ns, h1, e _ _ h2, h3⟩
/-- [e for k in range(n)], both with draws -/
theorem ew_compR {lo M : Nat} {A : Int → Prop} {j : Nat} {tel : TE} (h : EvW p d1 te σ G (isI fun i => (lo : Int) ≤ i ∧ i ≤ (M : Int))) (hM : M ≤ 1000) (hw0 : ∀ x, wipe ((wipe σ vs).set j (some x)) vs = wipe σ vs) (he : ∀ i : Int, EvW p d2 tel ((wipe σ vs).set j (some (.int i))) G (isI A)) :
    EvW p (d1 + M * d2) (tLc (iRng1 (tCons te tNil)) (gName j) tYes tel vs) σ G (isNs lo M A) := fun n H1 hn hw e Q q =>
  h n H1 (by omega) hw e _ fun z H2 e2 w2 ⟨i, hz, h1, h2⟩ => by
    subst hz
    refine ⟨i, rfl, by omega, by omega, fun Dl hD => ?_⟩
    have hne : Dl ≠ p := w2.ne hD
    have hmul : ∀ m : Nat, m ≤ M → m * d2 ≤ M * d2 := fun m hm => Nat.mul_le_mul_right _ hm
    refine lc_it walk_range (fun m H' => ExB [p] H2 H' ∧ WellA H' p (n + d1 + m * d2) ∧ ∃ ns : List Int, H' Dl = some (.lst (ns.map V.int)) ∧ ns.length = m ∧ ∀ x ∈ ns, A x) ⟨ExB.of (Ex.new hD), (w2.mono (Ex.new hD)).le (by omega), [], upd_same, rfl, fun x hx => by cases hx⟩ (fun _ _ _ _ => trivial) ?_ ?_
    · rintro m x H' H'' hm ⟨e3, w3, ns, hns, hl, hA⟩ ⟨rfl, rfl⟩
      refine ⟨hw0 _, ?_⟩
      show tel _ H'' fun y H4 => _
      have hmM : m + 1 ≤ M := by omega
      have hm1 := hmul (m + 1) hmM
      have hs1 : (m + 1) * d2 = m * d2 + d2 := by rw [Nat.add_mul, Nat.one_mul]
      refine he (0 + (m : Int)) (n + d1 + m * d2) H'' (by omega) w3 (e.trans (hid_ex (e2.trans e3))) _ fun y H4 e4 w4 ⟨v, hy, hv⟩ => ?_
      subst hy
      have h4 := e4 Dl _ (by simpa using hne) hns
      refine ⟨_, h4, by rw [List.length_map, hl]; exact sz_lt (by omega), ?_, ?_, ns ++ [v], ?_, by rw [List.length_append, hl]; rfl, fun x hx => ?_⟩
      · intro b o hb hbo
        have h5 := (e3.trans e4) b o hb hbo
        rw [upd_ne (fun z => by rw [z, hD] at hbo; cases hbo)]
        exact h5
      · rw [hs1, ← Nat.add_assoc]
        obtain ⟨a1, a2, a3, a4, a5⟩ := w4
        refine ⟨a1, a2, a3, ?_, a5⟩
        rw [upd_ne hne.symm]
        exact a4
      · rw [upd_same, List.map_append]
        rfl
      · rcases List.mem_append.mp hx with z | z
        · exact hA x z
        · rw [List.mem_singleton.mp z]
          exact hv
    · rintro H' ⟨e3, w3, ns, hns, hl, hA⟩
      have h6 := hmul i.toNat (by omega)
      refine q _ H' (e2.trans e3) (w3.le (by omega)) ⟨Dl, ns, rfl, hid_of hne hns, by omega, by omega, hA⟩
/-- for k in range(n), n with draws -/
theorem x_forRW {M j n : Nat} (hw : WellA H p n) (h : EvW p d1 te σ (hide H [p]) (isI fun i => 0 ≤ i ∧ i ≤ (M : Int))) (hM : M ≤ 1000) (hn : n + d1 ≤ 100000) (Pv : Nat → L2.St → Hp → Prop) (h0 : ∀ H1, ExB [p] H H1 → WellA H1 p (n + d1) → Pv 0 σ H1)
    (hs : ∀ m σ' H', m < M → Pv m σ' H' → tu { D with nx := Pv (m + 1), ct := Pv (m + 1), bk := tz D } (σ'.set j (some (.int (m : Int)))) H') (hd : ∀ m σ' H', m ≤ M → Pv m σ' H' → tz D σ' H') : tSeq (tFor (iRng1 (tCons te tNil)) (gName j) tu) tz D σ H :=
  h n H hn hw (Ex.refl _) _ fun z H2 e2 w2 ⟨i, hz, h1, h2⟩ => by
    subst hz
    refine ⟨i, rfl, by omega, by omega, for_it (D := { D with nx := tz D }) walk_range Pv (h0 H2 e2 w2) (fun _ _ _ _ _ => trivial) ?_ (fun σ' H' q => hd i.toNat σ' H' (by omega) q)⟩
    rintro m x σ' H' H'' hm hP ⟨rfl, rfl⟩
    have := hs m σ' H'' (by omega) hP
    show tu _ (σ'.set j (some (.int (0 + (m : Int))))) H''
    rw [Int.zero_add]
    exact this
/-- xs.append(e), e with draws -/
theorem x_appW {l : Addr} {xs : List V} {n : Nat} (hw : WellA H p n) (hl : hide H [p] l = some (.lst xs)) (ha : Ev ta σ (hide H [p]) (.ref l)) (h : EvW p d te σ (hide H [p]) R) (hn : n + d ≤ 100000) (hz : xs.length < 100000) (k : ∀ z H1, ExB [p] H H1 → WellA H1 p (n + d) → R z (hide H1 [p]) → hide H1 [p] l = some (.lst xs) → tz D σ (upd H1 l (.lst (xs ++ [z])))) :
    tSeq (tDrop (tBM K "list" rAppend ta (tCons te tNil))) tz D σ H := ha H hide_ex _ fun H1 e1 =>
  ⟨Or.inl ⟨rfl, xs, sq_of (e1 l _ (hide_ex _ _ hl))⟩, h n H1 hn (hw.mono e1) (hid_exE e1) _ fun z H2 e2 w2 r => by
    have h3 := hid_ex e2 _ _ (hid_exE e1 _ _ hl)
    exact ⟨l, xs, z, rfl, rfl, hide_ex _ _ h3, sz_lt hz, k z H2 ((ExB.of e1).trans e2) w2 r h3⟩⟩
end
end RS
end

section
set_option Elab.async false
set_option linter.all false
set_option maxRecDepth 100000
set_option maxHeartbeats 4000000
namespace RS
open PySem PySem.Spec PyProof.Rows L2 Evl
section
variable {P : Program} {w : World} {K : PySem.W.Frag} {mg : Str → Option Value} {base : Heap} {G H : Hp} {p : Addr} {d : Nat} {σ : L2.St} {ta td te tb tu : TE} {D : Ends} {tz ts : TS}
theorem rv_mod {i j : Int} (h : 0 < j) : RV (rI (fun _ j => 0 < j) fun i j => .int (i % j)) (.int i) (.int j) H (.int (i % j)) := rv_I h
theorem rv_fdW {i j : Int} (h : 0 < j) (hb : j.natAbs < 2 ^ 100) : RV (rI CDivW fun i j => .int (i / j)) (.int i) (.int j) H (.int (i / j)) := rv_I (wide_div h hb (by decide) (by decide))
theorem rv_mulL {i j : Int} (h : -(2 ^ 64) < i ∧ i < 2 ^ 64) : RV (rI CMul fun i j => .int (i * j)) (.int i) (.int j) H (.int (i * j)) := rv_I (.inl h)
theorem rv_mulR {i j : Int} (h : -(2 ^ 64) < j ∧ j < 2 ^ 64) : RV (rI CMul fun i j => .int (i * j)) (.int i) (.int j) H (.int (i * j)) := rv_I (.inr h)
def sp_law_mixed : Sp := SpQ fun vs _ R => ∃ i k : Int, vs = [.int i, .int k] ∧ 0 ≤ k ∧ k ≤ 200000 ∧ R = isI fun _ => True
theorem ok_law_mixed (T : Txt K mg) : ∃ fd, CalG P w K mg base 1 "_law_mixed" (He.ga K "_law_mixed") fd ["_law_cell", "_law_k"] sp_law_mixed := by
  obtain ⟨fd, F⟩ := T.f_law_mixed
  refine ⟨fd, T.g_law_mixed, F.kp, F.ok sc_law_mixed (fun vs H Q E h => ?_) (fun cdv A outer s H vs Q E hr h => ?_), F.bindsN fun _ _ _ _ _ _ us hl => match us, hl with | [_, _], _ => rfl⟩
  · obtain ⟨_, ⟨_, _, rfl, _⟩, _⟩ := h
    rfl
  · obtain ⟨_, ⟨i, j, rfl, h0, h1, rfl⟩, k⟩ := h
    refine ⟨_, PSs.nox (pss_cons (ps_set (i := 2) sc_law_mixed.nd rfl (by first | exact Or.inl rfl | exact Or.inr rfl) (pe_op op_mod (pe_callTy call_int1 (by rfl) T.b_int (by decide +kernel) (pa_cons (pe_op op_pow (pe_op op_add (pe_op op_add (pe_op op_mod (pe_callTy call_int1 (by rfl) T.b_int (by decide +kernel) (pa_cons (pv 0) pa_nil)) pe_int) (pe_op op_mul pe_int (pv 1))) pe_int) pe_int) pa_nil)) pe_int))
      (pss_cons (ps_set (i := 2) sc_law_mixed.nd rfl (by first | exact Or.inl rfl | exact Or.inr rfl) (pe_op op_mod (pe_callTy call_int1 (by rfl) T.b_int (by decide +kernel) (pa_cons (pe_op op_add (pv 2) (pe_op op_mul (pe_op op_mod (pe_callTy call_int1 (by rfl) T.b_int (by decide +kernel) (pa_cons (pe_op op_fdivW (pv 0) pe_int) pa_nil)) pe_int) (pe_op op_add (pv 1) pe_int))) pa_nil)) pe_int))
      (pss_cons (ps_set (i := 2) sc_law_mixed.nd rfl (by first | exact Or.inl rfl | exact Or.inr rfl) (pe_op op_mod (pe_callTy call_int1 (by rfl) T.b_int (by decide +kernel) (pa_cons (pe_op op_mul (pv 2) (pe_op op_add (pe_op op_add (pe_op op_fdivW (pv 2) pe_int) pe_int) (pv 1))) pa_nil)) pe_int))
      (pss_one (ps_ret (pe_op op_mod (pe_callTy call_int1 (by rfl) T.b_int (by decide +kernel) (pa_cons (pe_op op_mul (pv 2) (pe_op op_add (pe_op op_fdivW (pv 2) pe_int) pe_int)) pa_nil)) pe_int)))))), ?_⟩
    have a1 := Int.emod_nonneg i (show (2147483629 : Int) ≠ 0 by decide)
    have a2 := Int.emod_lt_of_pos i (show (0 : Int) < 2147483629 by decide)
    refine x_asg (Ex.refl H) (ev_op (ev_int1 (ev_op (ev_op (ev_op (ev_op (ev_int1 (ev_var rfl)) ev_c (rv_mod (by decide))) (ev_op ev_c (ev_var rfl) (rv_mulL (by decide))) rv_I0) ev_c rv_I0) ev_c (rv_I ⟨by decide, by decide, by omega⟩))) ev_c (rv_mod (by decide))) fun H1 e1 _ => ?_
    generalize ((i % 2147483629 + 30011 * j + 7) ^ (3 : Int).toNat) = m0
    have b1 := Int.emod_nonneg m0 (show (2147483647 : Int) ≠ 0 by decide)
    have b2 := Int.emod_lt_of_pos m0 (show (0 : Int) < 2147483647 by decide)
    generalize m0 % 2147483647 = m1 at b1 b2
    have c1 := Int.emod_nonneg (i / 2147483629) (show (65537 : Int) ≠ 0 by decide)
    have c2 := Int.emod_lt_of_pos (i / 2147483629) (show (0 : Int) < 65537 by decide)
    refine x_asg e1 (ev_op (ev_int1 (ev_op (ev_var rfl) (ev_op (ev_op (ev_int1 (ev_op (ev_var rfl) ev_c (rv_fdW (by decide) (by decide)))) ev_c (rv_mod (by decide))) (ev_op (ev_var rfl) ev_c rv_I0) (rv_mulL ⟨by omega, by omega⟩)) rv_I0)) ev_c (rv_mod (by decide))) fun H2 e2 _ => ?_
    generalize (m1 + i / 2147483629 % 65537 * (j + 5)) = m2
    have d1 := Int.emod_nonneg m2 (show (2147483587 : Int) ≠ 0 by decide)
    have d2 := Int.emod_lt_of_pos m2 (show (0 : Int) < 2147483587 by decide)
    generalize m2 % 2147483587 = m3 at d1 d2
    refine x_asg e2 (ev_op (ev_int1 (ev_op (ev_var rfl) (ev_op (ev_op (ev_op (ev_var rfl) ev_c (rv_fdW (by decide) (by decide))) ev_c rv_I0) (ev_var rfl) rv_I0) (rv_mulL ⟨by omega, by omega⟩))) ev_c (rv_mod (by decide))) fun H3 e3 _ => ?_
    generalize (m3 * (m3 / 1009 + 69621 + j)) = m4
    have f1 := Int.emod_nonneg m4 (show (2147483563 : Int) ≠ 0 by decide)
    have f2 := Int.emod_lt_of_pos m4 (show (0 : Int) < 2147483563 by decide)
    generalize m4 % 2147483563 = m5 at f1 f2
    exact x_ret e3 (ev_op (ev_int1 (ev_op (ev_var rfl) (ev_op (ev_op (ev_var rfl) ev_c (rv_fdW (by decide) (by decide))) ev_c rv_I0) (rv_mulL ⟨by omega, by omega⟩))) ev_c (rv_mod (by decide))) fun H4 e4 _ => k _ H4 e4 ⟨_, rfl, trivial⟩
def sp_law_well : Sp := SpQ fun vs H R => ∃ i : Int, vs = [.int i] ∧ R = fun z H' => ∃ p, z = .ref p ∧ WellA H' p 0 ∧ H p = none
theorem ok_law_well (T : Txt K mg) : ∃ fd, CalG P w K mg base 1 "_law_well" (He.ga K "_law_well") fd ["_law_cell"] sp_law_well := by
  obtain ⟨fd, F⟩ := T.f_law_well
  refine ⟨fd, T.g_law_well, F.kp, F.ok sc_law_well (fun vs H Q E h => ?_) (fun cdv A outer s H vs Q E hr h => ?_), F.bindsN fun _ _ _ _ _ _ us hl => match us, hl with | [_], _ => rfl⟩
  · obtain ⟨_, ⟨_, rfl, _⟩, _⟩ := h
    rfl
  · obtain ⟨_, ⟨i, rfl, rfl⟩, k⟩ := h
    refine ⟨_, PSs.nox (pss_one (ps_ret (pe_lst (pa_cons (pe_op op_mul (pv 0) (pe_callTy call_int1 (by rfl) T.b_int (by decide +kernel) (pa_cons (pe_cmpR op_ge (pv 0) (pe_op op_pow pe_int pe_int) (nomark _)) pa_nil))) (pa_cons (pv 0) (pa_cons pe_int pa_nil)))))), ?_⟩
    refine x_retL (Ex.refl H) (el_lst (ea_cons (ev_op (ev_var rfl) (ev_intB (ev_op (ev_var rfl) (ev_op ev_c ev_c (rv_I ⟨by decide, by decide, by decide⟩)) rv_I0)) (rv_mulR ?_)) (ea_cons (ev_var rfl) (ea_cons ev_c ea_nil))) (show 3 ≤ 100000 by decide)) fun q H1 e1 hq _ h1 => k _ H1 e1 ⟨q, rfl, ⟨_, _, _, h1, Int.le_refl _, Int.le_refl _⟩, hq⟩
    split <;> decide
theorem ev_q2 {A P : Int → Prop} {m : Int} (h : EvQ te σ G (isI A)) (hm : Ev tb σ G (.int m)) (h0 : 0 < m) (hP : ∀ x, A x → P (x % m)) : EvQ (tOp (rI (fun _ j => 0 < j) fun i j => .int (i % j)) (tCB (fun xs H Q => (∃ i, xs = [.int i] ∧ Q (.int i) H) ∨ ∃ k, xs = [.bl k] ∧ Q (.int (if k then 1 else 0)) H) (tCons te tNil)) tb) σ G (isI P) := fun H1 e Q q =>
  h H1 e _ fun z H2 e2 ⟨i, hz, hA⟩ => .inl ⟨i, by rw [hz], hm H2 (e.trans e2) _ fun H3 e3 => ⟨i, m, rfl, rfl, h0, q _ H3 (e2.trans e3) ⟨_, rfl, hP i hA⟩⟩⟩
def dA : Hp → List V → VP → Nat → Prop := fun _ us R d => ∃ m M : Int, us = [.int m] ∧ 1 ≤ m ∧ m ≤ M ∧ M ≤ 2 ^ 98 ∧ d = 1 ∧ R = isI fun i => 0 ≤ i ∧ i < M
def sp_law_draw : Sp := SpW dA
theorem ok_law_draw (T : Txt K mg) : ∃ fd, CalG P w K mg base 2 "_law_draw" (He.ga K "_law_draw") fd ["_law_well_here", "_law_many"] sp_law_draw := by
  obtain ⟨fd_law_mixed, c_law_mixed⟩ := ok_law_mixed (P := P) (w := w) (base := base) T
  obtain ⟨fd, F⟩ := T.f_law_draw
  refine ⟨fd, T.g_law_draw, F.kp, F.ok sc_law_draw (fun vs H Q E h => ?_) (fun cdv A outer s H vs Q E hr h => ?_), F.bindsN fun _ _ _ _ _ _ us hl => match us, hl with | [_, _], _ => rfl⟩
  · obtain ⟨_, _, _, _, _, rfl, _, _, ⟨_, _, rfl, _⟩, _⟩ := h
    rfl
  · obtain ⟨p, n, _, _, _, rfl, ⟨i, j, c, hp, hc0, hc⟩, hn, ⟨m, M, rfl, h1, hmM, hM, rfl, rfl⟩, k⟩ := h
    refine ⟨_, PSs.nox (pss_cons (ps_if (pt_cmpR op_gt (pe_ix ix_list (pv 0) pe_int (fun _ _ => rfl)) pe_int (nomark _)) (pss_cons (ps_set (i := 2) sc_law_draw.nd rfl (by first | exact Or.inl rfl | exact Or.inr rfl) (pe_op op_mod (pe_callTy call_int1 (by rfl) T.b_int (by decide +kernel) (pa_cons (pe_ix ix_list (pv 0) pe_int (fun _ _ => rfl)) pa_nil)) (pv 1)))
      (pss_cons (ps_asg (pe_op op_fdivW (pe_ix ix_list (pv 0) pe_int (fun _ _ => rfl)) (pv 1)) (pg_sub (pv 0) pe_int set_list))
      (pss_one (ps_ret (pv 2))))) pss_nil)
      (pss_cons (ps_asg (pe_op op_add (pe_ix ix_list (pv 0) pe_int (fun _ _ => rfl)) pe_int) (pg_sub (pv 0) pe_int set_list))
      (pss_one (ps_ret (pe_op op_mod (pe_callTy call_int1 (by rfl) T.b_int (by decide +kernel) (pa_cons (pe_call c_law_mixed.ok (hr.mono (by decide)) (by rfl) c_law_mixed.gl c_law_mixed.kp c_law_mixed.b .nil pass0 (pa_cons (pe_ix ix_list (pv 0) pe_int (fun _ _ => rfl)) (pa_cons (pe_ix ix_list (pv 0) pe_int (fun _ _ => rfl)) pa_nil))) pa_nil)) (pv 1)))))), ?_⟩
    have r1 := fun x : Int => Int.emod_nonneg x (show m ≠ 0 by omega)
    have r2 := fun x : Int => Int.emod_lt_of_pos x (show 0 < m by omega)
    have ix : ∀ {σ : L2.St} {H : Hp} {t : Int} {v : V} {xs : List V}, σ[0]? = some (some (.ref p)) → H p = some (.lst xs) → atI xs t = some v → Ev (tOp (rIxL K) (tVar 0) (tC (.int t))) σ H v := fun h h' ha => ev_ixS (es_of (ev_var h) h') ev_c ha
    have hexB : ∀ {H1 : Hp} {o : HO}, Ex H H1 → ExB [p] H (upd H1 p o) := fun e => (ExB.of e).trans (ExB.upd (List.mem_singleton.mpr rfl))
    by_cases hi : 0 < i
    · refine x_yes (Ex.refl H) (et_test (ev_op (ix rfl hp rfl) ev_c (rv_B (decide_eq_true hi)))) fun H1 e1 _ => ?_
      refine x_asg e1 (ev_op (ev_int1 (ix rfl hp rfl)) (ev_var rfl) (rv_mod (by omega))) fun H2 e2 _ => ?_
      refine q_setL (j := 0) (e2 _ _ hp) (ev_op (ix rfl (e2 _ _ hp) rfl) (ev_var rfl) (rv_fdW (by omega) (by omega))) (ev_var rfl) ev_c (show 0 < 3 by decide) fun H3 e3 => ?_
      exact x_ret (Ex.refl _) (ev_var rfl) fun H4 e4 _ => k _ H4 ((hexB (e2.trans e3)).trans (ExB.of e4)) ⟨_, _, _, e4 _ _ upd_same, hc0, by omega⟩ ⟨_, rfl, r1 i, by have := r2 i; omega⟩
    · refine x_no (Ex.refl H) (et_test (ev_op (ix rfl hp rfl) ev_c (rv_B (decide_eq_false (by omega))))) fun H1 e1 _ => ?_
      refine q_setL (j := 2) (e1 _ _ hp) (ev_op (ix rfl (e1 _ _ hp) rfl) ev_c rv_I0) (ev_var rfl) ev_c (show 2 < 3 by decide) fun H3 e3 => ?_
      have h3 : upd H3 p (.lst [.int i, .int j, .int (c + 1)]) p = some (.lst [.int i, .int j, .int (c + 1)]) := upd_same
      refine (ev_q2 (P := fun x => 0 ≤ x ∧ x < M) (A := fun _ => True) (eq_fn (ea_cons (ix rfl h3 rfl) (ea_cons (ix rfl h3 rfl) ea_nil)) fun H1 _ => ⟨j, c + 1, rfl, by omega, by omega, rfl⟩) (ev_var rfl) (by omega) fun x _ => ⟨r1 x, by have := r2 x; omega⟩) _ (Ex.refl _) _ fun z H4 e4 hz => k z H4 ((hexB (e1.trans e3)).trans (ExB.of e4)) ⟨_, _, _, e4 _ _ upd_same, by omega, by omega⟩ hz
end
end RS
end

section
set_option Elab.async false
set_option linter.all false
set_option maxRecDepth 100000
set_option maxHeartbeats 4000000
namespace RS
open PySem PySem.Spec PyProof.Rows L2 Evl
section
variable {P : Program} {w : World} {K : PySem.W.Frag} {mg : Str → Option Value} {base : Heap} {G H : Hp} {p : Addr} {d : Nat} {σ : L2.St} {ta td te tb tu : TE} {D : Ends} {tz ts : TS}
/-- a draw -/
theorem ew_draw {E : XK} {i : Nat} {B : Int → Prop} (M : Int) (h0 : σ[i]? = some (some (.ref p))) (h : EvW p d te σ G (isI fun m => 1 ≤ m ∧ m ≤ M)) (hM : M ≤ 2 ^ 98) (hB : ∀ x, 0 ≤ x → x < M → B x) : EvW p (d + 1) (tCall sp_law_draw [] E (tCons (tVar i) (tCons te tNil))) σ G (isI B) :=
  (ew_call (A := dA) (R := isI fun x => 0 ≤ x ∧ x < M) h0 h fun z G' _ ⟨m, hz, h1, h2⟩ => ⟨m, M, by rw [hz], h1, h2, hM, rfl, rfl⟩).imp fun z _ _ ⟨x, hx, h1, h2⟩ => ⟨x, hx, hB x h1 h2⟩
theorem ew_draw0 {E : XK} {i : Nat} {B : Int → Prop} (M : Int) (h0 : σ[i]? = some (some (.ref p))) (h : Ev te σ G (.int M)) (h1 : 1 ≤ M) (hM : M ≤ 2 ^ 98) (hB : ∀ x, 0 ≤ x → x < M → B x) : EvW p 1 (tCall sp_law_draw [] E (tCons (tVar i) (tCons te tNil))) σ G (isI B) := (ew_draw (d := 0) M h0 (ew_int h ⟨h1, Int.le_refl _⟩) hM hB).le (by omega)
theorem ew_add1 {A B : Int → Prop} (h : EvW p d te σ G (isI A)) (hB : ∀ x, A x → B (1 + x)) : EvW p d (tOp (rI0 fun i j => .int (i + j)) (tC (.int 1)) te) σ G (isI B) := (ew_op (d1 := 0) (A := fun i => i = 1) (g := fun i j => i + j) (ew_int ev_c rfl) h (fun i j H _ _ => rv_I0) (fun i j hi hj => by rw [hi]; exact hB j hj)).le (by omega)
theorem ew_addV {A B : Int → Prop} {i : Int} (hi : Ev ta σ G (.int i)) (h : EvW p d te σ G (isI A)) (hB : ∀ x, A x → B (i + x)) : EvW p d (tOp (rI0 fun i j => .int (i + j)) ta te) σ G (isI B) := (ew_op (d1 := 0) (A := fun j => j = i) (g := fun i j => i + j) (ew_int hi rfl) h (fun i j H _ _ => rv_I0) (fun i' j hi hj => by rw [hi]; exact hB j hj)).le (by omega)
theorem ew_ix {xs : List V} {q : Addr} (ha : Ev ta σ G (.ref q)) (hq : G q = some (.lst xs)) (hb : EvW p d tb σ G (isI fun i => 0 ≤ i ∧ i < (xs.length : Int))) : EvW p d (tOp (rIxL K) ta tb) σ G (fun z _ => z ∈ xs) := fun n H1 hn hw e Q k =>
  ha H1 (e.trans hide_ex) _ fun H2 e2 => hb n H2 hn (hw.mono e2) (e.trans (hid_exE e2)) _ fun z H3 e3 w3 ⟨i, hz, h0, h1⟩ => by
    subst hz
    have hi : i.toNat < xs.length := by omega
    have h3 := hide_ex _ _ (hid_ex ((ExB.of e2).trans e3) _ _ (e _ _ hq))
    exact ⟨q, xs, i, xs[i.toNat], rfl, rfl, sq_of h3, at_of (j := i.toNat) (by omega) (List.getElem?_eq_getElem hi), k _ H3 ((ExB.of e2).trans e3) w3 (List.getElem_mem hi)⟩
def oA : Hp → List V → VP → Nat → Prop := fun G us R d => ∃ (q : Addr) (ns : List Int) (B : Int → Prop), us = [.ref q] ∧ G q = some (.lst (ns.map V.int)) ∧ 1 ≤ ns.length ∧ ns.length ≤ 1000 ∧ (∀ x ∈ ns, B x) ∧ d = 1 ∧ R = isI B
def sp_law_one : Sp := SpW oA
theorem ok_law_one (T : Txt K mg) : ∃ fd, CalG P w K mg base 3 "_law_one" (He.ga K "_law_one") fd ["_law_well_here", "_law_some"] sp_law_one := by
  obtain ⟨fd_law_draw, c_law_draw⟩ := ok_law_draw (P := P) (w := w) (base := base) T
  obtain ⟨fd, F⟩ := T.f_law_one
  refine ⟨fd, T.g_law_one, F.kp, F.ok sc_law_one (fun vs H Q E h => ?_) (fun cdv A outer s H vs Q E hr h => ?_), F.bindsN fun _ _ _ _ _ _ us hl => match us, hl with | [_, _], _ => rfl⟩
  · obtain ⟨_, _, _, _, _, rfl, _, _, ⟨_, _, _, rfl, _⟩, _⟩ := h
    rfl
  · obtain ⟨p, n, _, _, _, rfl, hw, hn, ⟨q, ns, B, rfl, hq, h1, h2, hB, rfl, rfl⟩, k⟩ := h
    refine ⟨_, PSs.nox (pss_one (ps_ret (pe_ix ix_list (pv 1) (pe_call c_law_draw.ok (hr.mono (by decide)) (by rfl) c_law_draw.gl c_law_draw.kp c_law_draw.b .nil pass0 (pa_cons (pv 0) (pa_cons (pe_callB call_len_seq (by rfl) T.b_len (by decide +kernel) (pa_cons (pv 1) pa_nil)) pa_nil))) (fun _ _ => rfl)))), ?_⟩
    refine x_retW (d := 1) hw ((ew_ix (ev_var rfl) hq (ew_draw0 (ns.length : Int) rfl (ev_is (ev_lenS (es_of (ev_var rfl) hq)) (by rw [List.length_map])) (by omega) (by omega) fun x h0 h1 => ⟨h0, by rw [List.length_map]; exact h1⟩)).imp fun z _ _ hz => ?_) hn fun z H1 e1 w1 hz => k z H1 e1 w1 hz
    obtain ⟨x, hx, rfl⟩ := List.mem_map.mp hz
    exact ⟨x, rfl, hB x hx⟩
theorem ew_one {E : XK} {i : Nat} {B : Int → Prop} {R1 : VP} (h0 : σ[i]? = some (some (.ref p))) (h : EvW p d te σ G R1) (hR : ∀ z G', Ex G G' → R1 z G' → ∃ (q : Addr) (ns : List Int), z = .ref q ∧ G' q = some (.lst (ns.map V.int)) ∧ 1 ≤ ns.length ∧ ns.length ≤ 1000 ∧ ∀ x ∈ ns, B x) : EvW p (d + 1) (tCall sp_law_one [] E (tCons (tVar i) (tCons te tNil))) σ G (isI B) :=
  ew_call (A := oA) h0 h fun z G' e r => by
    obtain ⟨q, ns, rfl, h1, h2, h3, h4⟩ := hR z G' e r
    exact ⟨q, ns, B, rfl, h1, h2, h3, h4, rfl, rfl⟩
/-- one of three numbers that stand there -/
theorem ew_one3 {E : XK} {i : Nat} {B : Int → Prop} {a b c : Int} (h0 : σ[i]? = some (some (.ref p))) (ha : B a) (hb : B b) (hc : B c) : EvW p 1 (tCall sp_law_one [] E (tCons (tVar i) (tCons (tLst (tCons (tC (.int a)) (tCons (tC (.int b)) (tCons (tC (.int c)) tNil)))) tNil))) σ G (isI B) :=
  (ew_one (d := 0) h0 (ew_lst (el_lst (ea_cons ev_c (ea_cons ev_c (ea_cons ev_c ea_nil))) (show 3 ≤ 100000 by decide))) fun z G' _ ⟨q, hz, hq⟩ => ⟨q, [a, b, c], hz, hq, (by decide : 1 ≤ 3), (by decide : 3 ≤ 1000), fun x hx => by
    rcases List.mem_cons.mp hx with z | hx
    · rw [z]; exact ha
    · rcases List.mem_cons.mp hx with z | hx
      · rw [z]; exact hb
      · rw [List.mem_singleton.mp hx]; exact hc⟩).le (by omega)
theorem dp_intsI : ∀ l : List Int, DpAll K H (l.map V.int) (l.map PyData.int)
  | [] => .nil
  | c :: l => .cons (.int _) (dp_intsI l)
theorem shaped_intsI (l : List Int) : SeqAt.shaped (.list (l.map PyData.int)) = true := by
  have h1 : ∀ l : List Int, PyData.canLayAll0 (l.map PyData.int) = true := fun l => by
    induction l with
    | nil => simp [PyData.canLayAll0]
    | cons c r ih =>
      rw [List.map_cons, PyData.canLayAll0, ih]
      rfl
  have h2 : ∀ l : List Int, PyData.depthAll (l.map PyData.int) = 0 := fun l => by
    induction l with
    | nil => simp [PyData.depthAll]
    | cons c r ih =>
      rw [List.map_cons, PyData.depthAll, ih]
      rfl
  unfold SeqAt.shaped
  rw [PyData.canLay0, h1, PyData.depth, h2]
  rfl
theorem ev_eqNilI {l : List Int} (h : EvS ta σ G (l.map V.int)) : Ev (tOp (rEqD K) ta (tLst tNil)) σ G (.bl (PyData.eqv (.list (l.map PyData.int)) (.list []))) := ev_eqD (fun H1 e Q q => h H1 e Q fun p H2 e2 hp => q _ H2 e2 (.lst (sq_of hp) (dp_intsI l))) (dq_lst (ds := []) daq_nil (by decide)) (shaped_intsI l) (shaped_nums []) rfl
theorem et_dec {t : TT} (b : Bool) (h : EvT t σ G b) : EvT t σ G b := h
/-- gaps and an ending -/
def gapsR : VP := fun z H => ∃ (t : Addr) (l e : Addr), z = .ref t ∧ H t = some (.tup [.ref l, .ref e]) ∧ isNs 0 5 (fun x => 1 ≤ x ∧ x ≤ 6) (.ref l) H
def gA : Hp → List V → VP → Nat → Prop := fun _ us R d => us = [] ∧ d = 20 ∧ R = gapsR
def sp_law_gaps : Sp := SpW gA
theorem ew_pairT {l : Addr} {R1 : VP} {ns : List Int} (hl : Ev ta σ G (.ref l)) (hg : G l = some (.lst (ns.map V.int))) (hn : ns.length ≤ 5) (hA : ∀ x ∈ ns, 1 ≤ x ∧ x ≤ 6) (h : EvW p d te σ G R1) (hs : Stay R1) (hr : ∀ z H, R1 z H → ∃ q, z = .ref q) : EvW p d (tTup (tCons ta (tCons te tNil))) σ G gapsR :=
  ((ew_tupW (m := 2) (ew_acons (ew_ev hl) stay_V (ew_acons h hs ew_anil)) (fun vs H ⟨z, r, h1, h2, y, r', h3, h4, h5⟩ => by rw [h1, h3, h5]; rfl) (by decide) (fun vs H H' e ⟨z, r, h1, h2, y, r', h3, h4, h5⟩ => ⟨z, r, h1, h2, y, r', h3, hs _ _ _ e h4, h5⟩)).le (by omega)).imp fun z H e ⟨t, vs, h1, h2, z1, r, h3, h4, y, r', h5, h6, h7⟩ => by
    obtain ⟨q, rfl⟩ := hr _ _ h6
    refine ⟨t, l, q, h1, ?_, l, ns, rfl, e _ _ hg, Nat.zero_le _, hn, hA⟩
    rw [h2, h3, h5, h7]
    cases h4
    rfl
theorem ok_law_gaps (T : Txt K mg) : ∃ fd, CalG P w K mg base 4 "_law_gaps" (He.ga K "_law_gaps") fd ["_law_well_here"] sp_law_gaps := by
  obtain ⟨fd_law_draw, c_law_draw⟩ := ok_law_draw (P := P) (w := w) (base := base) T
  obtain ⟨fd_law_one, c_law_one⟩ := ok_law_one (P := P) (w := w) (base := base) T
  obtain ⟨fd, F⟩ := T.f_law_gaps
  refine ⟨fd, T.g_law_gaps, F.kp, F.ok sc_law_gaps (fun vs H Q E h => ?_) (fun cdv A outer s H vs Q E hr h => ?_), F.bindsN fun _ _ _ _ _ _ us hl => match us, hl with | [_], _ => rfl⟩
  · obtain ⟨_, _, _, _, _, rfl, _, _, ⟨rfl, _⟩, _⟩ := h
    rfl
  · obtain ⟨p, n, _, _, _, rfl, hw, hn, ⟨rfl, rfl, rfl⟩, k⟩ := h
    refine ⟨_, PSs.nox (pss_cons (ps_set (i := 1) sc_law_gaps.nd rfl (by first | exact Or.inl rfl | exact Or.inr rfl) (pe_op op_add pe_int (pe_call c_law_draw.ok (hr.mono (by decide)) (by rfl) c_law_draw.gl c_law_draw.kp c_law_draw.b .nil pass0 (pa_cons (pv 0) (pa_cons pe_int pa_nil)))))
      (pss_cons (ps_setLc (i := 2) (own := [("_law_k", 3)]) rfl sc_law_gaps.nd rfl rfl (sw_true rfl rfl rfl (by decide +kernel)) (pi_range1 (by rfl) T.b_range (pa_cons (pe_call c_law_draw.ok (hr.mono (by decide)) (by rfl) c_law_draw.gl c_law_draw.kp c_law_draw.b .nil pass0 (pa_cons (pv 0) (pa_cons pe_int pa_nil))) pa_nil)) (blkOk_by (own := [("_law_k", 3)]) (N := ["_law_well_here", "_law_wide", "_law_steps", "_law_k", "_law_way"]) (sc := defScope s_law_gaps) (by decide +kernel)) (fun _ _ _ _ _ => (pg_name (i := 3) sc_law_gaps.nd rfl (by first | exact Or.inl rfl | exact Or.inr rfl))) (fun _ _ _ _ _ => pts_nil) (fun _ _ _ _ _ => (pe_op op_add pe_int (pe_call c_law_draw.ok (hr.mono (by decide)) (by rfl) c_law_draw.gl c_law_draw.kp c_law_draw.b .nil pass0 (pa_cons (pv 0) (pa_cons (pv 1) pa_nil))))))
      (pss_cons (ps_set (i := 4) sc_law_gaps.nd rfl (by first | exact Or.inl rfl | exact Or.inr rfl) (pe_call c_law_draw.ok (hr.mono (by decide)) (by rfl) c_law_draw.gl c_law_draw.kp c_law_draw.b .nil pass0 (pa_cons (pv 0) (pa_cons pe_int pa_nil))))
      (pss_cons (ps_if (PW.pt (pw_or (pt_cmpR (op_eqD hr.units) (pv 2) (pe_lst pa_nil) (nomark _)) (pw_or1 (pt_cmpR op_eq (pv 4) pe_int (nomark _))))) (pss_one (ps_ret (pe_tup (pa_cons (pv 2) (pa_cons (pe_tup (pa_cons pe_str pa_nil)) pa_nil))))) pss_nil)
      (pss_cons (ps_if (pt_cmpR op_eq (pv 4) pe_int (nomark _)) (pss_one (ps_ret (pe_tup (pa_cons (pv 2) (pa_cons (pe_tup (pa_cons pe_str (pa_cons (pe_call c_law_one.ok (hr.mono (by decide)) (by rfl) c_law_one.gl c_law_one.kp c_law_one.b .nil pass0 (pa_cons (pv 0) (pa_cons (pe_lst (pa_cons pe_int (pa_cons pe_int (pa_cons pe_int (pa_cons (pe_op op_add pe_int (pe_call c_law_draw.ok (hr.mono (by decide)) (by rfl) c_law_draw.gl c_law_draw.kp c_law_draw.b .nil pass0 (pa_cons (pv 0) (pa_cons pe_int pa_nil)))) pa_nil))))) pa_nil))) pa_nil))) pa_nil))))) pss_nil)
      (pss_one (ps_ret (pe_tup (pa_cons (pv 2) (pa_cons (pe_tup (pa_cons pe_str (pa_cons (pe_op op_add pe_int (pe_call c_law_draw.ok (hr.mono (by decide)) (by rfl) c_law_draw.gl c_law_draw.kp c_law_draw.b .nil pass0 (pa_cons (pv 0) (pa_cons (pe_callB call_len_seq (by rfl) T.b_len (by decide +kernel) (pa_cons (pv 2) pa_nil)) pa_nil)))) pa_nil))) pa_nil)))))))))), ?_⟩
    refine x_asgW (d := 1) (R := isI fun x => 1 ≤ x ∧ x ≤ 6) hw (ew_add1 (ew_draw0 (B := fun x => 0 ≤ x ∧ x < 6) 6 rfl ev_c (by decide) (by decide) fun x a b => ⟨a, b⟩) fun x hx => ⟨by omega, by omega⟩) (by omega) fun z H1 e1 w1 hz => ?_
    obtain ⟨wd, rfl, hw1, hw2⟩ := hz
    refine x_asgW (d := 6) (R := isNs 0 5 fun x => 1 ≤ x ∧ x ≤ 6) w1 (ew_compR (lo := 0) (M := 5) (A := fun x => 1 ≤ x ∧ x ≤ 6) (d1 := 1) (d2 := 1) (ew_draw0 6 rfl ev_c (by decide) (by decide) fun x a b => ⟨by omega, by omega⟩) (by decide) (fun _ => rfl) fun i => ew_add1 (ew_draw0 (B := fun x => 0 ≤ x ∧ x < 6) wd rfl (ev_var rfl) hw1 (by omega) fun x a b => ⟨a, by omega⟩) fun x hx => ⟨by omega, by omega⟩) (by omega) fun z H2 e2 w2 hz => ?_
    obtain ⟨l, ns, rfl, hl, _, hl5, hA⟩ := hz
    refine x_asgW (d := 1) (R := isI fun _ => True) w2 (ew_draw0 5 rfl ev_c (by decide) (by decide) fun x a b => trivial) (by omega) fun z H3 e3 w3 hz => ?_
    obtain ⟨wy, rfl, _⟩ := hz
    have hl3 := hid_ex e3 _ _ hl
    have eb := (e1.trans e2).trans e3
    refine x_if (hide_ex (H := H3) (l := [p])) (et_or (a := PyData.eqv (.list (ns.map PyData.int)) (.list [])) (b := decide (wy = 0)) (et_test (ev_eqNilI (es_of (ev_var rfl) hl3))) fun _ => et_test (ev_op (ev_var rfl) ev_c (rv_eqI rfl))) (fun _ H4 _ e4 => ?_) fun hb H4 _ e4 => ?_
    · refine x_retW (d := 12) (w3.mono e4) ((ew_pairT (ev_var rfl) (hid_exE e4 _ _ hl3) hl5 hA (ew_tup (eu_tup (ea_cons ev_c ea_nil) (show 1 ≤ 100000 by decide))) stay_U fun z H ⟨q, h, _⟩ => ⟨q, h⟩).le (by omega)) (by omega) fun z H5 e5 w5 hz => k z H5 (eb.trans ((ExB.of e4).trans e5)) w5 hz
    · have hne : ns ≠ [] := fun z => by
        rw [z] at hb
        cases hb
      have hpos : 0 < ns.length := List.length_pos_iff.mpr hne
      have hl4 := hid_exE e4 _ _ hl3
      have w4 := w3.mono e4
      refine x_if (hide_ex (H := H4) (l := [p])) (et_test (ev_op (ev_var rfl) ev_c (rv_eqI (b := decide (wy = 1)) rfl))) (fun _ H5 _ e5 => ?_) fun hb H5 _ e5 => ?_
      · refine x_retW (d := 12) (w4.mono e5) ((ew_pairT (d := 2) (R1 := fun z H => ∃ q, z = .ref q) (ev_var rfl) (hid_exE e5 _ _ hl4) hl5 hA ((ew_tupW (m := 2) (ew_acons (ew_ev ev_c) stay_V (ew_acons (d1 := 2) (R := isI fun _ => True) (ew_one (d := 1) rfl (ew_lstW (m := 4) (ew_acons (ew_ev ev_c) stay_V (ew_acons (ew_ev ev_c) stay_V (ew_acons (ew_ev ev_c) stay_V (ew_acons (d1 := 1) (R := isI fun _ => True) ((ew_op (d1 := 0) (d2 := 1) (A := fun _ => True) (B := fun _ => True) (g := fun i j => i + j) (ew_int ev_c trivial) (ew_draw0 999 rfl ev_c (by decide) (by decide) fun x a b => trivial) (fun i j H _ _ => rv_I0) (fun _ _ _ _ => trivial)).le (by omega)) stay_I ew_anil)))) ?_ (by decide) ?_) ?_) stay_I ew_anil)) ?_ (by decide) ?_).imp fun z H _ ⟨t, vs, h1, _⟩ => ⟨t, h1⟩) (fun _ _ _ _ h => h) (fun _ _ h => h)).le (by omega)) (by omega) fun z H6 e6 w6 hz => k z H6 (eb.trans ((ExB.of (e4.trans e5)).trans e6)) w6 hz
        · rintro vs H ⟨z1, r1, rfl, _, z2, r2, rfl, _, z3, r3, rfl, _, z4, r4, rfl, _, rfl⟩
          rfl
        · rintro vs H H' e ⟨z1, r1, rfl, a1, z2, r2, rfl, a2, z3, r3, rfl, a3, z4, r4, rfl, a4, rfl⟩
          exact ⟨_, _, rfl, a1, _, _, rfl, a2, _, _, rfl, a3, _, _, rfl, a4, rfl⟩
        · rintro z G' e ⟨t, vs, rfl, ht, z1, r1, rfl, a1, z2, r2, rfl, a2, z3, r3, rfl, a3, z4, r4, rfl, ⟨x, rfl, _⟩, rfl⟩
          cases a1
          cases a2
          cases a3
          exact ⟨t, [2, 2, 3, x], rfl, ht, (by decide : 1 ≤ 4), (by decide : 4 ≤ 1000), fun _ _ => trivial⟩
        · rintro vs H ⟨z1, r1, rfl, _, z2, r2, rfl, _, rfl⟩
          rfl
        · rintro vs H H' e ⟨z1, r1, rfl, a1, z2, r2, rfl, a2, rfl⟩
          exact ⟨_, _, rfl, a1, _, _, rfl, a2, rfl⟩
      · have hl5' := hid_exE e5 _ _ hl4
        refine x_retW (d := 12) (w4.mono e5) ((ew_pairT (d := 1) (R1 := fun z H => ∃ q, z = .ref q) (ev_var rfl) hl5' hl5 hA (((ew_tupW (m := 2) (ew_acons (ew_ev ev_c) stay_V (ew_acons (d1 := 1) (R := isI fun _ => True) (ew_add1 (A := fun _ => True) (ew_draw0 (ns.length : Int) rfl (ev_is (ev_lenS (es_of (ev_var rfl) hl5')) (by rw [List.length_map])) (by omega) (by omega) fun x a b => trivial) fun _ _ => trivial) stay_I ew_anil)) ?_ (by decide) ?_).imp fun z H _ ⟨t, vs, h1, _⟩ => ⟨t, h1⟩).le (by omega)) (fun _ _ _ _ h => h) (fun _ _ h => h)).le (by omega)) (by omega) fun z H6 e6 w6 hz => k z H6 (eb.trans ((ExB.of (e4.trans e5)).trans e6)) w6 hz
        · rintro vs H ⟨z1, r1, rfl, _, z2, r2, rfl, _, rfl⟩
          rfl
        · rintro vs H H' e ⟨z1, r1, rfl, a1, z2, r2, rfl, a2, rfl⟩
          exact ⟨_, _, rfl, a1, _, _, rfl, a2, rfl⟩
end
end RS
end

section
set_option Elab.async false
set_option linter.all false
set_option maxRecDepth 100000
set_option maxHeartbeats 4000000
namespace RS
open PySem PySem.Spec PyProof.Rows L2 Evl
theorem getD_appL {α : Type} {l : List α} {x d : α} {i : Nat} (h : i < l.length) : (l ++ [x]).getD i d = l.getD i d := by
  rw [List.getD_eq_getElem?_getD, List.getD_eq_getElem?_getD, List.getElem?_append_left h]
theorem getD_appR {α : Type} {l : List α} {x d : α} : (l ++ [x]).getD l.length d = x := by
  rw [List.getD_eq_getElem?_getD, List.getElem?_append_right (Nat.le_refl _), Nat.sub_self]
  rfl
theorem WinA.app {G : Hp} {rs : List Addr} {ws : List (Int × Int)} {t : Addr} {x y : Int} (W : WinA G rs ws) (h : G t = some (.tup [.int x, .int y])) : WinA G (rs ++ [t]) (ws ++ [(x, y)]) := ⟨by rw [List.length_append, List.length_append, W.len]; rfl, fun i r hr => by
  rcases Nat.lt_or_ge i rs.length with hl | hl
  · rw [List.getElem?_append_left hl] at hr
    obtain ⟨w, h1, h2⟩ := W.at_ i r hr
    exact ⟨w, by rw [List.getElem?_append_left (by rw [← W.len]; exact hl)]; exact h1, h2⟩
  · rw [List.getElem?_append_right hl] at hr
    have h0 : i - rs.length = 0 := by
      rcases Nat.eq_zero_or_pos (i - rs.length) with z | z
      · exact z
      · rw [List.getElem?_eq_none (by show 1 ≤ _; omega)] at hr
        cases hr
    rw [h0] at hr
    cases hr
    exact ⟨(x, y), by rw [List.getElem?_append_right (by rw [← W.len]; exact hl), ← W.len, h0]; rfl, h⟩⟩
theorem WinOk.app {ws : List (Int × Int)} {x y : Int} (h : WinOk ws) (hxy : x < y) (hl : ∀ w ∈ ws, w.2 ≤ x) : WinOk (ws ++ [(x, y)]) := by
  refine ⟨fun i hi => ?_, fun i hi => ?_⟩
  · rw [List.length_append] at hi
    have hi : i < ws.length + 1 := hi
    rcases Nat.lt_or_ge i ws.length with z | z
    · rw [getD_appL z]
      exact h.1 i z
    · have e : i = ws.length := by omega
      rw [e, getD_appR]
      exact hxy
  · rw [List.length_append] at hi
    have hi : i + 1 < ws.length + 1 := hi
    have hi0 : i < ws.length := by omega
    rw [getD_appL hi0]
    rcases Nat.lt_or_ge (i + 1) ws.length with z | z
    · rw [getD_appL z]
      exact h.2 i z
    · have e : i + 1 = ws.length := by omega
      rw [e, getD_appR]
      exact hl _ (getD_mem hi0)
theorem WinA.keepT {G G' : Hp} {rs : List Addr} {ws : List (Int × Int)} (W : WinA G rs ws) (h : ∀ t us, G t = some (.tup us) → G' t = some (.tup us)) : WinA G' rs ws := ⟨W.len, fun i r hr => by
  obtain ⟨w, h1, h2⟩ := W.at_ i r hr
  exact ⟨w, h1, h _ _ h2⟩⟩
section
variable {P : Program} {w : World} {K : PySem.W.Frag} {mg : Str → Option Value} {base : Heap} {G H : Hp} {p : Addr} {d : Nat} {σ : L2.St} {ta td te tb tu : TE} {D : Ends} {tz ts : TS}
theorem x_parLW {i j n : Nat} {xs : List V} {R : VP} (hw : WellA H p n) (ha : EvL ta σ (hide H [p]) xs) (hb : EvW p d tb σ (hide H [p]) R) (hn : n + d ≤ 100000) (k : ∀ q z H1, H q = none → ExB [p] H H1 → WellA H1 p (n + d) → hide H1 [p] q = some (.lst xs) → R z (hide H1 [p]) → tz D ((σ.set i (some (.ref q))).set j (some z)) H1) : tSeq (tPar i j (tCons ta (tCons tb tNil))) tz D σ H :=
  ha H hide_ex (fun v H1 => tCons tb tNil σ H1 fun r H2 => ∃ a b, v :: r = [a, b] ∧ tz D ((σ.set i (some a)).set j (some b)) H2) fun q H1 hq e1 h1 => hb n H1 hn (hw.mono e1) (hid_exE e1) _ fun z H2 e2 w2 r => ⟨_, _, rfl, k q z H2 hq ((ExB.of e1).trans e2) w2 (hid_ex e2 _ _ (hid_of (hw.ne hq) h1)) r⟩
def winsR : VP := fun z H => ∃ (q : Addr) (rs : List Addr) (ws : List (Int × Int)), z = .ref q ∧ H q = some (.lst (rs.map V.ref)) ∧ WinA H rs ws ∧ WinOk ws ∧ ws.length ≤ 3 ∧ ∀ w ∈ ws, w.1 ≤ 100 ∧ w.2 ≤ 100
theorem stay_wins : Stay winsR := fun _ _ _ e ⟨q, rs, ws, h1, h2, h3, h4⟩ => ⟨q, rs, ws, h1, e _ _ h2, h3.mono e, h4⟩
def wA : Hp → List V → VP → Nat → Prop := fun _ us R d => us = [] ∧ d = 20 ∧ R = winsR
def sp_law_windows : Sp := SpW wA
theorem ok_law_windows (T : Txt K mg) : ∃ fd, CalG P w K mg base 3 "_law_windows" (He.ga K "_law_windows") fd ["_law_well_here"] sp_law_windows := by
  obtain ⟨fd_law_draw, c_law_draw⟩ := ok_law_draw (P := P) (w := w) (base := base) T
  obtain ⟨fd, F⟩ := T.f_law_windows
  refine ⟨fd, T.g_law_windows, F.kp, F.ok sc_law_windows (fun vs H Q E h => ?_) (fun cdv A outer s H vs Q E hr h => ?_), F.bindsN fun _ _ _ _ _ _ us hl => match us, hl with | [_], _ => rfl⟩
  · obtain ⟨_, _, _, _, _, rfl, _, _, ⟨rfl, _⟩, _⟩ := h
    rfl
  · obtain ⟨p, n, _, _, _, rfl, hw, hn, ⟨rfl, rfl, rfl⟩, k⟩ := h
    refine ⟨_, PSs.nox (pss_cons (ps_par (i := 1) (j := 2) (by rfl) sc_law_windows.nd rfl rfl (by decide) rfl rfl (pa_cons (pe_lst pa_nil) (pa_cons (pe_op op_sub (pe_call c_law_draw.ok (hr.mono (by decide)) (by rfl) c_law_draw.gl c_law_draw.kp c_law_draw.b .nil pass0 (pa_cons (pv 0) (pa_cons pe_int pa_nil))) pe_int) pa_nil)) (by rfl))
      (pss_cons (ps_for PassesOwn.never rfl (pi_range1 (by rfl) T.b_range (pa_cons (pe_call c_law_draw.ok (hr.mono (by decide)) (by rfl) c_law_draw.gl c_law_draw.kp c_law_draw.b .nil pass0 (pa_cons (pv 0) (pa_cons pe_int pa_nil))) pa_nil)) (pg_name (i := 3) sc_law_windows.nd rfl (by first | exact Or.inl rfl | exact Or.inr rfl)) (pss_cons (ps_set (i := 2) sc_law_windows.nd rfl (by first | exact Or.inl rfl | exact Or.inr rfl) (pe_op op_add (pv 2) (pe_call c_law_draw.ok (hr.mono (by decide)) (by rfl) c_law_draw.gl c_law_draw.kp c_law_draw.b .nil pass0 (pa_cons (pv 0) (pa_cons pe_int pa_nil)))))
      (pss_cons (ps_expr (pe_bm PySem.F.plainAttrs_list PySem.F.slot_list_append PySem.F.type_list_append mt_append (pv 1) (pa_cons (pe_tup (pa_cons (pv 2) (pa_cons (pe_op op_add (pe_op op_add (pv 2) pe_int) (pe_call c_law_draw.ok (hr.mono (by decide)) (by rfl) c_law_draw.gl c_law_draw.kp c_law_draw.b .nil pass0 (pa_cons (pv 0) (pa_cons pe_int pa_nil)))) pa_nil))) pa_nil)))
      (pss_one (ps_set (i := 2) sc_law_windows.nd rfl (by first | exact Or.inl rfl | exact Or.inr rfl) (pe_ix ix_tup (pe_ix ix_list (pv 1) (pe_un un_neg pe_int) (fun _ _ => rfl)) pe_int (fun _ _ => rfl)))))))
      (pss_one (ps_ret (pv 1))))), ?_⟩
    refine x_parLW (d := 1) (R := isI fun x => x ≤ 9) hw (el_lst ea_nil (by decide)) ((ew_op (d1 := 1) (d2 := 0) (A := fun x => x < 20) (B := fun x => x = 10) (g := fun i j => i - j) (ew_draw0 20 rfl ev_c (by decide) (by decide) fun x _ b => b) (ew_int ev_c rfl) (fun i j H _ _ => rv_I0) (fun i j a b => by omega))) (by omega) fun q z H1 hqn e1 w1 hq hz => ?_
    obtain ⟨x, rfl, hx⟩ := hz
    have hqp : q ≠ p := fun z => by
      rw [z, hid_none] at hq
      cases hq
    refine x_forRW (d1 := 1) (M := 3) w1 (ew_draw0 4 rfl ev_c (by decide) (by decide) fun x a b => ⟨a, by omega⟩) (by decide) (by omega) (fun m σ' H' => ∃ (low : Int) (rs : List Addr) (ws : List (Int × Int)) (u : Option V), σ' = [some (.ref p), some (.ref q), some (.int low), u] ∧ (∀ b o, b ≠ p → b ≠ q → H1 b = some o → H' b = some o) ∧ WellA H' p (n + 2 + 2 * m) ∧ hide H' [p] q = some (.lst (rs.map V.ref)) ∧ WinA (hide H' [p]) rs ws ∧ WinOk ws ∧ ws.length ≤ m ∧ low ≤ 9 + 20 * (m : Int) ∧ ∀ w ∈ ws, w.1 ≤ low ∧ w.2 ≤ low) ?_ ?_ ?_
    · intro H2 e2 w2
      exact ⟨x, [], [], none, rfl, fun b o hb _ h => e2 b o (by simpa using hb) h, w2, hid_ex e2 _ _ hq, ⟨rfl, fun i r h => by cases h⟩, ⟨fun i h => absurd h (Nat.not_lt_zero i), fun i h => absurd h (Nat.not_lt_zero _)⟩, Nat.le_refl _, by omega, fun w h => by cases h⟩
    · rintro m σ' H' hm ⟨low, rs, ws, u, rfl, hk, w', hq', hW, hok, hlen, hlow, hall⟩
      refine x_asgW (d := 1) (R := isI fun y => low ≤ y ∧ y ≤ low + 11) w' (ew_addV (A := fun y => 0 ≤ y ∧ y < 12) (ev_var rfl) (ew_draw0 12 rfl ev_c (by decide) (by decide) fun x a b => ⟨a, b⟩) fun x hx => ⟨by omega, by omega⟩) (by omega) fun z H2 e2 w2 hz => ?_
      obtain ⟨l2, rfl, hl1, hl2⟩ := hz
      have hq2 := hid_ex e2 _ _ hq'
      refine x_appW (l := q) (d := 1) w2 hq2 (ev_var rfl) (R := fun z H => ∃ t y, z = .ref t ∧ H t = some (.tup [.int l2, .int y]) ∧ l2 < y ∧ y ≤ l2 + 9) (((ew_tupW (m := 2) (ew_acons (d1 := 0) (d2 := 1) (ew_ev (ev_var rfl)) stay_V (ew_acons (d1 := 1) (d2 := 0) (R := isI fun y => l2 < y ∧ y ≤ l2 + 9) (ew_addV (A := fun y => 0 ≤ y ∧ y < 9) (ev_op (ev_var rfl) ev_c rv_I0) (ew_draw0 9 rfl ev_c (by decide) (by decide) fun x a b => ⟨a, b⟩) fun x hx => ⟨by omega, by omega⟩) stay_I ew_anil)) ?_ (by decide) ?_).imp ?_).le (by omega)) (by omega) (by rw [List.length_map, hW.len]; omega) fun z H3 e3 w3 hz hq3 => ?_
      · rintro vs H ⟨z1, r1, rfl, _, z2, r2, rfl, _, rfl⟩
        rfl
      · rintro vs H H' e ⟨z1, r1, rfl, a1, z2, r2, rfl, a2, rfl⟩
        exact ⟨_, _, rfl, a1, _, _, rfl, a2, rfl⟩
      · rintro z H e ⟨t, vs, rfl, ht, z1, r1, rfl, a1, z2, r2, rfl, ⟨y, rfl, hy⟩, rfl⟩
        cases a1
        exact ⟨t, y, rfl, ht, hy⟩
      obtain ⟨t, y, rfl, ht, hy1, hy2⟩ := hz
      have hqH3 := hide_ex _ _ hq3
      have keep : ∀ {b : Addr} {us : List V}, hide H3 [p] b = some (.tup us) → hide (upd H3 q (.lst (rs.map V.ref ++ [.ref t]))) [p] b = some (.tup us) := fun {b us} hb => by
        have h1 := hide_ex _ _ hb
        have n1 : b ≠ p := fun z => by
          rw [z, hid_none] at hb
          cases hb
        refine hid_of n1 ?_
        rw [upd_ne (ne_of h1 hqH3 (by intro z; cases z))]
        exact h1
      have hqU : hide (upd H3 q (.lst (rs.map V.ref ++ [.ref t]))) [p] q = some (.lst (rs.map V.ref ++ [.ref t])) := hid_of hqp upd_same
      refine s_asg ((ev_ixU (esu_of (ev_ixS (es_of (ev_var rfl) hqU) (ev_un ev_c ru_neg) (atI_neg (by rw [List.length_append]; show 0 < _ + 1; omega) (show _ = some (V.ref t) from ?_))) (keep ht)) ev_c rfl).mono hide_ex) fun H4 e4 => ?_
      · rw [List.length_append, List.getElem?_append_right (by show _ ≤ _ + 1 - 1; omega)]
        show ([V.ref t] : List V)[(rs.map V.ref).length + 1 - 1 - (rs.map V.ref).length]? = _
        rw [Nat.add_sub_cancel, Nat.sub_self]
        rfl
      · have e34 : Ex (hide (upd H3 q (.lst (rs.map V.ref ++ [.ref t]))) [p]) (hide H4 [p]) := hid_exE e4
        refine ⟨y, rs ++ [t], ws ++ [(l2, y)], _, rfl, fun b o hb hbq h => ?_, ?_, ?_, ?_, ?_, ?_, ?_, ?_⟩
        · refine e4 _ _ ?_
          rw [upd_ne hbq]
          exact e3 b o (by simpa using hb) (e2 b o (by simpa using hb) (hk b o hb hbq h))
        · obtain ⟨a1, a2, a3, a4, a5, a6⟩ := w3
          refine ⟨a1, a2, a3, e4 _ _ ?_, a5, by omega⟩
          rw [upd_ne hqp.symm]
          exact a4
        · rw [List.map_append]
          exact e34 _ _ hqU
        · exact ((hW.keepT fun t us h => e34 _ _ (keep (hid_ex (e2.trans e3) _ _ h))).app (e34 _ _ (keep ht)))
        · exact hok.app hy1 fun w hw => Int.le_trans (hall w hw).2 hl1
        · rw [List.length_append]
          show ws.length + 1 ≤ m + 1
          omega
        · omega
        · intro w hw
          rcases List.mem_append.mp hw with z | z
          · have := hall w z
            exact ⟨by omega, by omega⟩
          · rw [List.mem_singleton.mp z]
            exact ⟨Int.le_of_lt hy1, Int.le_refl _⟩
    · rintro m σ' H' hm ⟨low, rs, ws, u, rfl, hk, w', hq', hW, hok, hlen, hlow, hall⟩
      refine x_ret (Ex.refl H') (ev_var rfl) fun H2 e2 _ => k _ H2 ?_ ((w'.mono e2).le (by omega)) ⟨q, rs, ws, rfl, hid_exE e2 _ _ hq', hW.mono (hid_exE e2), hok, by omega, fun w hw => ?_⟩
      · intro b o hb h
        have hb' : b ≠ p := by simpa using hb
        have h1 := e1 b o hb h
        by_cases z : b = q
        · rw [z, hqn] at h
          cases h
        · exact e2 _ _ (hk b o hb' z h1)
      · have := hall w hw
        exact ⟨by omega, by omega⟩
end
end RS
end

section
set_option Elab.async false
set_option linter.all false
set_option maxRecDepth 100000
set_option maxHeartbeats 4000000
namespace RS
open PySem PySem.Spec PyProof.Rows L2 Evl
theorem cut_tail (gs : List Int) {n : Nat} (h : n ≤ gs.length) : cutV (gs.map V.int) (some ((gs.length : Int) - (n : Int))) none = (gs.drop (gs.length - n)).map V.int := by
  unfold cutV
  have e : (gs.length : Int) - (n : Int) = ((gs.length - n : Nat) : Int) := by omega
  rw [e, HT.sIx_nat, HT.sIx_none, List.length_map]
  have e2 : min (gs.length - n) gs.length = gs.length - n := by omega
  rw [e2, ← List.map_drop, List.take_of_length_le]
  rw [List.length_map, List.length_drop]
  omega
theorem sum_6 : ∀ {l : List Int}, (∀ x ∈ l, 1 ≤ x ∧ x ≤ 6) → 0 ≤ l.sum ∧ l.sum ≤ 6 * (l.length : Int)
  | [], _ => ⟨Int.le_refl _, Int.le_refl _⟩
  | a :: r, h => by
    have h1 := sum_6 (l := r) fun x hx => h x (List.mem_cons_of_mem _ hx)
    have h2 := h a List.mem_cons_self
    rw [List.sum_cons, List.length_cons]
    omega
section
variable {P : Program} {w : World} {K : PySem.W.Frag} {mg : Str → Option Value} {base : Heap} {G H : Hp} {p : Addr} {d : Nat} {σ : L2.St} {ta td te tb tu : TE} {D : Ends} {tz ts : TS}
theorem ew_cat1 {l : Addr} {ns : List Int} {A : Int → Prop} (ha : Ev ta σ G (.ref l)) (hl : G l = some (.lst (ns.map V.int))) (h : EvW p d te σ G (isI A)) (hz : ns.length + 1 ≤ 100000) : EvW p d (tOp rCat ta (tLst (tCons te tNil))) σ G (fun z H => ∃ q x, z = .ref q ∧ H q = some (.lst ((ns ++ [x]).map V.int)) ∧ A x) := fun n H1 hn hw e Q k =>
  ha H1 (e.trans hide_ex) _ fun H2 e2 => h n H2 hn (hw.mono e2) (e.trans (hid_exE e2)) (fun v H3 => _ ∧ _) fun z H3 e3 w3 ⟨x, hx, hA⟩ => ⟨(show 1 ≤ sizeLine by decide), fun l' hl' => by
    subst hx
    have h3 := hide_ex _ _ (hid_ex ((ExB.of e2).trans e3) _ _ (e _ _ hl))
    refine ⟨l, l', ns.map V.int, [.int x], rfl, rfl, Ex.new hl' _ _ h3, upd_same, by rw [List.length_map]; exact sz_of hz, fun r hr => k _ _ (((ExB.of e2).trans e3).trans (ExB.of ((Ex.new hl').trans (Ex.new hr)))) ((w3.mono (Ex.new hl')).mono (Ex.new hr)) ⟨r, x, rfl, hid_of ((w3.mono (Ex.new hl')).ne hr) ?_, hA⟩⟩
    rw [upd_same, List.map_append]
    rfl⟩
theorem ew_mulV {A B : Int → Prop} {i : Int} (hi : Ev ta σ G (.int i)) (h : EvW p d te σ G (isI A)) (hb : -(2 ^ 64) < i ∧ i < 2 ^ 64) (hB : ∀ x, A x → B (i * x)) : EvW p d (tOp (rI CMul fun i j => .int (i * j)) ta te) σ G (isI B) := (ew_op (d1 := 0) (A := fun j => j = i) (g := fun i j => i * j) (ew_int hi rfl) h (fun i' j H hi' _ => rv_mulL (by rw [hi']; exact hb)) (fun i' j hi hj => by rw [hi]; exact hB j hj)).le (by omega)
def partsR : VP := fun z H => ∃ (t l e b q : Addr) (long : Int), z = .ref t ∧ H t = some (.tup [.ref l, .ref e, .ref b, .ref q, .int long]) ∧ isNs 0 5 (fun x => 1 ≤ x ∧ x ≤ 6) (.ref l) H ∧ isNs 1 8 (fun x => 0 ≤ x ∧ x < 40) (.ref b) H ∧ winsR (.ref q) H ∧ 1 ≤ long ∧ long ≤ 8
def pA : Hp → List V → VP → Nat → Prop := fun _ us R d => us = [] ∧ d = 100 ∧ R = partsR
def sp_law_parts : Sp := SpW pA
theorem ok_law_parts (T : Txt K mg) : ∃ fd, CalG P w K mg base 5 "_law_parts" (He.ga K "_law_parts") fd ["_law_well_here"] sp_law_parts := by
  obtain ⟨fd_law_draw, c_law_draw⟩ := ok_law_draw (P := P) (w := w) (base := base) T
  obtain ⟨fd_law_gaps, c_law_gaps⟩ := ok_law_gaps (P := P) (w := w) (base := base) T
  obtain ⟨fd_law_one, c_law_one⟩ := ok_law_one (P := P) (w := w) (base := base) T
  obtain ⟨fd_law_windows, c_law_windows⟩ := ok_law_windows (P := P) (w := w) (base := base) T
  obtain ⟨fd, F⟩ := T.f_law_parts
  refine ⟨fd, T.g_law_parts, F.kp, F.ok sc_law_parts (fun vs H Q E h => ?_) (fun cdv A outer s H vs Q E hr h => ?_), F.bindsN fun _ _ _ _ _ _ us hl => match us, hl with | [_], _ => rfl⟩
  · obtain ⟨_, _, _, _, _, rfl, _, _, ⟨rfl, _⟩, _⟩ := h
    rfl
  · obtain ⟨p, n, _, _, _, rfl, hw, hn, ⟨rfl, rfl, rfl⟩, k⟩ := h
    refine ⟨_, PSs.nox (pss_cons (ps_asg (pe_call c_law_gaps.ok (hr.mono (by decide)) (by rfl) c_law_gaps.gl c_law_gaps.kp c_law_gaps.b .nil pass0 (pa_cons (pv 0) pa_nil)) (pg_tup rfl (pgs_cons (pg_name (i := 1) sc_law_parts.nd rfl (by first | exact Or.inl rfl | exact Or.inr rfl)) (pgs_cons (pg_name (i := 2) sc_law_parts.nd rfl (by first | exact Or.inl rfl | exact Or.inr rfl)) pgs_nil))))
      (pss_cons (ps_set (i := 3) sc_law_parts.nd rfl (by first | exact Or.inl rfl | exact Or.inr rfl) (pe_call c_law_one.ok (hr.mono (by decide)) (by rfl) c_law_one.gl c_law_one.kp c_law_one.b .nil pass0 (pa_cons (pv 0) (pa_cons (pe_lst (pa_cons pe_int (pa_cons pe_int (pa_cons pe_int pa_nil)))) pa_nil))))
      (pss_cons (ps_setLc (i := 4) (own := [("_law_k", 5)]) rfl sc_law_parts.nd rfl rfl (sw_true rfl rfl rfl (by decide +kernel)) (pi_range1 (by rfl) T.b_range (pa_cons (pe_op op_add pe_int (pe_call c_law_draw.ok (hr.mono (by decide)) (by rfl) c_law_draw.gl c_law_draw.kp c_law_draw.b .nil pass0 (pa_cons (pv 0) (pa_cons pe_int pa_nil)))) pa_nil)) (blkOk_by (own := [("_law_k", 5)]) (N := ["_law_well_here", "_law_steps", "_law_ending", "_law_wide", "_law_begins", "_law_k"]) (sc := defScope s_law_parts) (by decide +kernel)) (fun _ _ _ _ _ => (pg_name (i := 5) sc_law_parts.nd rfl (by first | exact Or.inl rfl | exact Or.inr rfl))) (fun _ _ _ _ _ => pts_nil) (fun _ _ _ _ _ => (pe_call c_law_draw.ok (hr.mono (by decide)) (by rfl) c_law_draw.gl c_law_draw.kp c_law_draw.b .nil pass0 (pa_cons (pv 0) (pa_cons (pv 3) pa_nil)))))
      (pss_one (ps_ret (pe_tup (pa_cons (pv 1) (pa_cons (pv 2) (pa_cons (pv 4) (pa_cons (pe_call c_law_windows.ok (hr.mono (by decide)) (by rfl) c_law_windows.gl c_law_windows.kp c_law_windows.b .nil pass0 (pa_cons (pv 0) pa_nil)) (pa_cons (pe_op op_add pe_int (pe_call c_law_draw.ok (hr.mono (by decide)) (by rfl) c_law_draw.gl c_law_draw.kp c_law_draw.b .nil pass0 (pa_cons (pv 0) (pa_cons (pe_call c_law_one.ok (hr.mono (by decide)) (by rfl) c_law_one.gl c_law_one.kp c_law_one.b .nil pass0 (pa_cons (pv 0) (pa_cons (pe_lst (pa_cons pe_int (pa_cons pe_int (pa_cons pe_int pa_nil)))) pa_nil))) pa_nil)))) pa_nil))))))))))), ?_⟩
    refine (ew_call0 (A := gA) (d := 20) (R := gapsR) rfl fun _ _ => ⟨rfl, rfl, rfl⟩ : EvW p 20 (tCall sp_law_gaps [] _ _) _ (hide H [p]) gapsR) n H (by omega) hw (Ex.refl _) _ fun z H1 e1 w1 hz => ?_
    obtain ⟨t, l, e, rfl, ht, hl⟩ := hz
    refine g_pair (st_of (hide_ex _ _ ht)) ?_
    refine x_asgW (d := 1) (R := isI fun x => 1 ≤ x ∧ x ≤ 40) w1 (ew_one3 rfl (by decide) (by decide) (by decide)) (by omega) fun z H2 e2 w2 hz => ?_
    obtain ⟨wd, rfl, hwd1, hwd2⟩ := hz
    refine x_asgW (d := 9) (R := isNs 1 8 fun x => 0 ≤ x ∧ x < 40) w2 (ew_compR (lo := 1) (M := 8) (A := fun x => 0 ≤ x ∧ x < 40) (d1 := 1) (d2 := 1) (ew_add1 (A := fun x => 0 ≤ x ∧ x < 8) (ew_draw0 8 rfl ev_c (by decide) (by decide) fun x a b => ⟨a, b⟩) fun x hx => ⟨by omega, by omega⟩) (by decide) (fun _ => rfl) fun i => ew_draw0 wd rfl (ev_var rfl) hwd1 (by omega) fun x a b => ⟨a, by omega⟩) (by omega) fun z H3 e3 w3 hz => ?_
    have hb := hz
    obtain ⟨b, _, rfl, _⟩ := hz
    have hl3 := stay_Ns _ _ _ (hid_ex (e2.trans e3)) hl
    refine x_retW (d := 22) (R := partsR) w3 ((ew_tupW (m := 5) (ew_acons (d1 := 0) (ew_ev (ev_var rfl)) stay_V (ew_acons (d1 := 0) (ew_ev (ev_var rfl)) stay_V (ew_acons (d1 := 0) (ew_ev (ev_var rfl)) stay_V (ew_acons (d1 := 20) (R := winsR) (ew_call0 (A := wA) rfl fun _ _ => ⟨rfl, rfl, rfl⟩) stay_wins (ew_acons (d1 := 2) (R := isI fun x => 1 ≤ x ∧ x ≤ 8) (ew_add1 (A := fun x => 0 ≤ x ∧ x < 8) (ew_draw (d := 1) 8 rfl (ew_one3 rfl (by decide) (by decide) (by decide)) (by decide) fun x a b => ⟨a, b⟩) fun x hx => ⟨by omega, by omega⟩) stay_I ew_anil))))) ?_ (by decide) ?_).imp ?_) (by omega) fun z H4 e4 w4 hz => k z H4 (((e1.trans e2).trans e3).trans e4) (w4.le (by omega)) hz
    · rintro vs H ⟨z1, r1, rfl, _, z2, r2, rfl, _, z3, r3, rfl, _, z4, r4, rfl, _, z5, r5, rfl, _, rfl⟩
      rfl
    · rintro vs H H' e ⟨z1, r1, rfl, a1, z2, r2, rfl, a2, z3, r3, rfl, a3, z4, r4, rfl, a4, z5, r5, rfl, a5, rfl⟩
      exact ⟨_, _, rfl, a1, _, _, rfl, a2, _, _, rfl, a3, _, _, rfl, stay_wins _ _ _ e a4, _, _, rfl, a5, rfl⟩
    · rintro z H ex ⟨t, vs, rfl, ht, z1, r1, rfl, a1, z2, r2, rfl, a2, z3, r3, rfl, a3, z4, r4, rfl, a4, z5, r5, rfl, ⟨lg, rfl, hg1, hg2⟩, rfl⟩
      cases a1
      cases a2
      cases a3
      have a4' := a4
      obtain ⟨q, _, _, rfl, _⟩ := a4'
      exact ⟨t, l, e, b, q, lg, rfl, ht, stay_Ns _ _ _ ex hl3, stay_Ns _ _ _ ex hb, a4, hg1, hg2⟩
def loopedR : VP := fun z H => ∃ (t l e b q : Addr) (gs st : List Int) (n : Nat) (long : Int), z = .ref t ∧ H t = some (.tup [.ref l, .ref e, .ref b, .ref q, .int long]) ∧ H l = some (.lst (gs.map V.int)) ∧ H e = some (.tup [.str "repeat", .int (n : Int)]) ∧ H b = some (.lst (st.map V.int)) ∧ winsR (.ref q) H ∧
  1 ≤ n ∧ n ≤ gs.length ∧ gs.length ≤ 6 ∧ (∀ g ∈ gs, 1 ≤ g ∧ g ≤ 6) ∧ 2 ≤ st.length ∧ st.length ≤ 11 ∧ (∀ x ∈ st, 0 ≤ x ∧ x ≤ 111) ∧ 1 ≤ long ∧ long ≤ 8
def lA : Hp → List V → VP → Nat → Prop := fun _ us R d => us = [] ∧ d = 120 ∧ R = loopedR
def sp_law_looped : Sp := SpW lA
theorem ok_law_looped (T : Txt K mg) : ∃ fd, CalG P w K mg base 6 "_law_looped" (He.ga K "_law_looped") fd ["_law_well_here"] sp_law_looped := by
  obtain ⟨fd_law_draw, c_law_draw⟩ := ok_law_draw (P := P) (w := w) (base := base) T
  obtain ⟨fd_law_one, c_law_one⟩ := ok_law_one (P := P) (w := w) (base := base) T
  obtain ⟨fd_law_parts, c_law_parts⟩ := ok_law_parts (P := P) (w := w) (base := base) T
  obtain ⟨fd, F⟩ := T.f_law_looped
  refine ⟨fd, T.g_law_looped, F.kp, F.ok sc_law_looped (fun vs H Q E h => ?_) (fun cdv A outer s H vs Q E hr h => ?_), F.bindsN fun _ _ _ _ _ _ us hl => match us, hl with | [_], _ => rfl⟩
  · obtain ⟨_, _, _, _, _, rfl, _, _, ⟨rfl, _⟩, _⟩ := h
    rfl
  · obtain ⟨p, n, _, _, _, rfl, hw, hn, ⟨rfl, rfl, rfl⟩, k⟩ := h
    refine ⟨_, PSs.nox (pss_cons (ps_asg (pe_call c_law_parts.ok (hr.mono (by decide)) (by rfl) c_law_parts.gl c_law_parts.kp c_law_parts.b .nil pass0 (pa_cons (pv 0) pa_nil)) (pg_tup rfl (pgs_cons (pg_name (i := 1) sc_law_looped.nd rfl (by first | exact Or.inl rfl | exact Or.inr rfl)) (pgs_cons (pg_name (i := 2) sc_law_looped.nd rfl (by first | exact Or.inl rfl | exact Or.inr rfl)) (pgs_cons (pg_name (i := 3) sc_law_looped.nd rfl (by first | exact Or.inl rfl | exact Or.inr rfl)) (pgs_cons (pg_name (i := 4) sc_law_looped.nd rfl (by first | exact Or.inl rfl | exact Or.inr rfl)) (pgs_cons (pg_name (i := 5) sc_law_looped.nd rfl (by first | exact Or.inl rfl | exact Or.inr rfl)) pgs_nil)))))))
      (pss_cons (ps_set (i := 1) sc_law_looped.nd rfl (by first | exact Or.inl rfl | exact Or.inr rfl) (pe_op op_cat (pv 1) (pe_lst (pa_cons (pe_op op_add pe_int (pe_call c_law_draw.ok (hr.mono (by decide)) (by rfl) c_law_draw.gl c_law_draw.kp c_law_draw.b .nil pass0 (pa_cons (pv 0) (pa_cons pe_int pa_nil)))) pa_nil))))
      (pss_cons (ps_set (i := 2) sc_law_looped.nd rfl (by first | exact Or.inl rfl | exact Or.inr rfl) (pe_tup (pa_cons pe_str (pa_cons (pe_op op_add pe_int (pe_call c_law_draw.ok (hr.mono (by decide)) (by rfl) c_law_draw.gl c_law_draw.kp c_law_draw.b .nil pass0 (pa_cons (pv 0) (pa_cons (pe_callB call_len_seq (by rfl) T.b_len (by decide +kernel) (pa_cons (pv 1) pa_nil)) pa_nil)))) pa_nil))))
      (pss_cons (ps_set (i := 6) sc_law_looped.nd rfl (by first | exact Or.inl rfl | exact Or.inr rfl) (pe_callB (cr_sum rfl) (by rfl) T.b_sum (by decide +kernel) (pa_cons (pe_slice sl_list (pv 1) (po_some (pe_op op_sub (pe_callB call_len_seq (by rfl) T.b_len (by decide +kernel) (pa_cons (pv 1) pa_nil)) (pe_ix ix_tup (pv 2) pe_int (fun _ _ => rfl)))) po_none) pa_nil)))
      (pss_cons (ps_setLc (i := 7) (own := [("_law_k", 8)]) rfl sc_law_looped.nd rfl rfl (sw_true rfl rfl rfl (by decide +kernel)) (pi_range1 (by rfl) T.b_range (pa_cons (pe_op op_add pe_int (pe_call c_law_draw.ok (hr.mono (by decide)) (by rfl) c_law_draw.gl c_law_draw.kp c_law_draw.b .nil pass0 (pa_cons (pv 0) (pa_cons pe_int pa_nil)))) pa_nil)) (blkOk_by (own := [("_law_k", 8)]) (N := ["_law_well_here", "_law_steps", "_law_ending", "_law_begins", "_law_windows_here", "_law_long", "_law_turn", "_law_more", "_law_k"]) (sc := defScope s_law_looped) (by decide +kernel)) (fun _ _ _ _ _ => (pg_name (i := 8) sc_law_looped.nd rfl (by first | exact Or.inl rfl | exact Or.inr rfl))) (fun _ _ _ _ _ => pts_nil) (fun _ _ _ _ _ => (pe_op op_add (pe_call c_law_one.ok (hr.mono (by decide)) (by rfl) c_law_one.gl c_law_one.kp c_law_one.b .nil pass0 (pa_cons (pv 0) (pa_cons (pv 3) pa_nil))) (pe_op op_mul (pv 6) (pe_call c_law_draw.ok (hr.mono (by decide)) (by rfl) c_law_draw.gl c_law_draw.kp c_law_draw.b .nil pass0 (pa_cons (pv 0) (pa_cons pe_int pa_nil)))))))
      (pss_one (ps_ret (pe_tup (pa_cons (pv 1) (pa_cons (pv 2) (pa_cons (pe_op op_cat (pv 3) (pv 7)) (pa_cons (pv 4) (pa_cons (pv 5) pa_nil))))))))))))), ?_⟩
    refine (ew_call0 (A := pA) (d := 100) (R := partsR) rfl fun _ _ => ⟨rfl, rfl, rfl⟩ : EvW p 100 (tCall sp_law_parts [] _ _) _ (hide H [p]) partsR) n H (by omega) hw (Ex.refl _) _ fun z H1 e1 w1 hz => ?_
    obtain ⟨t, l0, e0, b, q, long, rfl, ht, hl0, hb, hwn, hg1, hg2⟩ := hz
    refine ⟨t, _, rfl, st_of (hide_ex _ _ ht), rfl, _, _, rfl, _, _, rfl, _, _, rfl, _, _, rfl, _, _, rfl, rfl, ?_⟩
    dsimp only []
    obtain ⟨_, gs0, hz, hl, _, hlen, hgs⟩ := hl0
    cases hz
    obtain ⟨_, st0, hz, hbl, hb1, hb8, hst⟩ := hb
    cases hz
    refine x_asgW (d := 1) (R := fun z H => ∃ q x, z = .ref q ∧ H q = some (.lst ((gs0 ++ [x]).map V.int)) ∧ 1 ≤ x ∧ x ≤ 4) w1 (ew_cat1 (ev_var rfl) hl (ew_add1 (A := fun x => 0 ≤ x ∧ x < 4) (ew_draw0 4 rfl ev_c (by decide) (by decide) fun x a b => ⟨a, b⟩) fun x hx => ⟨by omega, by omega⟩) (by omega)) (by omega) fun z H2 e2 w2 hz => ?_
    obtain ⟨l, x, rfl, hl2, hx1, hx2⟩ := hz
    have hgl : (gs0 ++ [x]).length = gs0.length + 1 := by rw [List.length_append]; rfl
    have hga : ∀ g ∈ gs0 ++ [x], 1 ≤ g ∧ g ≤ 6 := fun g hg => by
      rcases List.mem_append.mp hg with z | z
      · exact hgs g z
      · rw [List.mem_singleton.mp z]
        exact ⟨hx1, by omega⟩
    generalize gs0 ++ [x] = gs at hl2 hgl hga
    refine x_asgW (d := 1) (R := fun z H => ∃ (e : Addr) (n : Nat), z = .ref e ∧ H e = some (.tup [.str "repeat", .int (n : Int)]) ∧ 1 ≤ n ∧ n ≤ gs.length) w2 ((ew_tupW (m := 2) (ew_acons (d1 := 0) (ew_ev ev_c) stay_V (ew_acons (d1 := 1) (R := isI fun x => 1 ≤ x ∧ x ≤ (gs.length : Int)) (ew_add1 (A := fun x => 0 ≤ x ∧ x < (gs.length : Int)) (ew_draw0 (gs.length : Int) rfl (ev_is (ev_lenS (es_of (ev_var rfl) hl2)) (by rw [List.length_map])) (by omega) (by omega) fun x a b => ⟨a, b⟩) fun x hx => ⟨by omega, by omega⟩) stay_I ew_anil)) ?_ (by decide) ?_).imp ?_) (by omega) fun z H3 e3 w3 hz => ?_
    · rintro vs H ⟨z1, r1, rfl, _, z2, r2, rfl, _, rfl⟩
      rfl
    · rintro vs H H' e ⟨z1, r1, rfl, a1, z2, r2, rfl, a2, rfl⟩
      exact ⟨_, _, rfl, a1, _, _, rfl, a2, rfl⟩
    · rintro z H e ⟨t, vs, rfl, ht, z1, r1, rfl, a1, z2, r2, rfl, ⟨y, rfl, hy1, hy2⟩, rfl⟩
      cases a1
      refine ⟨t, y.toNat, rfl, ?_, by omega, by omega⟩
      rw [ht]
      have : ((y.toNat : Nat) : Int) = y := by omega
      rw [this]
    obtain ⟨e, m, rfl, he, hm1, hm2⟩ := hz
    have hl3 := hid_ex e3 _ _ hl2
    refine x_asg (v := .int (gs.drop (gs.length - m)).sum) hide_ex (ev_sum (es_new (el_is (el_sl (ev_var rfl) (eo_some (ev_op (ev_is (ev_lenS (es_of (ev_var rfl) hl3)) (by rw [List.length_map])) (ev_ixU (esu_of (ev_var rfl) he) ev_c rfl) rv_I0)) eo_none (sq_of hl3)) (cut_tail gs hm2)))) fun H4 _ e4 => ?_
    have hsum := sum_6 (l := gs.drop (gs.length - m)) fun x hx => hga x (List.mem_of_mem_drop hx)
    rw [List.length_drop] at hsum
    generalize (gs.drop (gs.length - m)).sum = turn at hsum
    have w4 := w3.mono e4
    have ex14 := hid_ex ((e2.trans e3).trans (ExB.of e4))
    have hb4 := ex14 _ _ hbl
    refine x_asgW (d := 7) (R := isNs 1 3 fun x => 0 ≤ x ∧ x ≤ 111) w4 (ew_compR (lo := 1) (M := 3) (A := fun x => 0 ≤ x ∧ x ≤ 111) (d1 := 1) (d2 := 2) (ew_add1 (A := fun x => 0 ≤ x ∧ x < 3) (ew_draw0 3 rfl ev_c (by decide) (by decide) fun x a b => ⟨a, b⟩) fun x hx => ⟨by omega, by omega⟩) (by decide) (fun _ => rfl) fun i => ew_op (d1 := 1) (d2 := 1) (A := fun x => 0 ≤ x ∧ x < 40) (B := fun x => 0 ≤ x ∧ x ≤ 72) (g := fun i j => i + j) (ew_one (d := 0) (R1 := isV (.ref b)) rfl (ew_ev (ev_var rfl)) fun z G' ex hz => ⟨b, st0, hz, ex _ _ hb4, hb1, by omega, hst⟩) (ew_mulV (A := fun x => 0 ≤ x ∧ x < 3) (ev_var rfl) (ew_draw0 3 rfl ev_c (by decide) (by decide) fun x a b => ⟨a, b⟩) ⟨by omega, by omega⟩ fun x hx => ?_) (fun i j H _ _ => rv_I0) fun i j hi hj => ⟨by omega, by omega⟩) (by omega) fun z H5 e5 w5 hz => ?_
    · have h1 : turn ≤ 36 := by omega
      have h2 : 0 ≤ turn * x := Int.mul_nonneg hsum.1 hx.1
      have h3 : turn * x ≤ 36 * 2 := by
        have a1 : turn * x ≤ 36 * x := Int.mul_le_mul_of_nonneg_right h1 hx.1
        omega
      exact ⟨h2, by omega⟩
    obtain ⟨mo, st1, rfl, hmo, hs1, hs3, hsa⟩ := hz
    have ex15 := hid_ex (((e2.trans e3).trans (ExB.of e4)).trans e5)
    have hb5 := ex15 _ _ hbl
    have hl5 := hid_ex ((ExB.of e4).trans e5) _ _ hl3
    have he5 := hid_ex ((ExB.of e4).trans e5) _ _ he
    have hw5 := stay_wins _ _ _ ex15 hwn
    refine x_retW (d := 0) (R := loopedR) w5 ((ew_tupW (m := 5) (ew_acons (d1 := 0) (ew_ev (ev_var rfl)) stay_V (ew_acons (d1 := 0) (ew_ev (ev_var rfl)) stay_V (ew_acons (d1 := 0) (ew_lst (el_cat (es_of (ev_var rfl) hb5) (es_of (ev_var rfl) hmo) (by rw [List.length_map, List.length_map]; omega))) stay_L (ew_acons (d1 := 0) (ew_ev (ev_var rfl)) stay_V (ew_acons (d1 := 0) (ew_ev (ev_var rfl)) stay_V ew_anil))))) ?_ (by decide) ?_).imp ?_) (by omega) fun z H6 e6 w6 hz => k z H6 (((((e1.trans e2).trans e3).trans (ExB.of e4)).trans e5).trans e6) (w6.le (by omega)) hz
    · rintro vs H ⟨z1, r1, rfl, _, z2, r2, rfl, _, z3, r3, rfl, _, z4, r4, rfl, _, z5, r5, rfl, _, rfl⟩
      rfl
    · rintro vs H H' e ⟨z1, r1, rfl, a1, z2, r2, rfl, a2, z3, r3, rfl, a3, z4, r4, rfl, a4, z5, r5, rfl, a5, rfl⟩
      exact ⟨_, _, rfl, a1, _, _, rfl, a2, _, _, rfl, stay_L _ _ _ e a3, _, _, rfl, a4, _, _, rfl, a5, rfl⟩
    · rintro z H ex ⟨t, vs, rfl, ht, z1, r1, rfl, a1, z2, r2, rfl, a2, z3, r3, rfl, ⟨bb, rfl, hbb⟩, z4, r4, rfl, a4, z5, r5, rfl, a5, rfl⟩
      cases a1
      cases a2
      cases a4
      cases a5
      refine ⟨t, l, e, bb, q, gs, st0 ++ st1, m, long, rfl, ht, ex _ _ hl5, ex _ _ he5, by rw [hbb, List.map_append], stay_wins _ _ _ ex hw5, hm1, hm2, by omega, hga, by rw [List.length_append]; omega, by rw [List.length_append]; omega, fun x hx => ?_, hg1, hg2⟩
      rcases List.mem_append.mp hx with z | z
      · have := hst x z
        exact ⟨this.1, by omega⟩
      · exact hsa x z
end
end RS
end

section
set_option Elab.async false
set_option linter.all false
set_option maxRecDepth 100000
set_option maxHeartbeats 4000000
namespace RS
open PySem PySem.Spec PyProof.Rows L2 Evl
theorem pre_all (gs : List Int) : pre gs gs.length = gs.sum := by
  unfold pre
  rw [List.take_length]
theorem sum_drop (gs : List Int) (u : Nat) : (gs.drop u).sum = pre gs gs.length - pre gs u := by
  rw [pre_all]
  unfold pre
  have : gs.sum = (gs.take u).sum + (gs.drop u).sum := by
    rw [← List.sum_append, List.take_append_drop]
  omega
theorem sum_part {gs : List Int} {u m : Nat} : ((gs.drop u).take m).sum = pre gs (u + m) - pre gs u := by
  unfold pre
  have h := congrArg List.sum (List.take_append_drop u (gs.take (u + m)))
  rw [List.sum_append, List.take_take, List.drop_take] at h
  have e1 : min u (u + m) = u := by omega
  have e2 : u + m - u = m := by omega
  rw [e1, e2] at h
  omega
theorem drop_at {gs : List Int} {u i : Nat} {g : Int} (h : (gs.drop u)[i]? = some g) : pre gs (u + (i + 1)) = pre gs (u + i) + g := by
  rw [List.getElem?_drop] at h
  obtain ⟨h1, h2⟩ := List.getElem?_eq_some_iff.mp h
  have := pre_succ (gs := gs) (k := u + i) h1
  rw [h2] at this
  exact this
theorem upd_none {H : Hp} {a b : Addr} {o : HO} (h : upd H a o b = none) : b ≠ a ∧ H b = none := by
  by_cases z : b = a
  · rw [z, upd_same] at h
    cases h
  · rw [upd_ne z] at h
    exact ⟨z, h⟩
theorem exB_new {H1 H' : Hp} {x dx : Addr} {o o' : HO} (hx : H1 x = none) (hdx : H1 dx = none) (e : ExB [x] (upd (upd H1 dx o) x o') H') : Ex H1 H' := fun b u h => by
  have n1 : b ≠ x := fun z => by
    rw [z, hx] at h
    cases h
  have n2 : b ≠ dx := fun z => by
    rw [z, hdx] at h
    cases h
  exact e b u (by simpa using n1) (by rw [upd_ne n1, upd_ne n2]; exact h)
section
variable {P : Program} {w : World} {K : PySem.W.Frag} {mg : Str → Option Value} {base : Heap} {G H : Hp} {p : Addr} {d : Nat} {σ : L2.St} {ta td te tb tu : TE} {D : Ends} {tz ts : TS}
theorem x_asgG {g : TG} {v : V} (e : Ex G H) (h : Ev te σ G v) (k : ∀ H1, Ex G H1 → Ex H H1 → g v σ H1 (tz D)) : tSeq (tAsg te g) tz D σ H := h H e _ fun H1 e1 => k H1 (e.trans e1) e1
theorem ret_makeK {C : Addr} {n m : Nat} {sp : Sp} {gV : List V → List V → List V} {E : XK} {t1 t2 : TE} (h : ta σ H fun z H1 => tb σ H1 fun y H2 => t1 σ H2 fun a H3 => t2 σ H3 fun b H4 => [z, y].length = n ∧ [a, b].length = m ∧ ∀ x dx, H4 x = none → H4 dx = none → dx ≠ x → sp (gV (.ref x :: [z, y]) [a, b]) (upd (upd H4 dx (.own x)) x (.ins C dx [])) (fun v H5 => v = .non ∧ D.rt (.ref x) H5) E) :
    tRet (tMakeK C n m sp gV E (tCons ta (tCons tb tNil)) (tCons t1 (tCons t2 tNil))) D σ H := h
/-- Rule(gaps, tail) -/
theorem q_newRule {E : XK} {gs : List Int} {n : Nat} {e : Addr} (ha : EvL ta σ G (gs.map V.int)) (hb : Ev tb σ G (.ref e)) (he : G e = some (.tup [.str "repeat", .int (n : Int)])) (ok : RuleOk gs n) (hi : ∀ g ∈ gs, g ≤ 1000) (sz : gs.length ≤ 20) :
    EvQ (tMake (cRule K) (sp_Rule_init K) [] E (tCons ta (tCons tb tNil))) σ G (fun z H => ∃ ra, z = .ref ra.r ∧ RuleA K H ra gs n ∧ G ra.l = none ∧ G ra.s = none) := fun H1 ex Q q =>
  ha H1 ex _ fun l H2 hl e2 h2 => hb H2 (ex.trans e2) _ fun H3 e3 x dx hx hdx hne => by
    rw [List.append_nil]
    have nw : ∀ {b : Addr} {o : HO}, H3 b = some o → upd (upd H3 dx (.own x)) x (.ins (cRule K) dx []) b = some o := fun {b o} h => by
      rw [upd_ne (ne_of_none h hx), upd_ne (ne_of_none h hdx)]
      exact h
    refine ⟨x, dx, l, e, gs, n, rfl, upd_same, nw (e3 _ _ h2), nw (((ex.trans e2).trans e3) _ _ he), ok, hi, sz, fun H' a hr h1 h2 R e4 => ⟨rfl, ?_⟩⟩
    have e5 := exB_new hx hdx e4
    have f := fun {b : Addr} (h : upd (upd H3 dx (.own x)) x (.ins (cRule K) dx []) b = none) => fresh_back ((ex.trans e2).trans e3) (upd_none (upd_none h).2).2
    subst hr
    exact q _ H' ((e2.trans e3).trans e5) ⟨a, rfl, R, f h1, f h2⟩
def madeR (K : PySem.W.Frag) (H0 : Hp) (S : Sc) : VP := fun z H => ∃ sa, z = .ref sa.p ∧ SceneA K H sa S ∧ H0 sa.ra.l = none ∧ H0 sa.ra.s = none ∧ H0 sa.st = none
structure PartsA (H : Hp) (t l e b q : Addr) (rs : List Addr) (S : Sc) : Prop where
  t : H t = some (.tup [.ref l, .ref e, .ref b, .ref q, .int S.ln])
  l : H l = some (.lst (S.gs.map V.int))
  e : H e = some (.tup [.str "repeat", .int (S.n : Int)])
  b : H b = some (.lst (S.st.map V.int))
  q : H q = some (.lst (rs.map V.ref))
  w : WinA H rs S.ws
  ok : RuleOk S.gs S.n
  g6 : ∀ g ∈ S.gs, 1 ≤ g ∧ g ≤ 6
  gl : S.gs.length ≤ 6
theorem PartsA.mono {H' : Hp} {t l e b q : Addr} {rs : List Addr} {S : Sc} (h : PartsA H t l e b q rs S) (x : Ex H H') : PartsA H' t l e b q rs S := ⟨x _ _ h.t, x _ _ h.l, x _ _ h.e, x _ _ h.b, x _ _ h.q, h.w.mono x, h.ok, h.g6, h.gl⟩
def sp_law_made (K : PySem.W.Frag) : Sp := SpQ fun vs H R => ∃ (t l e b q : Addr) (rs : List Addr) (S : Sc), vs = [.ref t] ∧ PartsA H t l e b q rs S ∧ WinOk S.ws ∧ 1 ≤ S.N ∧ S.N ≤ 40 ∧ S.ws.length ≤ 10 ∧ 1 ≤ S.ln ∧ ∃ H0, Ex H0 H ∧ R = madeR K H0 S
theorem ok_law_made (T : Txt K mg) : ∃ fd, CalG P w K mg base 6 "_law_made" (He.ga K "_law_made") fd ["_law_parts_here"] (sp_law_made K) := by
  obtain ⟨fd_Rule_init, c_Rule_init⟩ := ok_Rule_init (P := P) (w := w) (base := base) T
  obtain ⟨fd_Scene_init, c_Scene_init⟩ := ok_Scene_init (P := P) (w := w) (base := base) T
  obtain ⟨fd, F⟩ := T.f_law_made
  refine ⟨fd, T.g_law_made, F.kp, F.ok sc_law_made (fun vs H Q E h => ?_) (fun cdv A outer s H vs Q E hr h => ?_), F.bindsN fun _ _ _ _ _ _ us hl => match us, hl with | [_], _ => rfl⟩
  · obtain ⟨_, ⟨_, _, _, _, _, _, _, rfl, _⟩, _⟩ := h
    rfl
  · obtain ⟨_, ⟨t, l, e, b, q, rs, S, rfl, A, hwo, n1, n40, w10, ln1, Hz, eHz, rfl⟩, k⟩ := h
    refine ⟨_, PSs.nox (pss_cons (ps_asg (pv 0) (pg_tup rfl (pgs_cons (pg_name (i := 1) sc_law_made.nd rfl (by first | exact Or.inl rfl | exact Or.inr rfl)) (pgs_cons (pg_name (i := 2) sc_law_made.nd rfl (by first | exact Or.inl rfl | exact Or.inr rfl)) (pgs_cons (pg_name (i := 3) sc_law_made.nd rfl (by first | exact Or.inl rfl | exact Or.inr rfl)) (pgs_cons (pg_name (i := 4) sc_law_made.nd rfl (by first | exact Or.inl rfl | exact Or.inr rfl)) (pgs_cons (pg_name (i := 5) sc_law_made.nd rfl (by first | exact Or.inl rfl | exact Or.inr rfl)) pgs_nil)))))))
      (pss_one (ps_ret (pe_makeK T.mk_Scene c_Scene_init.ok (hr.mono (by decide)) (by rfl) T.g_Scene c_Scene_init.b pass0 (pa_cons (pe_make T.mk_Rule c_Rule_init.ok (hr.mono (by decide)) (by rfl) T.g_Rule c_Rule_init.b .nil pass0 (pa_cons (pe_callTy call_list_of (by rfl) T.b_list (by decide +kernel) (pa_cons (pv 1) pa_nil)) (pa_cons (pv 2) pa_nil))) (pa_cons (pe_callTy call_list_of (by rfl) T.b_list (by decide +kernel) (pa_cons (pv 3) pa_nil)) pa_nil)) (pk_cons (pe_callTy call_list_of (by rfl) T.b_list (by decide +kernel) (pa_cons (pv 4) pa_nil)) (pk_cons (pv 5) pk_nil)))))), ?_⟩
    refine x_asgG (Ex.refl H) (ev_var rfl) fun H1 e1 _ => ?_
    refine ⟨t, _, rfl, st_of (e1 _ _ A.t), rfl, _, _, rfl, _, _, rfl, _, _, rfl, _, _, rfl, _, _, rfl, rfl, ?_⟩
    dsimp only []
    have A1 := A.mono e1
    refine ret_makeK ?_
    refine q_newRule (σ := [some (.ref t), some (.ref l), some (.ref e), some (.ref b), some (.ref q), some (.int S.ln)]) (ta := tCB (rListS K) (tCons (tVar 1) tNil)) (tb := tVar 2) (G := H1) (el_listS (es_of (ev_var rfl) A1.l)) (ev_var rfl) A1.e A1.ok (fun g hg => by have := A1.g6 g hg; omega) (by have := A1.gl; omega) H1 (Ex.refl _) _ fun z H2 e2 hz => ?_
    obtain ⟨ra, rfl, hra, hf1, hf2⟩ := hz
    have A2 := A1.mono e2
    refine (el_listS (K := K) (es_of (ev_var rfl) A2.b) : EvL (tCB (rListS K) (tCons (tVar 3) tNil)) [some (.ref t), some (.ref l), some (.ref e), some (.ref b), some (.ref q), some (.int S.ln)] H2 _) H2 (Ex.refl _) _ fun st' H3 hst e3 h3 => ?_
    have A3 := A2.mono e3
    refine (el_listS (K := K) (es_of (ev_var rfl) A3.q) : EvL (tCB (rListS K) (tCons (tVar 4) tNil)) [some (.ref t), some (.ref l), some (.ref e), some (.ref b), some (.ref q), some (.int S.ln)] H3 _) H3 (Ex.refl _) _ fun ws' H4 hws e4 h4 => ?_
    refine (ev_var rfl : Ev (tVar 5) [some (.ref t), some (.ref l), some (.ref e), some (.ref b), some (.ref q), some (.int S.ln)] H4 (.int S.ln)) H4 (Ex.refl _) _ fun H5 e5 => ?_
    refine ⟨rfl, rfl, fun x dx hx hdx hne => ?_⟩
    have nw : ∀ {b : Addr} {o : HO}, H5 b = some o → upd (upd H5 dx (.own x)) x (.ins (cScene K) dx []) b = some o := fun {b o} h => by
      rw [upd_ne (ne_of_none h hx), upd_ne (ne_of_none h hdx)]
      exact h
    have exN : Ex H5 (upd (upd H5 dx (.own x)) x (.ins (cScene K) dx [])) := fun _ _ h => nw h
    have A5 := (A3.mono (e4.trans e5)).mono exN
    refine ⟨x, dx, ra, st', ws', rs, S, rfl, upd_same, hra.mono ((e3.trans (e4.trans e5)).trans exN), nw (e5 _ _ (e4 _ _ h3)), nw (e5 _ _ h4), A5.w, hwo, n1, n40, w10, ln1, fun H' a hr hra' hst0 X e6 => ⟨rfl, ?_⟩⟩
    have ex05 : Ex H H5 := (((e1.trans e2).trans e3).trans e4).trans e5
    subst hr
    refine k _ H' (ex05.trans (exB_new hx hdx e6)) ⟨a, rfl, X, ?_, ?_, fresh_back (eHz.trans ex05) (upd_none (upd_none hst0).2).2⟩
    · rw [hra']
      exact fresh_back (eHz.trans e1) hf1
    · rw [hra']
      exact fresh_back (eHz.trans e1) hf2
theorem bl_hit {gs : List Int} {n : Nat} {d : Int} {b : Bool} (ok : RuleOk gs n) (h : b = true ↔ At gs n d) : V.bl b = .bl (hitB gs n d) := by
  congr 1
  rw [Bool.eq_iff_iff, h, hitB_iff ok]
def sp_law_has : Sp := SpQ fun vs H R => ∃ (l e : Addr) (gs : List Int) (n : Nat) (x : Int), vs = [.ref l, .ref e, .int x] ∧ H l = some (.lst (gs.map V.int)) ∧ H e = some (.tup [.str "repeat", .int (n : Int)]) ∧ RuleOk gs n ∧ R = isV (.bl (hitB gs n x))
theorem ok_law_has (T : Txt K mg) : ∃ fd, CalG P w K mg base 1 "_law_has" (He.ga K "_law_has") fd ["_law_steps", "_law_ending", "_law_distance"] sp_law_has := by
  obtain ⟨fd, F⟩ := T.f_law_has
  refine ⟨fd, T.g_law_has, F.kp, F.ok sc_law_has (fun vs H Q E h => ?_) (fun cdv A outer s H vs Q E hr h => ?_), F.bindsN fun _ _ _ _ _ _ us hl => match us, hl with | [_, _, _], _ => rfl⟩
  · obtain ⟨_, ⟨_, _, _, _, _, rfl, _⟩, _⟩ := h
    rfl
  · obtain ⟨_, ⟨l, e, gs, n, x, rfl, hl, he, ok, rfl⟩, k⟩ := h
    refine ⟨_, PSs.nox (pss_cons (ps_set (i := 3) sc_law_has.nd rfl (by first | exact Or.inl rfl | exact Or.inr rfl) pe_int)
      (pss_cons (ps_for PassesOwn.never rfl (pi_list (pv 0)) (pg_name (i := 4) sc_law_has.nd rfl (by first | exact Or.inl rfl | exact Or.inr rfl)) (pss_cons (ps_if (pt_cmpR op_eq (pv 3) (pv 2) (nomark _)) (pss_one (ps_ret pe_bl)) pss_nil)
      (pss_one (ps_set (i := 3) sc_law_has.nd rfl (by first | exact Or.inl rfl | exact Or.inr rfl) (pe_op op_add (pv 3) (pv 4))))))
      (pss_cons (ps_if (PW.pt (pw_or (pt_cmpR op_eq (pe_ix ix_tup (pv 1) pe_int (fun _ _ => rfl)) pe_str (nomark _)) (pw_or1 (pt_cmpR op_ge (pv 3) (pv 2) (nomark _))))) (pss_one (ps_ret (pe_cmpR op_eq (pv 3) (pv 2) (nomark _)))) pss_nil)
      (pss_cons (ps_if (pt_cmpR op_eq (pe_ix ix_tup (pv 1) pe_int (fun _ _ => rfl)) pe_str (nomark _)) (pss_cons (ps_set (i := 5) sc_law_has.nd rfl (by first | exact Or.inl rfl | exact Or.inr rfl) (pe_slice sl_list (pv 0) (po_some (pe_op op_sub (pe_callB call_len_seq (by rfl) T.b_len (by decide +kernel) (pa_cons (pv 0) pa_nil)) (pe_ix ix_tup (pv 1) pe_int (fun _ _ => rfl)))) po_none))
      (pss_cons (ps_par (i := 6) (j := 7) (by rfl) sc_law_has.nd rfl rfl (by decide) rfl rfl (pa_cons (pe_op op_mod (pe_callTy call_int1 (by rfl) T.b_int (by decide +kernel) (pa_cons (pe_op op_sub (pv 2) (pv 3)) pa_nil)) (pe_callB (cr_sum rfl) (by rfl) T.b_sum (by decide +kernel) (pa_cons (pv 5) pa_nil))) (pa_cons pe_int pa_nil)) (by rfl))
      (pss_cons (ps_for PassesOwn.never rfl (pi_list (pv 5)) (pg_name (i := 4) sc_law_has.nd rfl (by first | exact Or.inl rfl | exact Or.inr rfl)) (pss_cons (ps_if (pt_cmpR op_eq (pv 7) (pv 6) (nomark _)) (pss_one (ps_ret pe_bl)) pss_nil)
      (pss_one (ps_set (i := 7) sc_law_has.nd rfl (by first | exact Or.inl rfl | exact Or.inr rfl) (pe_op op_add (pv 7) (pv 4))))))
      (pss_one (ps_ret pe_bl))))) pss_nil)
      (pss_cons ps_never
      (pss_cons ps_never
      (pss_one (ps_ret (pe_cmpR op_eq (pv 3) (pv 2) (nomark _)))))))))), ?_⟩
    have hper := per_pos ok
    have hu := uu_add ok
    refine x_asg (Ex.refl H) ev_c fun H1 e1 _ => ?_
    refine x_for (p := l) (xs := gs.map V.int) e1 (ev_var rfl) (fun _ e => sq_of (e _ _ hl)) (fun i σ' H' => Ex H H' ∧ (∃ u : Option V, σ' = [some (.ref l), some (.ref e), some (.int x), some (.int (pre gs i)), u, none, none, none]) ∧ ∀ j, j < i → pre gs j ≠ x) ?_ (fun i σ' H' _ q => sq_of (q.1 _ _ hl)) ?_ ?_
    · intro H2 e2 _
      exact ⟨e2, ⟨none, rfl⟩, fun j hj => absurd hj (Nat.not_lt_zero j)⟩
    · rintro i g σ' H' hg ⟨e2, ⟨u, rfl⟩, hno⟩
      rw [List.getElem?_map] at hg
      obtain ⟨g0, hg0, e0⟩ := Option.map_eq_some_iff.mp hg
      subst e0
      obtain ⟨hil, hgi⟩ := List.getElem?_eq_some_iff.mp hg0
      have hps := pre_succ hil
      rw [hgi] at hps
      by_cases hc : pre gs i = x
      · refine x_yes e2 (et_test (ev_op (ev_var rfl) (ev_var rfl) (rv_eqI (decide_eq_true hc)))) fun H3 e3 _ => ?_
        refine x_ret e3 ev_c fun H4 e4 _ => k _ H4 e4 (bl_hit ok ?_)
        have hle := pre_mono ok (i := i) (j := gs.length) (by omega) (Nat.le_refl _)
        exact ⟨fun _ => (at_low ok (by omega)).mpr ⟨i, by omega, hc⟩, fun _ => rfl⟩
      · refine x_no e2 (et_test (ev_op (ev_var rfl) (ev_var rfl) (rv_eqI (decide_eq_false hc)))) fun H3 e3 e3' => ?_
        refine s_asg (ev_op (ev_var rfl) (ev_var rfl) rv_I0) fun H4 e4 => ⟨e3.trans e4, ⟨some (.int g0), ?_⟩, fun j hj => ?_⟩
        · rw [hps]
          rfl
        · rcases Nat.lt_or_ge j i with z | z
          · exact hno j z
          · have : j = i := by omega
            rw [this]
            exact hc
    · rintro σ' H' ⟨e2, ⟨u, rfl⟩, hno⟩
      rw [List.length_map] at hno
      rw [List.length_map]
      have e_end : Ev (tOp (rIxT K) (tVar 1) (tC (.int 0))) [some (.ref l), some (.ref e), some (.int x), some (.int (pre gs gs.length)), u, none, none, none] H (.str "repeat") := ev_ixU (esu_of (ev_var rfl) he) ev_c rfl
      by_cases hge : pre gs gs.length ≥ x
      · refine x_yes e2 (et_or (a := false) (b := true) (et_test (ev_op e_end ev_c (rv_eqS (decide_eq_false nend)))) fun _ => et_test (ev_op (ev_var rfl) (ev_var rfl) (rv_B (decide_eq_true hge)))) fun H3 e3 _ => ?_
        refine x_ret e3 (ev_op (ev_var rfl) (ev_var rfl) (rv_eqI rfl)) fun H4 e4 _ => k _ H4 e4 (bl_hit ok ?_)
        rw [decide_eq_true_eq, at_low ok hge]
        constructor
        · intro z
          exact ⟨gs.length, Nat.le_refl _, z⟩
        · rintro ⟨j, hj, hz⟩
          rcases Nat.lt_or_ge j gs.length with z | z
          · exact absurd hz (hno j z)
          · have : j = gs.length := by omega
            rw [← this]
            exact hz
      · refine x_no e2 (et_or (a := false) (b := false) (et_test (ev_op e_end ev_c (rv_eqS (decide_eq_false nend)))) fun _ => et_test (ev_op (ev_var rfl) (ev_var rfl) (rv_B (decide_eq_false hge)))) fun H3 e3 _ => ?_
        refine x_yes e3 (et_test (ev_op e_end ev_c (rv_eqS (decide_eq_true rfl)))) fun H4 e4 _ => ?_
        have hl4 := e4 _ _ hl
        refine x_asgL (xs := (gs.drop (gs.length - n)).map V.int) (Ex.refl H4) (el_is (el_sl (ev_var rfl) (eo_some (ev_op (ev_is (ev_lenS (es_of (ev_var rfl) hl4)) (by rw [List.length_map])) (ev_ixU (esu_of (ev_var rfl) (e4 _ _ he)) ev_c rfl) rv_I0)) eo_none (sq_of hl4)) (cut_tail gs ok.nl)) fun pl H5 e5 _ _ h5 => ?_
        have hsd : (gs.drop (gs.length - n)).sum = per gs n := sum_drop gs _
        refine x_par (Ex.refl H5) (ev_op (ev_int1 (ev_op (ev_var rfl) (ev_var rfl) rv_I0)) (ev_is (ev_sum (es_of (ev_var rfl) h5)) (by rw [hsd])) (rv_mod (by omega))) ev_c fun H6 e6 _ => ?_
        refine x_for (G := H5) (p := pl) (xs := (gs.drop (gs.length - n)).map V.int) e6 (ev_var rfl) (fun _ e => sq_of (e _ _ h5)) (fun i σ' H' => Ex H5 H' ∧ (∃ u : Option V, σ' = [some (.ref l), some (.ref e), some (.int x), some (.int (pre gs gs.length)), u, some (.ref pl), some (.int ((x - pre gs gs.length) % per gs n)), some (.int (pre gs (uu gs n + i) - pre gs (uu gs n)))]) ∧ ∀ j, j < i → pre gs (uu gs n + j) - pre gs (uu gs n) ≠ (x - pre gs gs.length) % per gs n) ?_ (fun i σ' H' _ q => sq_of (q.1 _ _ h5)) ?_ ?_
        · intro H7 e7 _
          refine ⟨e7, ⟨u, ?_⟩, fun j hj => absurd hj (Nat.not_lt_zero j)⟩
          rw [Nat.add_zero, Int.sub_self]
          rfl
        · rintro i g σ' H' hg ⟨e7, ⟨u', rfl⟩, hno'⟩
          rw [List.getElem?_map] at hg
          obtain ⟨g0, hg0, e0⟩ := Option.map_eq_some_iff.mp hg
          subst e0
          have hin : i < n := by
            have := (List.getElem?_eq_some_iff.mp hg0).1
            rw [List.length_drop] at this
            have := ok.nl
            omega
          have hps : pre gs (uu gs n + (i + 1)) = pre gs (uu gs n + i) + g0 := drop_at hg0
          by_cases hc : pre gs (uu gs n + i) - pre gs (uu gs n) = (x - pre gs gs.length) % per gs n
          · refine x_yes (Ex.refl H') (et_test (ev_op (ev_var rfl) (ev_var rfl) (rv_eqI (decide_eq_true hc)))) fun H8 e8 _ => ?_
            refine x_ret e8 ev_c fun H9 e9 _ => k _ H9 (((e4.trans e5).trans e7).trans e9) (bl_hit ok ?_)
            exact ⟨fun _ => (at_high ok (by omega)).mpr ⟨i, hin, hc⟩, fun _ => rfl⟩
          · refine x_no (Ex.refl H') (et_test (ev_op (ev_var rfl) (ev_var rfl) (rv_eqI (decide_eq_false hc)))) fun H8 e8 _ => ?_
            refine s_asg (ev_op (ev_var rfl) (ev_var rfl) rv_I0) fun H9 e9 => ⟨(e7.trans e8).trans e9, ⟨some (.int g0), ?_⟩, fun j hj => ?_⟩
            · have e10 : pre gs (uu gs n + (i + 1)) - pre gs (uu gs n) = pre gs (uu gs n + i) - pre gs (uu gs n) + g0 := by omega
              rw [e10]
              rfl
            · rcases Nat.lt_or_ge j i with z | z
              · exact hno' j z
              · have : j = i := by omega
                rw [this]
                exact hc
        · rintro σ' H' ⟨e7, ⟨u', rfl⟩, hno'⟩
          refine x_ret (Ex.refl H') ev_c fun H9 e9 _ => k _ H9 (((e4.trans e5).trans e7).trans e9) (bl_hit ok ?_)
          rw [at_high ok (by omega)]
          refine ⟨(fun z => nomatch z), fun ⟨j, hj, hz⟩ => absurd hz (hno' j ?_)⟩
          rw [List.length_map, List.length_drop]
          have := ok.nl
          omega
end
end RS
end

section
set_option Elab.async false
set_option linter.all false
set_option maxRecDepth 100000
set_option maxHeartbeats 4000000
namespace RS
open PySem PySem.Spec PyProof.Rows L2 Evl
theorem cut_head (gs : List Int) (k : Nat) : cutV (gs.map V.int) none (some (k : Int)) = (gs.take k).map V.int := by
  unfold cutV
  rw [HT.sIx_nat, HT.sIx_none, List.length_map, List.drop_zero, Nat.sub_zero, ← List.map_take]
  congr 1
  rcases Nat.lt_or_ge k gs.length with h | h
  · rw [Nat.min_eq_left (by omega)]
  · rw [Nat.min_eq_right h, List.take_of_length_le (Nat.le_refl _), List.take_of_length_le h]
section
variable {P : Program} {w : World} {K : PySem.W.Frag} {mg : Str → Option Value} {base : Heap} {G H : Hp} {a : UA} {S : Sc} {B : Int} {sv : List (Nat × Nat × Int)} {d : Nat} {σ : L2.St} {ta td te tb tu : TE} {D : Ends} {tz ts : TS}
def sp_law_place : Sp := SpQ fun vs H R => ∃ (l e : Addr) (gs : List Int) (n k : Nat), vs = [.ref l, .ref e, .int (k : Int)] ∧ H l = some (.lst (gs.map V.int)) ∧ H e = some (.tup [.str "repeat", .int (n : Int)]) ∧ RuleOk gs n ∧ (∀ g ∈ gs, 1 ≤ g ∧ g ≤ 6) ∧ gs.length ≤ 6 ∧ R = isV (.int (off gs n k))
theorem ok_law_place (T : Txt K mg) : ∃ fd, CalG P w K mg base 1 "_law_place" (He.ga K "_law_place") fd ["_law_steps", "_law_ending", "_law_attempt"] sp_law_place := by
  obtain ⟨fd, F⟩ := T.f_law_place
  refine ⟨fd, T.g_law_place, F.kp, F.ok sc_law_place (fun vs H Q E h => ?_) (fun cdv A outer s H vs Q E hr h => ?_), F.bindsN fun _ _ _ _ _ _ us hl => match us, hl with | [_, _, _], _ => rfl⟩
  · obtain ⟨_, ⟨_, _, _, _, _, rfl, _⟩, _⟩ := h
    rfl
  · obtain ⟨_, ⟨l, e, gs, n, j, rfl, hl, he, ok, g6, g6', rfl⟩, k⟩ := h
    refine ⟨_, PSs.nox (pss_cons (ps_set (i := 3) sc_law_place.nd rfl (by first | exact Or.inl rfl | exact Or.inr rfl) (pe_slice sl_list (pv 0) (po_some (pe_op op_sub (pe_callB call_len_seq (by rfl) T.b_len (by decide +kernel) (pa_cons (pv 0) pa_nil)) (pe_ix ix_tup (pv 1) pe_int (fun _ _ => rfl)))) po_none))
      (pss_cons (ps_if (pt_cmpR op_le (pv 2) (pe_callB call_len_seq (by rfl) T.b_len (by decide +kernel) (pa_cons (pv 0) pa_nil)) (nomark _)) (pss_one (ps_ret (pe_callB (cr_sum rfl) (by rfl) T.b_sum (by decide +kernel) (pa_cons (pe_slice sl_list (pv 0) po_none (po_some (pv 2))) pa_nil)))) pss_nil)
      (pss_cons (ps_set (i := 4) sc_law_place.nd rfl (by first | exact Or.inl rfl | exact Or.inr rfl) (pe_op op_sub (pv 2) (pe_callB call_len_seq (by rfl) T.b_len (by decide +kernel) (pa_cons (pv 0) pa_nil))))
      (pss_cons (ps_set (i := 5) sc_law_place.nd rfl (by first | exact Or.inl rfl | exact Or.inr rfl) (pe_slice sl_list (pv 3) po_none (po_some (pe_op op_mod (pe_callTy call_int1 (by rfl) T.b_int (by decide +kernel) (pa_cons (pv 4) pa_nil)) (pe_callB call_len_seq (by rfl) T.b_len (by decide +kernel) (pa_cons (pv 3) pa_nil))))))
      (pss_one (ps_ret (pe_op op_add (pe_op op_add (pe_callB (cr_sum rfl) (by rfl) T.b_sum (by decide +kernel) (pa_cons (pv 0) pa_nil)) (pe_op op_mul (pe_op op_fdivW (pv 4) (pe_callB call_len_seq (by rfl) T.b_len (by decide +kernel) (pa_cons (pv 3) pa_nil))) (pe_callB (cr_sum rfl) (by rfl) T.b_sum (by decide +kernel) (pa_cons (pv 3) pa_nil)))) (pe_callB (cr_sum rfl) (by rfl) T.b_sum (by decide +kernel) (pa_cons (pv 5) pa_nil))))))))), ?_⟩
    have hper := per_pos ok
    have hu := uu_add ok
    have hn1 := ok.n1
    have hnl := ok.nl
    have hsd : (gs.drop (gs.length - n)).sum = per gs n := sum_drop gs _
    have hdl : (gs.drop (gs.length - n)).length = n := by
      rw [List.length_drop]
      omega
    have hs6 := sum_6 (l := gs.drop (gs.length - n)) fun x hx => g6 x (List.mem_of_mem_drop hx)
    rw [hsd, hdl] at hs6
    have elen : ∀ {G : Hp} {σ : L2.St} {t : TE}, Ev t σ G (.ref l) → G l = some (.lst (gs.map V.int)) → Ev (tCB (rLenS K) (tCons t tNil)) σ G (.int (gs.length : Int)) := fun h h' => ev_is (ev_lenS (es_of h h')) (by rw [List.length_map])
    refine x_asgL (xs := (gs.drop (gs.length - n)).map V.int) (Ex.refl H) (el_is (el_sl (ev_var rfl) (eo_some (ev_op (elen (ev_var rfl) hl) (ev_ixU (esu_of (ev_var rfl) he) ev_c rfl) rv_I0)) eo_none (sq_of hl)) (cut_tail gs ok.nl)) fun pl H1 e1 _ _ h1 => ?_
    have hl1 := e1 _ _ hl
    by_cases hj : j ≤ gs.length
    · refine x_yes (Ex.refl H1) (et_test (ev_op (ev_var rfl) (elen (ev_var rfl) hl1) (rv_B (decide_eq_true (by omega))))) fun H2 e2 _ => ?_
      refine x_ret e2 (ev_sum (es_new (el_is (el_sl (ev_var rfl) eo_none (eo_some (ev_var rfl)) (sq_of hl1)) (cut_head gs j)))) fun H3 e3 _ => k _ H3 (e1.trans e3) ?_
      rw [off_low ok hj]
      rfl
    · refine x_no (Ex.refl H1) (et_test (ev_op (ev_var rfl) (elen (ev_var rfl) hl1) (rv_B (decide_eq_false (by omega))))) fun H2 e2 _ => ?_
      refine x_asg (v := .int ((j - gs.length : Nat) : Int)) e2 (ev_is (ev_op (ev_var rfl) (elen (ev_var rfl) hl1) rv_I0) (by congr 1; omega)) fun H3 e3 _ => ?_
      have h3 := e3 _ _ h1
      have lenL : ∀ {G : Hp} {σ : L2.St} {t : TE}, Ev t σ G (.ref pl) → G pl = some (.lst ((gs.drop (gs.length - n)).map V.int)) → Ev (tCB (rLenS K) (tCons t tNil)) σ G (.int (n : Int)) := fun h h' => ev_is (ev_lenS (es_of h h')) (by rw [List.length_map, hdl])
      refine x_asgL (xs := ((gs.drop (gs.length - n)).take ((j - gs.length) % n)).map V.int) (Ex.refl H3) (el_is (el_sl (ev_var rfl) eo_none (eo_some (ev_is (ev_op (ev_int1 (ev_var rfl)) (lenL (ev_var rfl) h3) (rv_mod (by omega))) (by rw [← Int.natCast_emod]))) (sq_of h3)) (cut_head _ _)) fun pt H4 e4 _ _ h4 => ?_
      have h34 := e4 _ _ h3
      have hl4 := e4 _ _ (e3 _ _ hl1)
      refine x_ret (Ex.refl H4) (ev_op (ev_op (ev_sum (es_of (ev_var rfl) hl4)) (ev_op (ev_op (ev_var rfl) (lenL (ev_var rfl) h34) (rv_fdW (by omega) (by omega))) (ev_sum (es_of (ev_var rfl) h34)) (rv_mulR (by rw [hsd]; omega))) rv_I0) (ev_sum (es_of (ev_var rfl) h4)) rv_I0) fun H5 e5 _ => k _ H5 (((e1.trans e3).trans e4).trans e5) ?_
      show V.int _ = .int _
      congr 1
      rw [hsd, ← pre_all gs, sum_part, ← Int.natCast_ediv]
      unfold off
      rw [if_neg hj]
      rfl
/-! ### a far attempt of a client that is never served -/
theorem dpall_of : ∀ {xs : List V} {ds : List PyData}, xs.length = ds.length → (∀ (i : Nat) z d, xs[i]? = some z → ds[i]? = some d → Dp K H z d) → DpAll K H xs ds
  | [], [], _, _ => .nil
  | [], _ :: _, h, _ => by cases h
  | _ :: _, [], h, _ => by cases h
  | x :: xs, d :: ds, h, k => .cons (k 0 x d rfl rfl) (dpall_of (by simpa using h) fun i z d h1 h2 => k (i + 1) z d h1 h2)
theorem dq_pairs {n : Nat} {f g : Nat → Int} (h : EvLQ te σ G (Tups n fun i us => us = [.int (f i), .int (g i)])) : EvQ te σ G (dpV K (.list ((List.range n).map fun i => PyData.tuple [.int (f i), .int (g i)]))) := fun H1 e Q q =>
  h H1 e Q fun p H2 xs hx _ e2 h2 => q _ H2 e2 (.lst (sq_of h2) (dpall_of (by rw [List.length_map, List.length_range]; exact hx.1) fun i z d h3 h4 => by
    obtain ⟨t, us, rfl, ht, rfl⟩ := hx.2 i z h3
    have hi : i < n := by
      rw [← hx.1]
      exact (List.getElem?_eq_some_iff.mp h3).1
    rw [List.getElem?_map, List.getElem?_range hi] at h4
    cases h4
    exact .tup (st_of ht) (.cons (.int _) (.cons (.int _) .nil))))
theorem shaped_pairs (n : Nat) (f g : Nat → Int) : SeqAt.shaped (.list ((List.range n).map fun i => PyData.tuple [.int (f i), .int (g i)])) = true := by
  have h1 : ∀ l : List Nat, PyData.canLayAll0 (l.map fun i => PyData.tuple [.int (f i), .int (g i)]) = true := fun l => by
    induction l with
    | nil => simp [PyData.canLayAll0]
    | cons c r ih =>
      rw [List.map_cons, PyData.canLayAll0, ih]
      simp [PyData.canLay0, PyData.canLayAll0]
  have h2 : ∀ l : List Nat, PyData.depthAll (l.map fun i => PyData.tuple [.int (f i), .int (g i)]) ≤ 1 := fun l => by
    induction l with
    | nil => simp [PyData.depthAll]
    | cons c r ih =>
      rw [List.map_cons, PyData.depthAll]
      simp [PyData.depth, PyData.depthAll]
      omega
  unfold SeqAt.shaped
  rw [PyData.canLay0, h1, PyData.depth, Bool.true_and, decide_eq_true_eq]
  have := h2 (List.range n)
  omega
theorem isMet.dp {l : List Nat} {z : V} (h : isMet l z H) : Dp K H z (.tuple [.str "met", nD l]) := by
  obtain ⟨p, q, rfl, h1, h2⟩ := h
  exact .tup (st_of h1) (.cons (.str _) (.cons (dp_nums h2) .nil))
theorem elq_cast {n m : Nat} {P : Nat → List V → Prop} (h : EvLQ te σ G (Tups n P)) (e : n = m) : EvLQ te σ G (Tups m P) := e ▸ h
theorem given_none (n : Nat) (v : Nat → V) : given n (fun _ => false) v = [] := by
  unfold given
  simp
/-- what two equal data say -/
theorem ev_neSame {d : PyData} (ha : EvQ ta σ G (dpV K d)) (hb : EvQ tb σ G (dpV K d)) (sd : SeqAt.shaped d = true) : Ev (tOp (rNeD K) ta tb) σ G (.bl false) := ev_neD ha hb sd sd (by rw [shaped_self sd]; rfl)
theorem ev_eqSame {d : PyData} (ha : EvQ ta σ G (dpV K d)) (hb : EvQ tb σ G (dpV K d)) (sd : SeqAt.shaped d = true) : Ev (tOp (rEqD K) ta tb) σ G (.bl true) := ev_eqD ha hb sd sd (shaped_self sd)
theorem dq_metT {l : List Nat} (h : EvS te σ G (nV l)) : EvQ (tTup (tCons (tC (.str "met")) (tCons te tNil))) σ G (dpV K (.tuple [.str "met", nD l])) := dq_tup (daq_cons dq_str (daq_cons (dq_nums h) daq_nil)) (show 2 ≤ 100000 by decide)
theorem inV_mem {c : Nat} {l : List Nat} (h : c ∈ l) : inV (.int (c : Int)) (nV l) = true := by
  unfold inV nV
  rw [List.any_map, List.any_eq_true]
  exact ⟨c, h, by simp [eqV]⟩
theorem nV_flat (l : List Nat) : (nV l).all flatV = true := by
  unfold nV
  rw [List.all_map, List.all_eq_true]
  intro x _
  rfl
theorem shaped_3 (x : Int) : SeqAt.shaped (.tuple [.int 0, .int 0, .int x]) = true := by
  simp [SeqAt.shaped, PyData.canLay0, PyData.canLayAll0, PyData.depth, PyData.depthAll]
def sp_law_client_right (K : PySem.W.Frag) : Sp := SpQ fun vs H R => ∃ (a : UA) (S : Sc) (B : Int) (sv : List (Nat × Nat × Int)) (t l e b q pn : Addr) (rs : List Addr) (c k : Nat), vs = [.ref a.p, .ref t, .ref pn, .int (c : Int), .int (k : Int)] ∧ Gone K H a S B sv ∧ PartsA H t l e b q rs S ∧ H pn = some (.lst (nV (nv S sv))) ∧ c ∈ nv S sv ∧ B ≤ S.slot c k ∧ (∀ j, k ≤ j → S.slot c k ≤ S.slot c j) ∧ B - S.s0 c ≤ (k : Int) ∧ R = isV (.bl true)
theorem ok_law_client_right (T : Txt K mg) : ∃ fd, CalG P w K mg base 10 "_law_client_right" (He.ga K "_law_client_right") fd ["_law_gone", "_law_parts_here", "_law_never", "_law_client", "_law_attempt"] (sp_law_client_right K) := by
  obtain ⟨fd_Run_active, c_Run_active⟩ := ok_Run_active (P := P) (w := w) (base := base) T
  obtain ⟨fd_Run_attempting, c_Run_attempting⟩ := ok_Run_attempting (P := P) (w := w) (base := base) T
  obtain ⟨fd_Run_event, c_Run_event⟩ := ok_Run_event (P := P) (w := w) (base := base) T
  obtain ⟨fd_failure_counts, c_failure_counts⟩ := ok_failure_counts (P := P) (w := w) (base := base) T
  obtain ⟨fd_history, c_history⟩ := ok_history (P := P) (w := w) (base := base) T
  obtain ⟨fd_law_has, c_law_has⟩ := ok_law_has (P := P) (w := w) (base := base) T
  obtain ⟨fd_law_place, c_law_place⟩ := ok_law_place (P := P) (w := w) (base := base) T
  obtain ⟨fd_reason, c_reason⟩ := ok_reason (P := P) (w := w) (base := base) T
  obtain ⟨fd, F⟩ := T.f_law_client_right
  refine ⟨fd, T.g_law_client_right, F.kp, F.ok sc_law_client_right (fun vs H Q E h => ?_) (fun cdv A outer s H vs Q E hr h => ?_), F.bindsN fun _ _ _ _ _ _ us hl => match us, hl with | [_, _, _, _, _], _ => rfl⟩
  · obtain ⟨_, ⟨_, _, _, _, _, _, _, _, _, _, _, _, _, rfl, _⟩, _⟩ := h
    rfl
  · obtain ⟨_, ⟨a, S, B, sv, t, l, e, b, q, pn, rs, c, j, rfl, g, A, hpn, hc, hB, hmon, hBk, rfl⟩, k⟩ := h
    refine ⟨_, PSs.nox (pss_cons (ps_asg (pv 1) (pg_tup rfl (pgs_cons (pg_name (i := 5) sc_law_client_right.nd rfl (by first | exact Or.inl rfl | exact Or.inr rfl)) (pgs_cons (pg_name (i := 6) sc_law_client_right.nd rfl (by first | exact Or.inl rfl | exact Or.inr rfl)) (pgs_cons (pg_name (i := 7) sc_law_client_right.nd rfl (by first | exact Or.inl rfl | exact Or.inr rfl)) (pgs_cons (pg_name (i := 8) sc_law_client_right.nd rfl (by first | exact Or.inl rfl | exact Or.inr rfl)) (pgs_cons (pg_name (i := 9) sc_law_client_right.nd rfl (by first | exact Or.inl rfl | exact Or.inr rfl)) pgs_nil)))))))
      (pss_cons (ps_set (i := 10) sc_law_client_right.nd rfl (by first | exact Or.inl rfl | exact Or.inr rfl) (pe_op op_add (pe_ix ix_list (pv 7) (pv 3) (fun _ _ => rfl)) (pe_call c_law_place.ok (hr.mono (by decide)) (by rfl) c_law_place.gl c_law_place.kp c_law_place.b .nil pass0 (pa_cons (pv 5) (pa_cons (pv 6) (pa_cons (pv 4) pa_nil))))))
      (pss_cons (ps_setLc (i := 11) (own := [("_law_other", 12)]) rfl sc_law_client_right.nd rfl rfl (sw_true rfl rfl rfl (by decide +kernel)) (pi_list (pv 2)) (blkOk_by (own := [("_law_other", 12)]) (N := ["_law_gone", "_law_parts_here", "_law_never", "_law_client", "_law_attempt", "_law_steps", "_law_ending", "_law_begins", "_law_windows_here", "_law_long", "_law_slot", "_law_some", "_law_other", "_law_others", "_law_told", "_law_entry", "_law_k"]) (sc := defScope s_law_client_right) (by decide +kernel)) (fun _ _ _ _ _ => (pg_name (i := 12) sc_law_client_right.nd rfl (by first | exact Or.inl rfl | exact Or.inr rfl))) (fun _ _ _ _ _ => (pts_one (pt_val (pe_call c_law_has.ok (hr.mono (by decide)) (by rfl) c_law_has.gl c_law_has.kp c_law_has.b .nil pass0 (pa_cons (pv 5) (pa_cons (pv 6) (pa_cons (pe_op op_sub (pv 10) (pe_ix (ix_listK K) (pv 7) (pv 12) (fun _ _ => rfl))) pa_nil))))))) (fun _ _ _ _ _ => (pv 12)))
      (pss_cons (ps_setLc (i := 13) (own := [("_law_other", 12)]) rfl sc_law_client_right.nd rfl rfl (sw_true rfl rfl rfl (by decide +kernel)) (pi_list (pv 11)) (blkOk_by (own := [("_law_other", 12)]) (N := ["_law_gone", "_law_parts_here", "_law_never", "_law_client", "_law_attempt", "_law_steps", "_law_ending", "_law_begins", "_law_windows_here", "_law_long", "_law_slot", "_law_some", "_law_other", "_law_others", "_law_told", "_law_entry", "_law_k"]) (sc := defScope s_law_client_right) (by decide +kernel)) (fun _ _ _ _ _ => (pg_name (i := 12) sc_law_client_right.nd rfl (by first | exact Or.inl rfl | exact Or.inr rfl))) (fun _ _ _ _ _ => (pts_one (pt_cmpR op_ne (pv 12) (pv 3) (nomark _)))) (fun _ _ _ _ _ => (pv 12)))
      (pss_cons (ps_if (PW.pt (pw_or (pt_cmpR op_notIn_seq (pv 3) (pv 11) (by rfl)) (pw_or (pt_cmpR (op_eqD hr.units) (pv 13) (pe_lst pa_nil) (nomark _)) (pw_or1 (pt_cmpR (op_neD hr.units) (pe_call c_reason.ok (hr.mono (by decide)) (by rfl) c_reason.gl c_reason.kp c_reason.b .nil pass0 (pa_cons (pv 0) (pa_cons (pv 3) (pa_cons (pv 4) pa_nil)))) (pe_tup (pa_cons pe_str (pa_cons (pv 13) pa_nil))) (nomark _)))))) (pss_one (ps_ret pe_bl)) pss_nil)
      (pss_cons (ps_if (PW.pt (pw_or (pt_cmpR (op_neD hr.units) (pe_meth (pv 0) T.c_Run c_Run_event.at_ c_Run_event.ok (hr.mono (by decide)) c_Run_event.b .nil pass0 (pa_cons (pv 10) pa_nil)) (pe_tup (pa_cons pe_str (pa_cons (pv 11) pa_nil))) (nomark _)) (pw_or (pt_cmpR (op_neD hr.units) (pe_meth (pv 0) T.c_Run c_Run_attempting.at_ c_Run_attempting.ok (hr.mono (by decide)) c_Run_attempting.b .nil pass0 (pa_cons (pv 10) pa_nil)) (pv 11) (nomark _)) (pw_or1 (pt_cmpR (op_neD hr.units) (pe_meth (pv 0) T.c_Run c_Run_active.at_ c_Run_active.ok (hr.mono (by decide)) c_Run_active.b .nil pass0 (pa_cons (pv 10) pa_nil)) (pv 2) (nomark _)))))) (pss_one (ps_ret pe_bl)) pss_nil)
      (pss_cons (ps_set (i := 14) sc_law_client_right.nd rfl (by first | exact Or.inl rfl | exact Or.inr rfl) (pe_call c_history.ok (hr.mono (by decide)) (by rfl) c_history.gl c_history.kp c_history.b .nil pass0 (pa_cons (pv 0) (pa_cons (pv 3) (pa_cons (pv 4) (pa_cons (pe_op op_add (pv 4) pe_int) pa_nil))))))
      (pss_cons (ps_if (pt_cmpR (op_neD hr.units) (pe_lc (own := [("_law_entry", 15)]) rfl sc_law_client_right.nd (pi_list (pv 14)) (blkOk_by (own := [("_law_entry", 15)]) (N := ["_law_gone", "_law_parts_here", "_law_never", "_law_client", "_law_attempt", "_law_steps", "_law_ending", "_law_begins", "_law_windows_here", "_law_long", "_law_slot", "_law_some", "_law_other", "_law_others", "_law_told", "_law_entry", "_law_k"]) (sc := defScope s_law_client_right) (by decide +kernel)) (fun _ _ _ _ _ => (pg_name (i := 15) sc_law_client_right.nd rfl (by first | exact Or.inl rfl | exact Or.inr rfl))) (fun _ _ _ _ _ => pts_nil) (fun _ _ _ _ _ => (pe_slice (sl_tupK K) (pv 15) po_none (po_some pe_int)))) (pe_lc (own := [("_law_k", 16)]) rfl sc_law_client_right.nd (pi_range1 (by rfl) T.b_range (pa_cons pe_int pa_nil)) (blkOk_by (own := [("_law_k", 16)]) (N := ["_law_gone", "_law_parts_here", "_law_never", "_law_client", "_law_attempt", "_law_steps", "_law_ending", "_law_begins", "_law_windows_here", "_law_long", "_law_slot", "_law_some", "_law_other", "_law_others", "_law_told", "_law_entry", "_law_k"]) (sc := defScope s_law_client_right) (by decide +kernel)) (fun _ _ _ _ _ => (pg_name (i := 16) sc_law_client_right.nd rfl (by first | exact Or.inl rfl | exact Or.inr rfl))) (fun _ _ _ _ _ => pts_nil) (fun _ _ _ _ _ => (pe_tup (pa_cons (pe_op op_add (pv 4) (pv 16)) (pa_cons (pe_op op_add (pe_op op_add (pv 4) (pv 16)) pe_int) pa_nil))))) (nomark _)) (pss_one (ps_ret pe_bl)) pss_nil)
      (pss_cons (ps_if (PW.pt (pw_or (pt_cmpR (op_neD hr.units) (pe_ix ix_tup (pe_ix ix_list (pv 14) pe_int (fun _ _ => rfl)) pe_int (fun _ _ => rfl)) (pe_tup (pa_cons pe_str (pa_cons (pv 13) pa_nil))) (nomark _)) (pw_or1 (pt_cmpR (op_neD hr.units) (pe_lc (own := [("_law_entry", 15)]) rfl sc_law_client_right.nd (pi_list (pv 14)) (blkOk_by (own := [("_law_entry", 15)]) (N := ["_law_gone", "_law_parts_here", "_law_never", "_law_client", "_law_attempt", "_law_steps", "_law_ending", "_law_begins", "_law_windows_here", "_law_long", "_law_slot", "_law_some", "_law_other", "_law_others", "_law_told", "_law_entry", "_law_k"]) (sc := defScope s_law_client_right) (by decide +kernel)) (fun _ _ _ _ _ => (pg_name (i := 15) sc_law_client_right.nd rfl (by first | exact Or.inl rfl | exact Or.inr rfl))) (fun _ _ _ _ _ => (pts_one (pt_cmpR op_ne (pe_ix (ix_tupK K) (pe_ix (ix_tupK K) (pv 15) pe_int (fun _ _ => rfl)) pe_int (fun _ _ => rfl)) pe_str (nomark _)))) (fun _ _ _ _ _ => (pv 15))) (pe_lst pa_nil) (nomark _))))) (pss_one (ps_ret pe_bl)) pss_nil)
      (pss_one (ps_ret (pe_cmpR (op_eqD hr.units) (pe_call c_failure_counts.ok (hr.mono (by decide)) (by rfl) c_failure_counts.gl c_failure_counts.kp c_failure_counts.b .nil pass0 (pa_cons (pv 0) (pa_cons (pv 3) (pa_cons (pv 4) (pa_cons (pe_op op_add (pv 4) (pe_op op_pow pe_int pe_int)) pa_nil))))) (pe_tup (pa_cons pe_int (pa_cons pe_int (pa_cons (pe_op op_pow pe_int pe_int) pa_nil)))) (nomark _))))))))))))), ?_⟩
    obtain ⟨ms, s, R, hs⟩ := g.R
    obtain ⟨hcN, hcs⟩ := mem_nv.mp hc
    have h40 := R.sc.n40
    have hnl := nv_len S sv
    have hhl := ht_len S sv (S.slot c j)
    refine x_asgG (Ex.refl H) (ev_var rfl) fun H1 e1 _ => ?_
    refine ⟨t, _, rfl, st_of (e1 _ _ A.t), rfl, _, _, rfl, _, _, rfl, _, _, rfl, _, _, rfl, _, _, rfl, rfl, ?_⟩
    refine x_asg (v := .int (S.slot c j)) (σ := [some (.ref a.p), some (.ref t), some (.ref pn), some (.int (c : Int)), some (.int (j : Int)), some (.ref l), some (.ref e), some (.ref b), some (.ref q), some (.int S.ln), none, none, none, none, none, none, none]) e1 (ev_op (ev_ixS (es_of (ev_var rfl) A.b) (ev_var rfl) (s0_atI hcN)) (ev_q (eq_fn (ea_cons (ev_var rfl) (ea_cons (ev_var rfl) (ea_cons (ev_var rfl) ea_nil))) fun H1 x => ⟨l, e, S.gs, S.n, j, rfl, x _ _ A.l, x _ _ A.e, A.ok, A.g6, A.gl, rfl⟩)) rv_I0) fun H2 e2 _ => ?_
    refine x_asgL (xs := nV (ht S sv (S.slot c j))) e2 (el_map (0 : Nat) (es_of (ev_var rfl) hpn) rfl (fun o => hitB S.gs S.n (S.slot c j - S.s0 o)) (fun o => V.int (o : Int)) (fun _ => rfl) (fun o ho => et_B (ev_q (eq_fn (ea_cons (ev_var rfl) (ea_cons (ev_var rfl) (ea_cons (ev_op (ev_var rfl) (ev_ixS (es_of (ev_var rfl) A.b) (ev_var rfl) (s0_atI (mem_nv.mp ho).1)) rv_I0) ea_nil))) fun H1 x => ⟨l, e, S.gs, S.n, _, rfl, x _ _ A.l, x _ _ A.e, A.ok, rfl⟩))) (fun o _ _ => ev_var rfl) (by omega)) fun psm H3 e3 _ _ h3 => ?_
    have g3 := g.mono e3
    refine x_asgL (xs := nV (othersOf S sv c (S.slot c j))) (Ex.refl H3) (el_map (0 : Nat) (es_of (ev_var rfl) h3) rfl (fun o => !decide (o = c)) (fun o => V.int (o : Int)) (fun _ => rfl) (fun o _ => et_test (ev_op (ev_var rfl) (ev_var rfl) (rv_neI (by
      by_cases z : o = c
      · rw [z, decide_eq_true rfl, decide_eq_true rfl]
      · rw [decide_eq_false z, decide_eq_false (by omega)])))) (fun o _ _ => ev_var rfl) (by omega)) fun pot H4 e4 _ _ h4 => ?_
    have h34 := e4 _ _ h3
    have g4 := g3.mono e4
    have hpn4 := e4 _ _ (e3 _ _ hpn)
    have hin : c ∈ ht S sv (S.slot c j) := (mem_ht g).mpr ⟨hc, hits_slot c j⟩
    have hne : ht S sv (S.slot c j) ≠ [] := List.ne_nil_of_mem hin
    have hone := others_ne g hc hB (hits_slot c j)
    have hoe : (othersOf S sv c (S.slot c j)).isEmpty = false := by
      cases z : othersOf S sv c (S.slot c j) with
      | nil => exact absurd z hone
      | cons d r => rfl
    refine x_no (Ex.refl H4) (et_or (a := false) (et_test (ev_is (ev_op (ev_var rfl) (ev_var rfl) (rv_niL (sq_of h34) rfl (nV_flat _))) (by rw [inV_mem hin]; rfl))) fun _ => et_or (a := false) (et_test (ev_is (ev_eqNil (es_of (ev_var rfl) h4)) (by rw [hoe]))) fun _ => et_test (ev_neSame ((eq_gfn (ea_cons (ev_var rfl) (ea_cons (ev_var rfl) (ea_cons (ev_var rfl) ea_nil))) g4 ⟨c, j, rfl, hc, hB, rfl⟩ rfl).imp fun z H _ hz => hz.dp) (dq_metT (es_of (ev_var rfl) h4)) (shaped_met _))) fun H5 e5 _ => ?_
    refine x_no e5 (et_or (a := false) (et_test (ev_neSame ((eq_gone (ev_var rfl) g4 (fun _ => by kernel_rfl) (ea_cons (ev_var rfl) ea_nil) ⟨_, rfl, hB, rfl⟩ rfl).imp fun z H _ hz => ?_) (dq_metT (es_of (ev_var rfl) h34)) (shaped_met _))) fun _ => et_or (a := false) (et_test (ev_neSame (dq_nums (es_q (eq_gone (ev_var rfl) g4 (fun _ => by kernel_rfl) (ea_cons (ev_var rfl) ea_nil) ⟨_, rfl, hB, rfl⟩ rfl))) (dq_nums (es_of (ev_var rfl) h34)) (shaped_nums _))) fun _ => et_test (ev_neSame (dq_nums (es_q (eq_gone (ev_var rfl) g4 (fun _ => by kernel_rfl) (ea_cons (ev_var rfl) ea_nil) ⟨_, rfl, hB, rfl⟩ rfl))) (dq_nums (es_of (ev_var rfl) hpn4)) (shaped_nums _))) fun H6 e6 _ => ?_
    · unfold isEv at hz
      rw [if_neg hne] at hz
      exact hz.dp
    refine x_asgQ e6 (eq_gfn (ea_cons (ev_var rfl) (ea_cons (ev_var rfl) (ea_cons (ev_var rfl) (ea_cons (ev_is (ev_op (ev_var rfl) ev_c rv_I0) (show V.int ((j : Int) + 3) = .int ((j + 3 : Nat) : Int) by congr 1)) ea_nil)))) g4 ⟨c, j, 3, rfl, by decide, hc, hB, hmon, rfl⟩ rfl) fun z H7 e7 _ hz => ?_
    obtain ⟨pd, xs, rfl, hpd, hh⟩ := hz
    have hget : ∀ i, ∃ tf : Addr × V, i < xs.length → xs[i]? = some (.ref tf.1) ∧ H7 tf.1 = some (.tup [.int ((j + i : Nat) : Int), .int ((j + i + 1 : Nat) : Int), tf.2]) ∧ isMet (othersOf S sv c (S.slot c (j + i))) tf.2 H7 := fun i => by
      by_cases hi : i < xs.length
      · obtain ⟨t, f, h1, h2, h3⟩ := hh.at_ i _ (List.getElem?_eq_getElem hi)
        exact ⟨(t, f), fun _ => ⟨by rw [List.getElem?_eq_getElem hi, h1], h2, h3⟩⟩
      · exact ⟨(0, .non), fun q => absurd q hi⟩
    have hf := fun i => (hget i).choose_spec
    have hlen := hh.len
    have h47 := e7 _ _ h4
    refine x_no (Ex.refl H7) (et_test (ev_neSame (dq_pairs (f := fun i => ((j + i : Nat) : Int)) (g := fun i => ((j + i + 1 : Nat) : Int)) (elq_cast (eq_comp (ei_list (es_of (ev_var rfl) hpd)) (fun i => [some (.ref a.p), some (.ref t), some (.ref pn), some (.int (c : Int)), some (.int (j : Int)), some (.ref l), some (.ref e), some (.ref b), some (.ref q), some (.int S.ln), some (.int (S.slot c j)), some (.ref psm), none, some (.ref pot), some (.ref pd), some (.ref (hget i).choose.1), none]) (fun i hi => Tg.toG (tg_at (hf i hi).1)) (fun i _ => rfl) (fun i us => us = [.int ((j + i : Nat) : Int), .int ((j + i + 1 : Nat) : Int)]) (fun i hi => ?_) (by omega)) hlen)) (dq_pairs (f := fun i => ((j + i : Nat) : Int)) (g := fun i => ((j + i + 1 : Nat) : Int)) (eq_comp (ei_range (N := 3) ev_c rfl (by decide)) (fun i => [some (.ref a.p), some (.ref t), some (.ref pn), some (.int (c : Int)), some (.int (j : Int)), some (.ref l), some (.ref e), some (.ref b), some (.ref q), some (.int S.ln), some (.int (S.slot c j)), some (.ref psm), none, some (.ref pot), some (.ref pd), none, some (.int (i : Int))]) (fun i hi => Tg.toG tg_fn) (fun i _ => rfl) (fun i us => us = [.int ((j + i : Nat) : Int), .int ((j + i + 1 : Nat) : Int)]) (fun i hi => eu_isT (ea_cons (ev_op (ev_var rfl) (ev_var rfl) rv_I0) (ea_cons (ev_op (ev_op (ev_var rfl) (ev_var rfl) rv_I0) ev_c rv_I0) ea_nil)) (show 2 ≤ 100000 by decide) ?_) (by decide))) (shaped_pairs _ _ _))) fun H8 e8 _ => ?_
    · obtain ⟨h1, h2, h3⟩ := hf i hi
      exact fun H9 e9 Q qq => ⟨_, rfl, 2, rfl, _, _, rfl, st_of (e9 _ _ h2), (show ¬ (HT.sIx 3 0 none = 0 ∧ HT.sIx 3 3 (some 2) = 3) by decide), fun pp hpp => qq _ _ (Ex.new hpp) ⟨pp, _, rfl, upd_same, rfl⟩⟩
    · rfl
    have hl0 : 0 < xs.length := by omega
    obtain ⟨hx0, ht0, hm0⟩ := hf 0 hl0
    refine x_no e8 (et_or (a := false) (et_test (ev_neSame (dq_have (ev_ixU (esu_of (ev_ixS (es_of (ev_var rfl) hpd) ev_c (atI_nat (j := 0) hx0)) ht0) ev_c rfl) hm0.dp) (dq_metT (es_of (ev_var rfl) h47)) (shaped_met _))) fun _ => et_test (ev_is (ev_neNil (K := K) (l := []) (es_new (el_is (el_comp (ei_list (es_of (ev_var rfl) hpd)) (fun i => [some (.ref a.p), some (.ref t), some (.ref pn), some (.int (c : Int)), some (.int (j : Int)), some (.ref l), some (.ref e), some (.ref b), some (.ref q), some (.int S.ln), some (.int (S.slot c j)), some (.ref psm), none, some (.ref pot), some (.ref pd), some (.ref (hget i).choose.1), none]) (fun i hi => tg_at (hf i hi).1) (fun i _ => rfl) (fun _ => false) (fun _ => .non) (fun i hi => ?_) (fun i hi z => nomatch z) (by omega)) (given_none _ _)))) rfl)) fun H9 e9 _ => ?_
    · obtain ⟨h1, h2, p', q', h3, h4', h5⟩ := hf i hi
      exact et_test (ev_op (ev_ixU (esu_of (ev_is (ev_ixU (esu_of (ev_var rfl) h2) ev_c rfl) h3) h4') ev_c rfl) ev_c (rv_neS (by rw [decide_eq_true rfl]; rfl)))
    have g9 := (g4.mono (e7.trans (Ex.refl H7)))
    refine x_ret e9 (ev_eqSame ((eq_gfn (ea_cons (ev_var rfl) (ea_cons (ev_var rfl) (ea_cons (ev_var rfl) (ea_cons (ev_op (ev_var rfl) (ev_op ev_c ev_c (rv_I ⟨by decide, by decide, by decide⟩)) rv_I0) ea_nil)))) g9 ⟨c, j, _, rfl, hc, ?_, hBk, rfl⟩ rfl).imp fun z H _ hz => ?_) (dq_tup (daq_cons (dq_int ev_c) (daq_cons (dq_int ev_c) (daq_cons (dq_int (ev_op ev_c ev_c (rv_I ⟨by decide, by decide, by decide⟩))) daq_nil))) (show 3 ≤ 100000 by decide)) (shaped_3 _)) fun H10 e10 _ => k _ H10 (((e3.trans e4).trans e7).trans e10) rfl
    · obtain ⟨pp, rfl, hpp⟩ := hz
      have e9 : (j : Int) + 10 ^ (15 : Int).toNat - (j : Int) = 10 ^ (15 : Int).toNat := by omega
      rw [e9] at hpp
      exact .tup (st_of hpp) (.cons (.int _) (.cons (.int _) (.cons (.int _) .nil)))
    · have : (0 : Int) ≤ 10 ^ (15 : Int).toNat := by decide
      omega
end
end RS
end

section
set_option Elab.async false
set_option linter.all false
set_option maxRecDepth 100000
set_option maxHeartbeats 4000000
namespace RS
open PySem PySem.Spec PyProof.Rows L2 Evl
/-! ### a run apart from a list of three ints -/
theorem RunA.hide {K : PySem.W.Frag} {H : Hp} {a : UA} {S : Sc} {ms : List Int} {s : RSt} {p : Addr} {n : Nat} (R : RunA K H a S ms s) (hw : WellA H p n) (n1 : a.b ≠ p) (n2 : a.ch ≠ p) (n3 : a.sa.ra.l ≠ p) (n4 : a.sa.ra.s ≠ p) (n5 : a.sa.st ≠ p) : RunA K (RS.hide H [p]) a S ms s := by
  obtain ⟨i, j, c, hp, _⟩ := hw
  have kp : ∀ {b : Addr} {o : HO}, H b = some o → (∀ xs, o ≠ .lst xs) → RS.hide H [p] b = some o := fun h ne => hid_of (ne_of h hp (ne _)) h
  have hws : a.sa.ws ≠ p := ne_of R.sc.wl hp (by
    intro z
    have z1 : a.sa.rs.map V.ref = [.int i, .int j, .int c] := by injection z
    cases h : a.sa.rs with
    | nil => rw [h] at z1; cases z1
    | cons r rs => rw [h] at z1; cases z1)
  refine ⟨kp R.o (by intro xs z; cases z), hid_of n1 R.b, hid_of n2 R.ch, kp R.wt (by intro xs z; cases z), ?_, ?_, ⟨kp R.sc.o (by intro xs z; cases z), ⟨kp R.sc.ru.o (by intro xs z; cases z), hid_of n3 R.sc.ru.l, kp R.sc.ru.t (by intro xs z; cases z), hid_of n4 R.sc.ru.s, R.sc.ru.ok, R.sc.ru.hi, R.sc.ru.sz⟩, hid_of n5 R.sc.st, hid_of hws R.sc.wl, ⟨R.sc.wn.len, fun i r hr => ?_⟩, R.sc.n0, R.sc.n40, R.sc.w10, R.sc.ln1⟩, R.mo, R.ml, R.nwc, R.nws, R.ncs⟩
  · obtain ⟨kv, h1, h2⟩ := R.cl
    exact ⟨kv, kp h1 (by intro xs z; cases z), h2⟩
  · obtain ⟨kv, h1, h2⟩ := R.sv
    refine ⟨kv, kp h1 (by intro xs z; cases z), h2.len, fun i q hq => ?_⟩
    obtain ⟨t, h3, h4⟩ := h2.at_ i q hq
    exact ⟨t, h3, kp h4 (by intro xs z; cases z)⟩
  · obtain ⟨w, h1, h2⟩ := R.sc.wn.at_ i r hr
    exact ⟨w, h1, kp h2 (by intro xs z; cases z)⟩
/-- what the parts of the law keep to -/
structure Small (S : Sc) : Prop where
  ok : RuleOk S.gs S.n
  g6 : ∀ g ∈ S.gs, 1 ≤ g ∧ g ≤ 6
  gl : S.gs.length ≤ 6
  n2 : 2 ≤ S.N
  n11 : S.N ≤ 11
  st : ∀ x ∈ S.st, 0 ≤ x ∧ x ≤ 111
  wo : WinOk S.ws
  w3 : S.ws.length ≤ 3
  wb : ∀ w ∈ S.ws, w.1 ≤ 100 ∧ w.2 ≤ 100
  l1 : 1 ≤ S.ln
  l8 : S.ln ≤ 8
theorem Small.pre_le {S : Sc} (h : Small S) (k : Nat) : pre S.gs k ≤ 36 := by
  have h1 := sum_6 (l := S.gs.take k) fun x hx => h.g6 x (List.mem_of_mem_take hx)
  have h2 := h.gl
  rw [List.length_take] at h1
  unfold pre
  omega
theorem Small.Ok {S : Sc} (h : Small S) : S.Ok 200 := ⟨h.ok, h.l1, fun x hx => by
  rcases hx with hx | ⟨w, hw, hx⟩ | ⟨c, i, hc, hi, hx⟩
  · have := h.st x hx
    omega
  · have := h.wb w hw
    omega
  · have h1 := h.st _ (s0_mem hc)
    have h2 := h.pre_le i
    have hu := uu_add h.ok
    have hi' : i ≤ uu S.gs S.n := hi
    rw [hx]
    unfold Sc.slot
    rw [off_low h.ok (by omega)]
    omega⟩
theorem Small.bnd {S : Sc} (h : Small S) : 200 ≤ bnd S 200 ∧ bnd S 200 ≤ 700 := by
  have h1 := h.pre_le S.gs.length
  have hp := per_pos h.ok
  have hsd := sum_6 (l := S.gs.take (uu S.gs S.n)) fun x hx => h.g6 x (List.mem_of_mem_take hx)
  have h2 : S.p ≤ 36 := by
    show pre S.gs S.gs.length - pre S.gs (uu S.gs S.n) ≤ 36
    have : 0 ≤ pre S.gs (uu S.gs S.n) := hsd.1
    omega
  have h3 : (1 : Int) ≤ S.p := hp
  have h4 := h.l1
  have h5 := h.l8
  have h6 := h.n11
  have h7 : 0 ≤ (S.N : Int) * (S.p + S.ln) := Int.mul_nonneg (by omega) (by omega)
  have h8 : (S.N : Int) * (S.p + S.ln) ≤ 11 * (S.p + S.ln) := Int.mul_le_mul_of_nonneg_right (by omega) (by omega)
  unfold RS.bnd
  omega
section
variable {P : Program} {w : World} {K : PySem.W.Frag} {mg : Str → Option Value} {base : Heap} {G H : Hp} {p : Addr} {S : Sc} {σ : L2.St} {ta td te tb tu tl : TE} {D : Ends} {tz ts : TS} {t : TT} {g : TG} {vs : List Nat}
theorem lc_splitE {xs : List V} {Pq : VP} (h : EvQ tl σ G Pq) (k : ∀ z H2, Ex G H2 → Pq z H2 → EvL (tLc (iEnum K (tCons (tC z) tNil)) g t te vs) σ H2 xs) : EvL (tLc (iEnum K (tCons tl tNil)) g t te vs) σ G xs := fun H1 e Q q => h H1 e _ fun z H2 e2 pz => k z H2 (e.trans e2) pz H2 (Ex.refl _) Q fun p H3 hp e3 h3 => q p H3 (fresh_back e2 hp) (e2.trans e3) h3
/-- Run(_law_made(parts)) -/
theorem x_newRun {i j n : Nat} {E E1 : XK} {t l e b q : Addr} {rs : List Addr} (hw : WellA H p n) (A : PartsA (RS.hide H [p]) t l e b q rs S) (sm : Small S) (ht : σ[j]? = some (some (.ref t)))
    (k : ∀ (a : UA) (sv : List (Nat × Nat × Int)) H1, Ex H H1 → Gone K (RS.hide H1 [p]) a S (bnd S 200 + S.ln) sv → tz D (σ.set i (some (.ref a.p))) H1) : tSeq (tAsg (tMake (cRun K) (sp_Run_init K) [] E (tCons (tCall (sp_law_made K) [] E1 (tCons (tVar j) tNil)) tNil)) (gName i)) tz D σ H := by
  have hN := sm.n2
  have hN11 := sm.n11
  have hw3 := sm.w3
  refine (eq_fn (A := fun vs H R => ∃ (t l e b q : Addr) (rs : List Addr) (S : Sc), vs = [.ref t] ∧ PartsA H t l e b q rs S ∧ WinOk S.ws ∧ 1 ≤ S.N ∧ S.N ≤ 40 ∧ S.ws.length ≤ 10 ∧ 1 ≤ S.ln ∧ ∃ H0, Ex H0 H ∧ R = madeR K H0 S) (R := madeR K H S) (G := H) (ea_cons (ev_var ht) ea_nil) (fun H1 x => ⟨t, l, e, b, q, rs, S, rfl, A.mono (hide_ex.trans x), sm.wo, by omega, by omega, by omega, sm.l1, H, x, rfl⟩) : EvQ (tCall (sp_law_made K) [] E1 (tCons (tVar j) tNil)) σ H (madeR K H S)) H (Ex.refl H) (fun v H1 => ∀ x dx, H1 x = none → H1 dx = none → dx ≠ x → sp_Run_init K (.ref x :: ([v] ++ [])) (upd (upd H1 dx (.own x)) x (.ins (cRun K) dx [])) (fun v H2 => v = .non ∧ tz D (σ.set i (some (.ref x))) H2) E) fun z H2 e2 hz x dx hx hdx hne => ?_
  obtain ⟨sa, rfl, X, hf1, hf2, hf3⟩ := hz
  have nw : Ex H2 (upd (upd H2 dx (.own x)) x (.ins (cRun K) dx [])) := fun b o h => by
    rw [upd_ne (ne_of_none h hx), upd_ne (ne_of_none h hdx)]
    exact h
  refine ⟨x, dx, sa, S, 200, rfl, upd_same, X.mono nw, sm.Ok, fun H' a ms s hax hasa hfb hfc R hwt F hsv e4 => ⟨rfl, ?_⟩⟩
  have e5 := exB_new hx hdx e4
  have e25 := e2.trans e5
  have hw' := hw.mono e25
  subst hax
  have nn : ∀ {b : Addr}, H b = none → b ≠ p := fun h => hw.ne h
  have f2 : ∀ {b : Addr}, upd (upd H2 dx (.own a.p)) a.p (.ins (cRun K) dx []) b = none → b ≠ p := fun h => nn (fresh_back e2 (upd_none (upd_none h).2).2)
  have RH := R.hide hw' (f2 hfb) (f2 hfc) (by rw [hasa]; exact nn hf1) (by rw [hasa]; exact nn hf2) (by rw [hasa]; exact nn hf3)
  have hb := sm.bnd
  have hl1 := sm.l1
  refine k a s.sv H' e25 ⟨⟨ms, s, RH, rfl⟩, F.lt, fun q hq => ?_, fun c hc hcs y hy hh => F.two c hc hcs y (by omega) hh, fun w hw => ?_, fun y hy => ?_, hsv⟩
  · have := F.early q hq
    omega
  · have := sm.wb w hw
    omega
  · have := sm.st y hy
    omega
theorem strOk_never : SeqAt.shaped (.tuple [.str "never"]) = true := by decide +kernel
theorem strOk_idle : SeqAt.shaped (.tuple [.str "idle"]) = true := by decide +kernel
theorem shaped_served (i x : Int) : SeqAt.shaped (.tuple [.str "served", .int i, .int x]) = true := by
  have : PyData.canLay0 (.str "served") = true := by decide +kernel
  simp [SeqAt.shaped, PyData.canLay0, PyData.canLayAll0, PyData.depth, PyData.depthAll] at this ⊢
  exact this
theorem served_never (i x : Int) : PyData.eqv (.tuple [.str "served", .int i, .int x]) (.tuple [.str "never"]) = false := by
  rw [PyData.eqv, PyData.eqvAll, PyData.eqvAll, Bool.and_false]
def sp_law_right : Sp := fun vs H Q _ => ∃ p, vs = [.ref p] ∧ WellA H p 0 ∧ ∀ H', ExB [p] H H' → Q (.bl true) H'
theorem ok_law_right (T : Txt K mg) : ∃ fd, CalG P w K mg base 11 "_law_right" (He.ga K "_law_right") fd ["_law_well_here"] sp_law_right := by
  obtain ⟨fd_Run_event, c_Run_event⟩ := ok_Run_event (P := P) (w := w) (base := base) T
  obtain ⟨fd_Run_init, c_Run_init⟩ := ok_Run_init (P := P) (w := w) (base := base) T
  obtain ⟨fd_Run_outcomes, c_Run_outcomes⟩ := ok_Run_outcomes (P := P) (w := w) (base := base) T
  obtain ⟨fd_law_client_right, c_law_client_right⟩ := ok_law_client_right (P := P) (w := w) (base := base) T
  obtain ⟨fd_law_draw, c_law_draw⟩ := ok_law_draw (P := P) (w := w) (base := base) T
  obtain ⟨fd_law_has, c_law_has⟩ := ok_law_has (P := P) (w := w) (base := base) T
  obtain ⟨fd_law_looped, c_law_looped⟩ := ok_law_looped (P := P) (w := w) (base := base) T
  obtain ⟨fd_law_made, c_law_made⟩ := ok_law_made (P := P) (w := w) (base := base) T
  obtain ⟨fd_law_one, c_law_one⟩ := ok_law_one (P := P) (w := w) (base := base) T
  obtain ⟨fd, F⟩ := T.f_law_right
  refine ⟨fd, T.g_law_right, F.kp, F.ok sc_law_right (fun vs H Q E h => ?_) (fun cdv A outer s H vs Q E hr h => ?_), F.bindsN fun _ _ _ _ _ _ us hl => match us, hl with | [_], _ => rfl⟩
  · obtain ⟨_, rfl, _⟩ := h
    rfl
  · obtain ⟨p, rfl, hw, k⟩ := h
    refine ⟨_, PSs.nox (pss_cons (ps_set (i := 1) sc_law_right.nd rfl (by first | exact Or.inl rfl | exact Or.inr rfl) (pe_call c_law_looped.ok (hr.mono (by decide)) (by rfl) c_law_looped.gl c_law_looped.kp c_law_looped.b .nil pass0 (pa_cons (pv 0) pa_nil)))
      (pss_cons (ps_set (i := 2) sc_law_right.nd rfl (by first | exact Or.inl rfl | exact Or.inr rfl) (pe_make T.mk_Run c_Run_init.ok (hr.mono (by decide)) (by rfl) T.g_Run c_Run_init.b .nil pass0 (pa_cons (pe_call c_law_made.ok (hr.mono (by decide)) (by rfl) c_law_made.gl c_law_made.kp c_law_made.b .nil pass0 (pa_cons (pv 1) pa_nil)) pa_nil)))
      (pss_cons (ps_setLc (i := 3) (own := [("_law_client", 4), ("_law_one_here", 5)]) rfl sc_law_right.nd rfl rfl (sw_true rfl rfl rfl (by decide +kernel)) (pi_enum (by rfl) T.b_enumerate (pa_cons (pe_meth0 (pv 2) T.c_Run c_Run_outcomes.at_ c_Run_outcomes.ok (hr.mono (by decide)) c_Run_outcomes.b .nil pass0) pa_nil)) (blkOk_by (own := [("_law_client", 4), ("_law_one_here", 5)]) (N := ["_law_well_here", "_law_parts_here", "_law_gone", "_law_never", "_law_client", "_law_one_here", "_law_attempt", "_law_slot", "_law_some"]) (sc := defScope s_law_right) (by decide +kernel)) (fun _ _ _ _ _ => (pg_tupK K 2 rfl (pgs_cons (pg_name (i := 4) sc_law_right.nd rfl (by first | exact Or.inl rfl | exact Or.inr rfl)) (pgs_cons (pg_name (i := 5) sc_law_right.nd rfl (by first | exact Or.inl rfl | exact Or.inr rfl)) pgs_nil)))) (fun _ _ _ _ _ => (pts_one (pt_cmpR (op_eqDK K hr.units) (pv 5) (pe_tup (pa_cons pe_str pa_nil)) (nomark _)))) (fun _ _ _ _ _ => (pv 4)))
      (pss_cons (ps_for PassesOwn.never rfl (pi_list (pv 3)) (pg_name (i := 4) sc_law_right.nd rfl (by first | exact Or.inl rfl | exact Or.inr rfl)) (pss_cons (ps_set (i := 6) sc_law_right.nd rfl (by first | exact Or.inl rfl | exact Or.inr rfl) (pe_op op_add (pe_op op_pow pe_int pe_int) (pe_call c_law_draw.ok (hr.mono (by decide)) (by rfl) c_law_draw.gl c_law_draw.kp c_law_draw.b .nil pass0 (pa_cons (pv 0) (pa_cons (pe_call c_law_one.ok (hr.mono (by decide)) (by rfl) c_law_one.gl c_law_one.kp c_law_one.b .nil pass0 (pa_cons (pv 0) (pa_cons (pe_lst (pa_cons pe_int (pa_cons (pe_op op_pow pe_int pe_int) pa_nil))) pa_nil))) pa_nil)))))
      (pss_one (ps_if (pt_not (pt_val (pe_call c_law_client_right.ok (hr.mono (by decide)) (by rfl) c_law_client_right.gl c_law_client_right.kp c_law_client_right.b .nil pass0 (pa_cons (pv 2) (pa_cons (pv 1) (pa_cons (pv 3) (pa_cons (pv 4) (pa_cons (pv 6) pa_nil)))))))) (pss_one (ps_ret pe_bl)) pss_nil))))
      (pss_cons (ps_set (i := 7) sc_law_right.nd rfl (by first | exact Or.inl rfl | exact Or.inr rfl) (pe_op op_add (pe_op op_pow pe_int pe_int) (pe_call c_law_draw.ok (hr.mono (by decide)) (by rfl) c_law_draw.gl c_law_draw.kp c_law_draw.b .nil pass0 (pa_cons (pv 0) (pa_cons (pe_op op_pow pe_int pe_int) pa_nil)))))
      (pss_cons (ps_setLc (i := 8) (own := [("_law_client", 4)]) rfl sc_law_right.nd rfl rfl (sw_true rfl rfl rfl (by decide +kernel)) (pi_list (pv 3)) (blkOk_by (own := [("_law_client", 4)]) (N := ["_law_well_here", "_law_parts_here", "_law_gone", "_law_never", "_law_client", "_law_one_here", "_law_attempt", "_law_slot", "_law_some"]) (sc := defScope s_law_right) (by decide +kernel)) (fun _ _ _ _ _ => (pg_name (i := 4) sc_law_right.nd rfl (by first | exact Or.inl rfl | exact Or.inr rfl))) (fun _ _ _ _ _ => (pts_one (pt_val (pe_call c_law_has.ok (hr.mono (by decide)) (by rfl) c_law_has.gl c_law_has.kp c_law_has.b .nil pass0 (pa_cons (pe_ix (ix_tupK K) (pv 1) pe_int (fun _ _ => rfl)) (pa_cons (pe_ix (ix_tupK K) (pv 1) pe_int (fun _ _ => rfl)) (pa_cons (pe_op op_sub (pv 7) (pe_ix (ix_listK K) (pe_ix (ix_tupK K) (pv 1) pe_int (fun _ _ => rfl)) (pv 4) (fun _ _ => rfl))) pa_nil))))))) (fun _ _ _ _ _ => (pv 4)))
      (pss_one (ps_ret (pe_cmpR (op_eqD hr.units) (pe_meth (pv 2) T.c_Run c_Run_event.at_ c_Run_event.ok (hr.mono (by decide)) c_Run_event.b .nil pass0 (pa_cons (pv 7) pa_nil)) (pe_ifExp (pt_cmpR (op_neD hr.units) (pv 8) (pe_lst pa_nil) (nomark _)) (pe_tup (pa_cons pe_str (pa_cons (pv 8) pa_nil))) (pe_tup (pa_cons pe_str pa_nil))) (nomark _)))))))))), ?_⟩
    refine x_asgW (d := 120) (R := loopedR) hw (ew_call0 (A := lA) rfl fun _ _ => ⟨rfl, rfl, rfl⟩) (by omega) fun z H1 e1 w1 hz => ?_
    obtain ⟨t, l, e, b, q, gs, st, n, long, rfl, ht, hl, he, hb, hwn, hn1, hn2, hgl, hga, hs2, hs11, hsa, hg1, hg8⟩ := hz
    obtain ⟨_, rs, ws, hq, hqq, hW, hwo, hw3, hwb⟩ := hwn
    cases hq
    have A : PartsA (RS.hide H1 [p]) t l e b q rs ⟨gs, n, st, ws, long⟩ := ⟨ht, hl, he, hb, hqq, hW, ⟨fun g hg => (hga g hg).1, hn1, hn2⟩, hga, hgl⟩
    have sm : Small ⟨gs, n, st, ws, long⟩ := ⟨A.ok, hga, hgl, hs2, hs11, hsa, hwo, hw3, hwb, hg1, hg8⟩
    generalize (⟨gs, n, st, ws, long⟩ : Sc) = S at A sm
    clear ht hl he hb hqq hW hwo hw3 hwb hn1 hn2 hgl hga hs2 hs11 hsa hg1 hg8
    refine x_newRun w1 A sm rfl fun a sv H2 e2 g => ?_
    have A2 := A.mono (hid_exE e2)
    have w2 := w1.mono e2
    have hbd := sm.bnd
    have hl8 := sm.l8
    generalize hB : bnd S 200 + S.ln = B at g
    have hB7 : B ≤ 708 := by omega
    obtain ⟨ms, s, R, hs⟩ := g.R
    have hN11 := sm.n11
    refine x_asgL (xs := nV (nv S sv)) hide_ex (lc_splitE (eq_gone (ev_var rfl) g (fun _ => by kernel_rfl) ea_nil ⟨rfl, rfl⟩ rfl) fun z H3 e3 hz => ?_) fun pn H3 _ hpn e3 h3 => ?_
    · obtain ⟨po, xs, rfl, hpo, hx⟩ := hz
      have hxl := hx.1
      refine el_is (el_comp (ei_enum (es_of ev_c hpo)) (fun i => [some (.ref p), some (.ref t), some (.ref a.p), none, some (.int (i : Int)), some (xs.getD i .non), none, none, none]) (fun i hi => tg_pair rfl (by rw [List.getD_eq_getElem?_getD, List.getElem?_eq_getElem hi]; rfl)) (fun i _ => rfl) (fun c => !decide (c ∈ sv.map fun q : Nat × Nat × Int => q.1)) (fun i => V.int (i : Int)) (fun i hi => ?_) (fun i _ _ => ev_var rfl) (by omega)) (by rw [hxl]; rfl)
      obtain ⟨t', us, h1, h2, h4⟩ := hx.2 i (xs.getD i .non) (by rw [List.getD_eq_getElem?_getD, List.getElem?_eq_getElem hi]; rfl)
      unfold outP at h4
      by_cases hc : i ∈ sv.map (·.1)
      · rw [if_pos hc] at h4
        obtain ⟨i', x', rfl⟩ := h4
        refine et_is (et_test (ev_eqD (dq_have (ev_is (ev_var rfl) h1) (.tup (st_of h2) (.cons (.str _) (.cons (.int _) (.cons (.int _) .nil))))) (dq_tup (daq_cons dq_str daq_nil) (show 1 ≤ 100000 by decide)) (shaped_served _ _) strOk_never (served_never _ _))) ?_
        rw [decide_eq_true hc]
        rfl
      · rw [if_neg hc] at h4
        subst h4
        refine et_is (et_test (ev_eqSame (dq_have (ev_is (ev_var rfl) h1) (.tup (st_of h2) (.cons (.str _) .nil))) (dq_tup (daq_cons dq_str daq_nil) (show 1 ≤ 100000 by decide)) strOk_never)) ?_
        rw [decide_eq_false hc]
        rfl
    have w3 := w2.mono e3
    have g3 := g.mono (hid_exE e3)
    have A3 := A2.mono (hid_exE e3)
    have h3' : RS.hide H3 [p] pn = some (.lst (nV (nv S sv))) := hid_of (w2.ne hpn) h3
    have hnl := nv_len S sv
    have e123 : ExB [p] H H3 := e1.trans (ExB.of (e2.trans e3))
    refine x_for (G := RS.hide H3 [p]) (p := pn) (xs := nV (nv S sv)) hide_ex (ev_var rfl) (fun _ e => sq_of (e _ _ h3')) (fun i σ' H' => (∃ u v : Option V, σ' = [some (.ref p), some (.ref t), some (.ref a.p), some (.ref pn), u, none, v, none, none]) ∧ ExB [p] H3 H' ∧ WellA H' p (120 + 2 * i)) ?_ (fun i σ' H' _ z => sq_of (hide_ex _ _ (hid_ex z.2.1 _ _ h3'))) ?_ ?_
    · intro H4 _ e4
      exact ⟨⟨none, none, rfl⟩, ExB.of e4, w3.mono e4⟩
    · rintro i x σ' H' hx ⟨⟨u, v, rfl⟩, e4, w4⟩
      unfold nV at hx
      rw [List.getElem?_map] at hx
      obtain ⟨c, hc, e0⟩ := Option.map_eq_some_iff.mp hx
      subst e0
      have hci := (List.getElem?_eq_some_iff.mp hc).1
      have hcn : c ∈ nv S sv := List.mem_of_getElem? hc
      obtain ⟨hcN, hcs⟩ := mem_nv.mp hcn
      refine x_asgW (d := 2) (R := isI fun y => 100000000000000000000 ≤ y) w4 (ew_op (d1 := 0) (d2 := 2) (A := fun y => y = 100000000000000000000) (B := fun y => 0 ≤ y) (g := fun i j => i + j) (ew_int (ev_op ev_c ev_c (rv_I ⟨by decide, by decide, by decide⟩)) (by decide)) (ew_draw (d := 1) (1000000000000000000000000) rfl (ew_one (d := 0) rfl (ew_lst (el_lst (ea_cons ev_c (ea_cons (ev_op ev_c ev_c (rv_I ⟨by decide, by decide, by decide⟩)) ea_nil)) (show 2 ≤ 100000 by decide))) fun z G' _ ⟨q, hz, hq⟩ => ⟨q, [9, 10 ^ (24 : Int).toNat], hz, hq, (by decide : 1 ≤ 2), (by decide : 2 ≤ 1000), fun y hy => by
        rcases List.mem_cons.mp hy with z | hy
        · rw [z]; decide
        · rw [List.mem_singleton.mp hy]; decide⟩) (by decide) fun y h0 _ => h0) (fun i j H _ _ => rv_I0) fun i j hi hj => by omega) (by omega) fun z H5 e5 w5 hz => ?_
      obtain ⟨y, rfl, hy⟩ := hz
      obtain ⟨k0, rfl⟩ : ∃ k0 : Nat, y = (k0 : Int) := ⟨y.toNat, by omega⟩
      have e45 := hid_ex (e4.trans e5)
      have g5 := g3.mono e45
      have hs0 := sm.st _ (s0_mem hcN)
      have hge := off_ge sm.ok k0
      have hBs : B ≤ S.slot c k0 := by
        unfold Sc.slot
        omega
      refine x_noL hide_ex (et_not (a := true) (et_B (ev_q (eq_fn (G := RS.hide H5 [p]) (ea_cons (ev_var rfl) (ea_cons (ev_var rfl) (ea_cons (ev_var rfl) (ea_cons (ev_var rfl) (ea_cons (ev_var rfl) ea_nil))))) fun H6 x => ⟨a, S, B, sv, t, l, e, b, q, pn, rs, c, k0, rfl, g5.mono x, (A3.mono e45).mono x, x _ _ (e45 _ _ h3'), hcn, hBs, fun j hj => slot_le sm.Ok hj, by omega, rfl⟩)))) fun H6 _ e6 => ⟨⟨_, _, rfl⟩, (e4.trans e5).trans (ExB.of e6), (w5.mono e6).le (by omega)⟩
    · rintro σ' H' ⟨⟨u, v, rfl⟩, e4, w4⟩
      have hnvl : (nV (nv S sv)).length ≤ 11 := by
        unfold nV
        rw [List.length_map]
        omega
      refine x_asgW (d := 1) (R := isI fun y => 100000000000000000000000000 ≤ y) w4 (ew_op (d1 := 0) (d2 := 1) (A := fun y => y = 100000000000000000000000000) (B := fun y => 0 ≤ y) (g := fun i j => i + j) (ew_int (ev_op ev_c ev_c (rv_I ⟨by decide, by decide, by decide⟩)) (by decide)) (ew_draw0 (10 ^ (26 : Int).toNat) rfl (ev_op ev_c ev_c (rv_I ⟨by decide, by decide, by decide⟩)) (by decide) (by decide) fun y h0 _ => h0) (fun i j H _ _ => rv_I0) fun i j hi hj => by omega) (by omega) fun z H5 e5 w5 hz => ?_
      obtain ⟨y, rfl, hy⟩ := hz
      have e45 := hid_ex (e4.trans e5)
      have g5 := g3.mono e45
      have A5 := A3.mono e45
      have h5 := e45 _ _ h3'
      have hBy : B ≤ y := by omega
      have hhl := ht_len S sv y
      refine x_asgL (xs := nV (ht S sv y)) hide_ex (el_map (0 : Nat) (es_of (ev_var rfl) h5) rfl (fun o => hitB S.gs S.n (y - S.s0 o)) (fun o => V.int (o : Int)) (fun _ => rfl) (fun o ho => et_B (ev_q (eq_fn (ea_cons (ev_ixU (esu_of (ev_var rfl) A5.t) ev_c rfl) (ea_cons (ev_ixU (esu_of (ev_var rfl) A5.t) ev_c rfl) (ea_cons (ev_op (ev_var rfl) (ev_ixS (es_of (ev_ixU (esu_of (ev_var rfl) A5.t) ev_c rfl) A5.b) (ev_var rfl) (s0_atI (mem_nv.mp ho).1)) rv_I0) ea_nil))) fun H1 x => ⟨l, e, S.gs, S.n, _, rfl, x _ _ A5.l, x _ _ A5.e, A5.ok, rfl⟩))) (fun o _ _ => ev_var rfl) (by omega)) fun psm H6 _ hpsm e6 h6 => ?_
      have h6' : RS.hide H6 [p] psm = some (.lst (nV (ht S sv y))) := hid_of (w5.ne hpsm) h6
      have g6 := g5.mono (hid_exE e6)
      have eAll : ExB [p] H H6 := (e123.trans (e4.trans e5)).trans (ExB.of e6)
      by_cases hn : ht S sv y = []
      · rw [hn] at h6'
        refine x_ret hide_ex (ev_eqSame (d := .tuple [.str "idle"]) ((eq_gone (ev_var rfl) g6 (fun _ => by kernel_rfl) (ea_cons (ev_var rfl) ea_nil) ⟨y, rfl, hBy, rfl⟩ rfl).imp fun z H _ hz => ?_) (eq_ifF (et_test (ev_is (ev_neNil (K := K) (l := []) (es_of (ev_var rfl) h6')) rfl)) (dq_tup (daq_cons dq_str daq_nil) (show 1 ≤ 100000 by decide))) strOk_idle) fun H7 _ e7 => k H7 (eAll.trans (ExB.of e7))
        unfold isEv at hz
        rw [if_pos hn] at hz
        obtain ⟨pp, rfl, hpp⟩ := hz
        exact .tup (st_of hpp) (.cons (.str _) .nil)
      · refine x_ret hide_ex (ev_eqSame (d := .tuple [.str "met", nD (ht S sv y)]) ((eq_gone (ev_var rfl) g6 (fun _ => by kernel_rfl) (ea_cons (ev_var rfl) ea_nil) ⟨y, rfl, hBy, rfl⟩ rfl).imp fun z H _ hz => ?_) (eq_ifT (et_test (ev_is (ev_neNil (es_of (ev_var rfl) h6')) (by
          cases hz : ht S sv y with
          | nil => exact absurd hz hn
          | cons d r => rfl))) (dq_metT (es_of (ev_var rfl) h6'))) (shaped_met _)) fun H7 _ e7 => k H7 (eAll.trans (ExB.of e7))
        unfold isEv at hz
        rw [if_neg hn] at hz
        exact hz.dp
def sp_law (K : PySem.W.Frag) : Sp := fun vs H Q _ => ∃ (q : Addr) (ns : List Int), vs = [.ref q] ∧ SqL K H q (ns.map V.int) ∧ ns.length ≤ 63 ∧ ∀ H', Q (.bl true) H'
theorem ev_right {E E1 : XK} {i : Nat} {c : Int} (h : σ[i]? = some (some (.int c))) : Ev (tCall sp_law_right [] E (tCons (tCall sp_law_well [] E1 (tCons (tVar i) tNil)) tNil)) σ G (.bl true) := fun H1 e Q q =>
  ⟨_, h, ⟨_, ⟨c, rfl, rfl⟩, fun z H2 e2 hz => by
    obtain ⟨p, rfl, hw, hp⟩ := hz
    exact ⟨p, rfl, hw, fun H3 e3 => q H3 (ExB.ex e3 e2 fun b hb => by rw [List.mem_singleton.mp hb]; exact hp)⟩⟩⟩
end
theorem ok_law {P : Program} {w : World} {K : PySem.W.Frag} {mg : Str → Option Value} (T : Txt K mg) : ∃ fd, (∀ (s : Shared) (v : Value), BindsTo s fd ⟨[v], []⟩ [("_law_script", v)]) ∧ FunD K "law" "law" (defArgs s_law) (defBody s_law) (defScope s_law) [] [] (He.ga K "law") fd ∧ ∀ base : Heap, FnOk P w K mg base CX0 12 (He.ga K "law") fd ["_law_script"] (sp_law K) := by
  obtain ⟨fd, F⟩ := T.f_law
  refine ⟨fd, fun s v => (FunD.bindsA (ps := ["_law_script"]) F fun _ _ _ _ _ _ us hl => match us, hl with | [_], _ => rfl) s [v] rfl, F, fun base => ?_⟩
  obtain ⟨fd_law_right, c_law_right⟩ := ok_law_right (P := P) (w := w) (base := base) T
  obtain ⟨fd_law_well, c_law_well⟩ := ok_law_well (P := P) (w := w) (base := base) T
  refine F.ok sc_law (fun vs H Q E h => ?_) (fun cdv A outer s H vs Q E hr h => ?_)
  · obtain ⟨_, _, rfl, _⟩ := h
    rfl
  · obtain ⟨s, ns, rfl, hS, hlen, k⟩ := h
    refine ⟨_, PSs.nox (pss_cons (ps_for PassesOwn.never rfl (pi_list (pe_op op_cat (pe_slice sl_list (pv 0) po_none (po_some pe_int)) (pe_lst (pa_cons pe_int pa_nil)))) (pg_name (i := 1) sc_law.nd rfl (by first | exact Or.inl rfl | exact Or.inr rfl)) (pss_one (ps_if (pt_not (pt_val (pe_call c_law_right.ok (hr.mono (by decide)) (by rfl) c_law_right.gl c_law_right.kp c_law_right.b .nil pass0 (pa_cons (pe_call c_law_well.ok (hr.mono (by decide)) (by rfl) c_law_well.gl c_law_well.kp c_law_well.b .nil pass0 (pa_cons (pv 1) pa_nil)) pa_nil)))) (pss_one (ps_ret pe_bl)) pss_nil)))
      (pss_one (ps_ret pe_bl))), ?_⟩
    have hcl := cutV_length (ns.map V.int) none (some 3)
    rw [List.length_map] at hcl
    refine q_forNL (xs := cutV (ns.map V.int) none (some 3) ++ [.int 0]) (el_cat (es_new (el_sl (ev_var rfl) eo_none (eo_some ev_c) hS)) (es_new (el_lst (ea_cons ev_c ea_nil) (show 1 ≤ 100000 by decide))) (by show _ + 1 ≤ 100000; omega)) (fun p i σ' H' => H' p = some (.lst (cutV (ns.map V.int) none (some 3) ++ [.int 0])) ∧ ∃ u : Option V, σ' = [some (.ref s), u]) (fun p H1 _ _ h1 => ⟨h1, none, rfl⟩) (fun p i σ' H' _ z => sq_of z.1) ?_ ?_
    · rintro p i x σ' H' hx ⟨hp, u, rfl⟩
      have hint : ∃ c : Int, x = .int c := by
        have hm := List.mem_of_getElem? hx
        rcases List.mem_append.mp hm with z | z
        · unfold cutV at z
          obtain ⟨c, _, rfl⟩ := List.mem_map.mp (List.mem_of_mem_drop (List.mem_of_mem_take z))
          exact ⟨c, rfl⟩
        · exact ⟨0, List.mem_singleton.mp z⟩
      obtain ⟨c, rfl⟩ := hint
      exact x_noL (Ex.refl H') (et_not (a := true) (et_B (ev_right rfl))) fun H1 e1 _ => ⟨e1 _ _ hp, _, rfl⟩
    · rintro p σ' H' ⟨_, u, rfl⟩
      exact x_ret (Ex.refl H') ev_c fun H1 _ _ => k H1
end RS
end

section
set_option Elab.async false
set_option linter.all false
set_option maxRecDepth 100000
set_option maxHeartbeats 0
namespace RS
open PySem PySem.Spec PyProof.Rows L2
abbrev R : PySem.W.OpenRow := PySem.W.OpenLaw.row PySem.Challenge.rw_retryslots_k52_whole_far_attempts_of_cli
/-- the facts, and one more Bool -/
def hookM (n : Nat) (fa : List He.Fa) (fn : List He.DefD) (ex : PySem.W.Frag → Bool) : PySem.W.Hook where
  α := He.AlD × Bool
  obs := fun s => (He.obsDG n fa fn s.heap.get?, ex (He.frG s.heap.get? (He.asD s.heap.get? n)))
  val := fun _ => (He.valD fn, true)
  says := fun _ h => ∃ K : PySem.W.Frag, K.In h ∧ He.SaysD fa fn K ∧ ex K = true
  of := fun _ _ e => ⟨_, He.frG_in, congrArg Prod.fst e, congrArg Prod.snd e⟩
  keeps := fun _ _ _ ⟨K, hK, c⟩ k => ⟨K, PySem.W.Frag.In.keeps hK k, c⟩
abbrev hk : PySem.W.Hook := hookM 5 faL fnL exB
def ob (s : PySem.W.SharedT) : He.AlD × Bool := (He.obsDG 5 faL fnL (HandSHeadRun.getT s), exB (He.frG (HandSHeadRun.getT s) (He.asD (HandSHeadRun.getT s) 5)))
theorem ob_eq (s : PySem.W.SharedT) : ob s = hk.obs s.abs := by
  have e : HandSHeadRun.getT s = s.abs.heap.get? := funext (HandSHeadRun.getT_eq s)
  unfold ob
  rw [e]
  rfl
def namesA : List PySem.Str := ["_wall", "RetryError", "InvalidRule", "InvalidAttempt", "InvalidSlot", "InvalidScene", "InvalidClient", "InvalidBound", "LimitExceeded", "is_integer", "is_between", "power", "MOST_GAPS", "MOST_GAP", "MOST_FACTOR", "MOST_ATTEMPT", "is_tail", "Rule", "MOST_CLIENTS", "MOST_OUTAGES", "check_starts", "is_window", "check_outages", "Scene"]
def namesB : List PySem.Str := ["Run", "MOST_ENTRIES", "check_run", "attempts_made", "reason_of", "reason", "end_of_window", "first_attempt", "behind_window", "check_bounds", "history", "without_outages", "busy_windows", "count_within", "failure_counts", "_law_mixed", "_law_well", "_law_draw", "_law_one", "_law_gaps", "_law_windows", "_law_parts", "_law_made", "_law_has", "_law_place", "_law_looped", "_law_client_right", "_law_right"]
def names : List PySem.Str := namesA ++ namesB
theorem run (w : World) : HandSHeadRun.RunEq R (PySem.W.view R.prog [59]) hk ob 30000 names w := by
  intro os
  kernel_rfl
end RS
end

section
set_option Elab.async false
set_option linter.all false
set_option maxRecDepth 100000
set_option maxHeartbeats 0
open PySem PySem.W PySem.Calls PyProof.Rows
theorem PySem.Challenge.cw_retryslots_k52_whole_far_attempts_of_cli_holds : PySem.Challenge.rw_retryslots_k52_whole_far_attempts_of_cli.Holds := by
  w_on; o_law
  refine HandSHeadRun.head_any (r := OpenLaw.row PySem.Challenge.rw_retryslots_k52_whole_far_attempts_of_cli) (q := view (OpenLaw.row PySem.Challenge.rw_retryslots_k52_whole_far_attempts_of_cli).prog [59]) (H := RS.hk) (ob := RS.ob) (M := 30000) (loose := RS.names) (d := HandSHeadRun.topDef (OpenLaw.row PySem.Challenge.rw_retryslots_k52_whole_far_attempts_of_cli).prog 59) (kwd := []) RS.ob_eq
    (by kernel_rfl) (fun s => by kernel_rfl) RS.run (by kernel_rfl) (by kernel_rfl) (by kernel_rfl) (by rfl) (by first | assumption | decide +kernel) (by decide +kernel) ⟨rfl, rfl, rfl, rfl, rfl, by decide +kernel⟩ ?hw ?hc
  case hw => w_witness2
  case hc =>
    refine L2.walk_ofE (l := PySem.Challenge.rw_retryslots_k52_whole_far_attempts_of_cli) (n := 63) (k := 12) (x := "_law_script") (CX := L2.CX0) rfl (by decide) (by kernel_rfl) ⟨rfl, by decide, by decide⟩ ?F (fun _ _ _ _ z => z)
    intro w mg fa h Y G hmg0
    obtain ⟨K, KX, c, cx⟩ := Y
    have hmg : mg ("law" : PySem.Str) = some (.ref fa) := by
      have e : (HandSHeadRun.topDef (OpenLaw.row PySem.Challenge.rw_retryslots_k52_whole_far_attempts_of_cli).prog 59).name = ("law" : PySem.Str) := by kernel_rfl
      rw [← e]
      exact hmg0
    have T : RS.Txt K mg := ⟨c, cx, h, KX, G⟩
    obtain ⟨fd, hb, F, hF⟩ := RS.ok_law (P := (PySem.Challenge.rw_retryslots_k52_whole_far_attempts_of_cli).prog) (w := w) T
    have e := hmg.symm.trans T.g_law
    cases e
    exact ⟨K, fd, RS.sp_law K, KX, hb, fun H a ns hl _ hS => ⟨a, ns, rfl, hS, hl, fun _ => rfl⟩, fun base _ _ => hF base⟩
end

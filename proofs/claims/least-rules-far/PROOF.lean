import PyProof.Rows.All
import Wide.All
import OpenK.AllK
import Wide.FinOn
import HandS.ForMost
import HandS.Flow
import HandS.IsInst
import HandS.Style
import HandS.Steps
import HandS.Wide
import HandS.TryOnly
import HandS.WordsExc
import HandS.Defaults
import HandS.HeadHook1
import HandS.HeadHook2
import PySem.Challenge.RW_leapfit_k59_whole_least_rules_far
import KE.KStateDown
import HandS.Ends
import HandS.More
import HandS.Words
import HandS.Head0
import HandS.Head1
import HandS.Head2
import HandS.HeadEnd
import HandS.HeadHook3
import HandS.HeadHook4
import HandS.HeadNt
set_option Elab.async false
set_option linter.all false
set_option maxRecDepth 100000
set_option maxHeartbeats 0
namespace LF
/-- a record: low is "at least" -/
structure R where
  low : Bool
  t : Int
  n : Int
  deriving DecidableEq

def cnt (p q c t : Int) : Int := (p * t + c) / q
def fit1 (p q c : Int) (r : R) : Prop := if r.low = true then r.n ≤ cnt p q c r.t else cnt p q c r.t ≤ r.n
def fits (p q c : Int) (rs : List R) : Prop := ∀ r ∈ rs, fit1 p q c r
/-- the least c of an "at least" record, the greatest of an "at most" record -/
def loC (p q : Int) (r : R) : Int := r.n * q - p * r.t
def hiC (p q : Int) (r : R) : Int := (r.n + 1) * q - p * r.t - 1
theorem fit_low {p q c : Int} {r : R} (hq : 0 < q) (h : r.low = true) : fit1 p q c r ↔ loC p q r ≤ c := by
  unfold fit1 cnt loC
  rw [if_pos h, Int.le_ediv_iff_mul_le hq]
  omega
theorem fit_high {p q c : Int} {r : R} (hq : 0 < q) (h : r.low = false) : fit1 p q c r ↔ c ≤ hiC p q r := by
  unfold fit1 cnt hiC
  rw [if_neg (by rw [h]; exact Bool.false_ne_true), ← Int.lt_add_one_iff, Int.ediv_lt_iff_lt_mul hq]
  omega
/-- the bound that an "at least" and an "at most" record set -/
def pairOk (p q : Int) (a b : R) : Prop := p * (b.t - a.t) < (b.n + 1 - a.n) * q
theorem pairOk_iff {p q : Int} {a b : R} : pairOk p q a b ↔ loC p q a ≤ hiC p q b := by
  unfold pairOk loC hiC
  have e1 : p * (b.t - a.t) = p * b.t - p * a.t := Int.mul_sub _ _ _
  have e2 : (b.n + 1 - a.n) * q = (b.n + 1) * q - a.n * q := Int.sub_mul _ _ _
  rw [e1, e2]
  omega
def rateOk (rs : List R) (p q : Int) : Prop := ∀ a ∈ rs, a.low = true → ∀ b ∈ rs, b.low = false → pairOk p q a b
theorem rateOk_of_fits {rs : List R} {p q c : Int} (hq : 0 < q) (h : fits p q c rs) : rateOk rs p q := fun a ha la b hb lb => by
  have h1 := (fit_low hq la).mp (h a ha)
  have h2 := (fit_high hq lb).mp (h b hb)
  rw [pairOk_iff]
  omega
/-- what c is chosen -/
def isC (rs : List R) (p q c : Int) : Prop :=
  (∃ a ∈ rs, a.low = true ∧ c = loC p q a ∧ ∀ a' ∈ rs, a'.low = true → loC p q a' ≤ c) ∨
  ((∀ a ∈ rs, a.low = false) ∧ ∃ b ∈ rs, c = hiC p q b ∧ ∀ b' ∈ rs, c ≤ hiC p q b') ∨ (rs = [] ∧ c = 0)
theorem fits_of_isC {rs : List R} {p q c : Int} (hq : 0 < q) (h : rateOk rs p q) (hc : isC rs p q c) : fits p q c rs := by
  intro r hr
  rcases hc with ⟨a, ha, la, rfl, hm⟩ | ⟨hn, b, hb, rfl, hm⟩ | ⟨rfl, _⟩
  · cases l : r.low with
    | true => exact (fit_low hq l).mpr (hm r hr l)
    | false => exact (fit_high hq l).mpr (pairOk_iff.mp (h a ha la r hr l))
  · exact (fit_high hq (hn r hr)).mpr (hm r hr)
  · cases hr
/-- a rate that some rule has -/
theorem exists_max (f : R → Int) (g : R → Bool) : ∀ rs : List R, (∀ a ∈ rs, g a = false) ∨ ∃ a ∈ rs, g a = true ∧ ∀ a' ∈ rs, g a' = true → f a' ≤ f a
  | [] => .inl fun _ h => by cases h
  | r :: rs => by
    cases e : g r with
    | false =>
      rcases exists_max f g rs with h | ⟨a, ha, la, hm⟩
      · refine .inl fun a ha => ?_
        rcases List.mem_cons.mp ha with rfl | ha
        · exact e
        · exact h a ha
      · refine .inr ⟨a, List.mem_cons_of_mem _ ha, la, fun a' ha' l' => ?_⟩
        rcases List.mem_cons.mp ha' with rfl | ha'
        · rw [e] at l'; cases l'
        · exact hm a' ha' l'
    | true =>
      rcases exists_max f g rs with h | ⟨a, ha, la, hm⟩
      · refine .inr ⟨r, List.mem_cons_self, e, fun a' ha' l' => ?_⟩
        rcases List.mem_cons.mp ha' with rfl | ha'
        · exact Int.le_refl _
        · rw [h a' ha'] at l'; cases l'
      · by_cases q : f a ≤ f r
        · refine .inr ⟨r, List.mem_cons_self, e, fun a' ha' l' => ?_⟩
          rcases List.mem_cons.mp ha' with rfl | ha'
          · exact Int.le_refl _
          · exact Int.le_trans (hm a' ha' l') q
        · refine .inr ⟨a, List.mem_cons_of_mem _ ha, la, fun a' ha' l' => ?_⟩
          rcases List.mem_cons.mp ha' with rfl | ha'
          · omega
          · exact hm a' ha' l'
theorem isC_exists (rs : List R) (p q : Int) : ∃ c, isC rs p q c := by
  rcases exists_max (loC p q) (fun r => r.low) rs with h | ⟨a, ha, la, hm⟩
  · rcases exists_max (fun r => - hiC p q r) (fun _ => true) rs with h2 | ⟨b, hb, _, hm⟩
    · cases rs with
      | nil => exact ⟨0, .inr (.inr ⟨rfl, rfl⟩)⟩
      | cons r rs => exact absurd (h2 r List.mem_cons_self) (by decide)
    · exact ⟨hiC p q b, .inr (.inl ⟨h, b, hb, rfl, fun b' hb' => by have := hm b' hb' rfl; omega⟩)⟩
  · exact ⟨loC p q a, .inl ⟨a, ha, la, rfl, hm⟩⟩
theorem rateOk_iff {rs : List R} {p q : Int} (hq : 0 < q) : rateOk rs p q ↔ ∃ c, fits p q c rs :=
  ⟨fun h => let ⟨c, hc⟩ := isC_exists rs p q; ⟨c, fits_of_isC hq h hc⟩, fun ⟨_, h⟩ => rateOk_of_fits hq h⟩
theorem isC_unique {rs : List R} {p q c c' : Int} (h : isC rs p q c) (h' : isC rs p q c') : c = c' := by
  rcases h with ⟨a, ha, la, e, hm⟩ | ⟨hn, b, hb, e, hm⟩ | ⟨e0, e⟩
  · rcases h' with ⟨a', ha', la', e', hm'⟩ | ⟨hn', _⟩ | ⟨e0', _⟩
    · have h1 := hm a' ha' la'
      have h2 := hm' a ha la
      omega
    · rw [hn' a ha] at la; cases la
    · subst e0'; cases ha
  · rcases h' with ⟨a', ha', la', e', hm'⟩ | ⟨hn', b', hb', e', hm'⟩ | ⟨e0', _⟩
    · rw [hn a' ha'] at la'; cases la'
    · have h1 := hm b' hb'
      have h2 := hm' b hb
      omega
    · subst e0'; cases hb
  · subst e0
    rcases h' with ⟨a', ha', la', e', hm'⟩ | ⟨hn', b', hb', e', hm'⟩ | ⟨e0', e'⟩
    · cases ha'
    · cases hb'
    · omega
/-- the least rate -/
def isRate (rs : List R) (p q : Int) : Prop := 0 ≤ p ∧ 0 < q ∧ rateOk rs p q ∧ ∀ p' q', 0 ≤ p' → 0 < q' → rateOk rs p' q' → p ≤ p' ∧ q ≤ q'
theorem isRate_unique {rs : List R} {p q p' q' : Int} (h : isRate rs p q) (h' : isRate rs p' q') : p = p' ∧ q = q' := by
  obtain ⟨h1, h2, h3, h4⟩ := h
  obtain ⟨k1, k2, k3, k4⟩ := h'
  have a := h4 p' q' k1 k2 k3
  have b := k4 p q h1 h2 h3
  omega
/-- the least rule -/
def isRule (rs : List R) (p q c : Int) : Prop := isRate rs p q ∧ isC rs p q c
theorem isRule.fits {rs : List R} {p q c : Int} (h : isRule rs p q c) : fits p q c rs := fits_of_isC h.1.2.1 h.1.2.2.1 h.2
/-- more records that the rule fits: among them all that were there; no "at least" record where there was none; some where there were some -/
theorem isRule.more {rs rs' : List R} {p q c : Int} (h : isRule rs p q c) (hs : ∀ r ∈ rs, r ∈ rs') (hf : LF.fits p q c rs') (hl : (∃ r ∈ rs, r.low = true) ∨ ∀ r ∈ rs', r.low = false) (h0 : rs = [] → rs' = []) : isRule rs' p q c := by
  obtain ⟨⟨hp, hq, hr, hm⟩, hc⟩ := h
  refine ⟨⟨hp, hq, rateOk_of_fits hq hf, fun p' q' hp' hq' h' => hm p' q' hp' hq' fun a ha la b hb lb => h' a (hs a ha) la b (hs b hb) lb⟩, ?_⟩
  rcases hc with ⟨a, ha, la, e, _⟩ | ⟨hn, b, hb, e, _⟩ | ⟨e0, e⟩
  · exact .inl ⟨a, hs a ha, la, e, fun a' ha' la' => (fit_low hq la').mp (hf a' ha')⟩
  · have hn' : ∀ r ∈ rs', r.low = false := by
      rcases hl with ⟨r, hr, lr⟩ | hl
      · rw [hn r hr] at lr; cases lr
      · exact hl
    exact .inr (.inl ⟨hn', b, hs b hb, e, fun b' hb' => (fit_high hq (hn' b' hb')).mp (hf b' hb')⟩)
  · exact .inr (.inr ⟨h0 e0, e⟩)
theorem isRule_unique {rs : List R} {p q c p' q' c' : Int} (h : isRule rs p q c) (h' : isRule rs p' q' c') : p = p' ∧ q = q' ∧ c = c' := by
  obtain ⟨rfl, rfl⟩ := isRate_unique h.1 h'.1
  exact ⟨rfl, rfl, isC_unique h.2 h'.2⟩
/-- the c beside does not fit -/
theorem isRule.beside_low {rs : List R} {p q c : Int} (h : isRule rs p q c) (hl : ∃ r ∈ rs, r.low = true) : ¬ LF.fits p q (c - 1) rs := by
  obtain ⟨⟨hp, hq, hr, hm⟩, hc⟩ := h
  obtain ⟨r, hr, lr⟩ := hl
  intro hf
  rcases hc with ⟨a, ha, la, e, _⟩ | ⟨hn, _⟩ | ⟨e0, _⟩
  · have := (fit_low hq la).mp (hf a ha)
    omega
  · rw [hn r hr] at lr; cases lr
  · subst e0; cases hr
theorem isRule.beside_high {rs : List R} {p q c : Int} (h : isRule rs p q c) (hl : ∀ r ∈ rs, r.low = false) (h0 : rs ≠ []) : ¬ LF.fits p q (c + 1) rs := by
  obtain ⟨⟨hp, hq, hr, hm⟩, hc⟩ := h
  intro hf
  rcases hc with ⟨a, ha, la, e, _⟩ | ⟨hn, b, hb, e, _⟩ | ⟨e0, _⟩
  · rw [hl a ha] at la; cases la
  · have := (fit_high hq (hn b hb)).mp (hf b hb)
    omega
  · exact h0 e0
/-- p and q have no common divisor -/
theorem pairOk_scale {p q g : Int} {a b : R} (hg : 0 < g) : pairOk (g * p) (g * q) a b ↔ pairOk p q a b := by
  unfold pairOk
  have e1 : g * p * (b.t - a.t) = g * (p * (b.t - a.t)) := Int.mul_assoc _ _ _
  have e2 : (b.n + 1 - a.n) * (g * q) = g * ((b.n + 1 - a.n) * q) := Int.mul_left_comm _ _ _
  rw [e1, e2]
  exact ⟨fun h => Int.lt_of_mul_lt_mul_left h (by omega), fun h => Int.mul_lt_mul_of_pos_left h hg⟩
theorem isRate.coprime {rs : List R} {p q : Int} (h : isRate rs p q) : Int.gcd p q = 1 := by
  obtain ⟨hp, hq, hr, hm⟩ := h
  have hg : 0 < Int.gcd p q := Int.gcd_pos_of_ne_zero_right _ (by omega)
  obtain ⟨p', e1⟩ : ((Int.gcd p q : Nat) : Int) ∣ p := Int.gcd_dvd_left ..
  obtain ⟨q', e2⟩ : ((Int.gcd p q : Nat) : Int) ∣ q := Int.gcd_dvd_right ..
  generalize hgg : ((Int.gcd p q : Nat) : Int) = g at e1 e2
  have hg' : 0 < g := by omega
  have hp' : 0 ≤ p' := by
    rcases Int.lt_or_le p' 0 with n | n
    · have := Int.mul_neg_of_pos_of_neg hg' n
      omega
    · exact n
  have hq' : 0 < q' := by
    rcases Int.lt_or_le 0 q' with n | n
    · exact n
    · have := Int.mul_nonpos_of_nonneg_of_nonpos (Int.le_of_lt hg') n
      omega
  have h2 := (hm p' q' hp' hq' fun a ha la b hb lb => (pairOk_scale hg').mp (by rw [← e1, ← e2]; exact hr a ha la b hb lb)).2
  have h3 : g * q' ≤ 1 * q' := by omega
  have h4 : g ≤ 1 := Int.le_of_mul_le_mul_right h3 hq'
  omega
end LF
namespace LF
/-! ### the simplest fraction between two ends -/
abbrev End := Option (Int × Int)
def above (lo : End) (p q : Int) : Prop := ∀ x y, lo = some (x, y) → x * q < p * y
def below (hi : End) (p q : Int) : Prop := ∀ x y, hi = some (x, y) → p * y < x * q
def inside (lo hi : End) (p q : Int) : Prop := above lo p q ∧ below hi p q
def isSimp (lo hi : End) (p q : Int) : Prop := 0 ≤ p ∧ 0 < q ∧ inside lo hi p q ∧ ∀ p' q', 0 ≤ p' → 0 < q' → inside lo hi p' q' → p ≤ p' ∧ q ≤ q'
theorem isSimp_unique {lo hi : End} {p q p' q' : Int} (h : isSimp lo hi p q) (h' : isSimp lo hi p' q') : p = p' ∧ q = q' := by
  obtain ⟨h1, h2, h3, h4⟩ := h
  obtain ⟨k1, k2, k3, k4⟩ := h'
  have a := h4 p' q' k1 k2 k3
  have b := k4 p q h1 h2 h3
  omega
theorem simp_none {hi : End} (h : below hi 0 1) : isSimp none hi 0 1 :=
  ⟨Int.le_refl _, by decide, ⟨fun _ _ e => (nomatch e), h⟩, fun p' q' h1 h2 _ => ⟨h1, by omega⟩⟩
theorem below_none_of {hi : End} {p q : Int} (hp : 0 ≤ p) (hq : 0 < q) (hy : ∀ x y, hi = some (x, y) → 0 < y) (h : below hi p q) : below hi 0 1 := fun x y e => by
  have h1 := h x y e
  have h2 := hy x y e
  have h3 : 0 ≤ p * y := Int.mul_nonneg hp (Int.le_of_lt h2)
  have h4 : 0 < x * q := by omega
  have h5 : 0 < x := by
    rcases Int.lt_or_le 0 x with n | n
    · exact n
    · have := Int.mul_nonpos_of_nonpos_of_nonneg n (Int.le_of_lt hq)
      omega
  omega
/-- the loop's state: two ends of which the first is at least 0 -/
def EndsOk (a b : Int) (hi : End) : Prop := 0 ≤ a ∧ 0 < b ∧ ∀ c d, hi = some (c, d) → 0 < d ∧ a * d < c * b
theorem simp_base {a b : Int} {hi : End} (h : EndsOk a b hi) (hh : ∀ c d, hi = some (c, d) → (a / b + 1) * d < c) : isSimp (some (a, b)) hi (a / b + 1) 1 := by
  obtain ⟨ha, hb, _⟩ := h
  have h0 : 0 ≤ a / b := Int.ediv_nonneg ha (Int.le_of_lt hb)
  have hlt : a < (a / b + 1) * b := by
    have := Int.lt_ediv_add_one_mul_self a hb
    exact this
  refine ⟨by omega, by decide, ⟨fun x y e => ?_, fun x y e => ?_⟩, fun p' q' hp hq ⟨hi1, _⟩ => ?_⟩
  · cases e
    omega
  · have := hh x y e
    omega
  · refine ⟨?_, by omega⟩
    have h1 : a * q' < p' * b := hi1 a b rfl
    have h2 : a / b * b ≤ a := Int.ediv_mul_le a (by omega)
    have h3 : a / b * b * q' ≤ a * q' := Int.mul_le_mul_of_nonneg_right h2 (Int.le_of_lt hq)
    have h4 : a / b * q' * b < p' * b := by
      have : a / b * b * q' = a / b * q' * b := Int.mul_right_comm _ _ _
      omega
    have h5 : a / b * q' < p' := Int.lt_of_mul_lt_mul_right h4 (Int.le_of_lt hb)
    have h6 : a / b * 1 ≤ a / b * q' := Int.mul_le_mul_of_nonneg_left (by omega) h0
    omega
/-- the ends of the next turn -/
def nextHi (b r : Int) : End := if 0 < r then some (b, r) else none
section
variable {a b c d w : Int}
theorem next_ok (h : EndsOk a b (some (c, d))) (hw : w = a / b) (hc : c ≤ (w + 1) * d) : EndsOk d (c - w * d) (nextHi b (a - w * b)) := by
  obtain ⟨ha, hb, hh⟩ := h
  obtain ⟨hd, hlt⟩ := hh c d rfl
  subst hw
  have h2 : a / b * b ≤ a := Int.ediv_mul_le a (by omega)
  have hpos : 0 < c - a / b * d := by
    have h3 : a / b * b * d ≤ a * d := Int.mul_le_mul_of_nonneg_right h2 (Int.le_of_lt hd)
    have h4 : a / b * d * b < c * b := by
      have : a / b * b * d = a / b * d * b := Int.mul_right_comm _ _ _
      omega
    have h5 : a / b * d < c := Int.lt_of_mul_lt_mul_right h4 (Int.le_of_lt hb)
    omega
  refine ⟨Int.le_of_lt hd, hpos, fun x y e => ?_⟩
  unfold nextHi at e
  split at e
  · rename_i hr
    cases e
    refine ⟨hr, ?_⟩
    have e1 : d * (a - a / b * b) = a * d - a / b * (b * d) := by
      rw [Int.mul_sub, Int.mul_comm d a, Int.mul_comm d (a / b * b), Int.mul_assoc]
    have e2 : b * (c - a / b * d) = c * b - a / b * (b * d) := by
      rw [Int.mul_sub, Int.mul_comm b c, Int.mul_left_comm]
    rw [e1, e2]
    omega
  · cases e
theorem simp_step {p q : Int} (h : EndsOk a b (some (c, d))) (hw : w = a / b) (hc : c ≤ (w + 1) * d) (hs : isSimp (some (d, c - w * d)) (nextHi b (a - w * b)) p q) :
    isSimp (some (a, b)) (some (c, d)) (w * p + q) p := by
  have hn := next_ok h hw hc
  obtain ⟨ha, hb, hh⟩ := h
  obtain ⟨hd, hlt⟩ := hh c d rfl
  obtain ⟨_, hpos, _⟩ := hn
  obtain ⟨hp, hq, ⟨hi1, hi2⟩, hm⟩ := hs
  have h1 : d * q < p * (c - w * d) := hi1 d (c - w * d) rfl
  have hw0 : 0 ≤ w := by rw [hw]; exact Int.ediv_nonneg ha (Int.le_of_lt hb)
  have hr0 : 0 ≤ a - w * b := by
    have := Int.ediv_mul_le a (show b ≠ 0 by omega)
    rw [hw]; omega
  have hp1 : 0 < p := by
    rcases Int.lt_or_le 0 p with n | n
    · exact n
    · have h2 := Int.mul_nonpos_of_nonpos_of_nonneg n (Int.le_of_lt hpos)
      have h3 := Int.mul_pos hd hq
      omega
  refine ⟨by have := Int.mul_nonneg hw0 hp; omega, hp1, ⟨fun x y e => ?_, fun x y e => ?_⟩, fun p' q' hp' hq' ⟨hj1, hj2⟩ => ?_⟩
  · cases e
    -- a * p < (w * p + q) * b
    have e1 : (w * p + q) * b = w * b * p + q * b := by rw [Int.add_mul, Int.mul_right_comm]
    have e2 : a * p = w * b * p + (a - w * b) * p := by rw [Int.sub_mul]; omega
    rw [e1, e2]
    rcases Int.lt_or_le 0 (a - w * b) with hr | hr
    · have h2 : p * (a - w * b) < b * q := hi2 b (a - w * b) (by unfold nextHi; rw [if_pos hr])
      have e3 : p * (a - w * b) = (a - w * b) * p := Int.mul_comm _ _
      have e4 : b * q = q * b := Int.mul_comm _ _
      omega
    · have e3 : a - w * b = 0 := by omega
      rw [e3]
      have := Int.mul_pos hq hb
      omega
  · cases e
    -- (w * p + q) * d < c * p
    have e1 : (w * p + q) * d = w * d * p + d * q := by rw [Int.add_mul, Int.mul_right_comm, Int.mul_comm q d]
    have e2 : p * (c - w * d) = c * p - w * d * p := by rw [Int.mul_sub, Int.mul_comm p c, Int.mul_comm p (w * d)]
    rw [e1]
    omega
  · have k1 : a * q' < p' * b := hj1 a b rfl
    have k2 : p' * d < c * q' := hj2 c d rfl
    -- the other fraction: q' / (p' - w * q')
    have k3 : 0 < p' - w * q' := by
      have h2 : w * b * q' ≤ a * q' := Int.mul_le_mul_of_nonneg_right (by omega) (Int.le_of_lt hq')
      have e1 : w * b * q' = w * q' * b := Int.mul_right_comm _ _ _
      have h3 : w * q' * b < p' * b := by omega
      have h4 : w * q' < p' := Int.lt_of_mul_lt_mul_right h3 (Int.le_of_lt hb)
      omega
    have k4 := hm q' (p' - w * q') (Int.le_of_lt hq') k3 ⟨fun x y e => ?_, fun x y e => ?_⟩
    · refine ⟨?_, k4.1⟩
      have h2 : w * p ≤ w * q' := Int.mul_le_mul_of_nonneg_left k4.1 hw0
      omega
    · cases e
      have e1 : d * (p' - w * q') = p' * d - w * d * q' := by rw [Int.mul_sub, Int.mul_comm d p', ← Int.mul_assoc, Int.mul_comm d w]
      have e2 : q' * (c - w * d) = c * q' - w * d * q' := by rw [Int.mul_sub, Int.mul_comm q' c, Int.mul_comm q' (w * d)]
      omega
    · unfold nextHi at e
      split at e
      · cases e
        have e1 : q' * (a - w * b) = a * q' - w * b * q' := by rw [Int.mul_sub, Int.mul_comm q' a, Int.mul_comm q' (w * b)]
        have e2 : b * (p' - w * q') = p' * b - w * b * q' := by rw [Int.mul_sub, Int.mul_comm b p', ← Int.mul_assoc, Int.mul_comm b w]
        omega
      · cases e
end
/-! ### the way back -/
def back (ws : List Int) (z : Int × Int) : Int × Int := ws.foldr (fun w z => (w * z.1 + z.2, z.1)) z
theorem back_snoc (ws : List Int) (w : Int) (z : Int × Int) : back (ws ++ [w]) z = back ws (w * z.1 + z.2, z.1) := by
  unfold back
  rw [List.foldr_append]
  rfl
theorem back_rev_cons (w : Int) (ws : List Int) (z : Int × Int) : back (w :: ws) z = (w * (back ws z).1 + (back ws z).2, (back ws z).1) := rfl
/-- how many turns are left: a bound by the four numbers' product -/
def prod4 (a b : Int) (hi : End) : Int := match hi with
  | some (c, d) => a * b * (c * d)
  | none => 0
theorem quarter {a b c d w : Int} (hb : 0 < b) (hd : 0 < d) (hpos : 0 < c - w * d) (hw : w = a / b) (hc : c ≤ (w + 1) * d) (h1 : 1 ≤ w) :
    4 * (d * (c - w * d) * (b * (a - w * b))) ≤ a * b * (c * d) := by
  have hr0 : 0 ≤ a - w * b := by
    have := Int.ediv_mul_le a (show b ≠ 0 by omega)
    rw [hw]; omega
  have hrb : a - w * b < b := by
    have := Int.lt_ediv_add_one_mul_self a hb
    rw [← hw, Int.add_mul] at this
    omega
  have h2 : 1 * b ≤ w * b := Int.mul_le_mul_of_nonneg_right h1 (Int.le_of_lt hb)
  have h3 : 1 * d ≤ w * d := Int.mul_le_mul_of_nonneg_right h1 (Int.le_of_lt hd)
  have h4 : (w + 1) * d = w * d + d := by rw [Int.add_mul, Int.one_mul]
  have h5 : 2 * (a - w * b) ≤ a := by omega
  have h6 : 2 * (c - w * d) ≤ c := by omega
  have h7 : 2 * (c - w * d) * (2 * (a - w * b)) ≤ c * a := Int.mul_le_mul h6 h5 (by omega) (by omega)
  have h8 : 0 ≤ d * b := Int.mul_nonneg (Int.le_of_lt hd) (Int.le_of_lt hb)
  have h9 : 2 * (c - w * d) * (2 * (a - w * b)) * (d * b) ≤ c * a * (d * b) := Int.mul_le_mul_of_nonneg_right h7 h8
  have e1 : 2 * (c - w * d) * (2 * (a - w * b)) * (d * b) = 4 * (d * (c - w * d) * (b * (a - w * b))) := by
    generalize c - w * d = x
    generalize a - w * b = y
    have : 2 * x * (2 * y) = 4 * (x * y) := by rw [Int.mul_assoc, Int.mul_left_comm x 2 y, ← Int.mul_assoc]; rfl
    rw [this, Int.mul_assoc]
    congr 1
    rw [Int.mul_comm d x, Int.mul_comm b y, Int.mul_assoc, Int.mul_assoc, Int.mul_left_comm y d b, Int.mul_comm y b]
  have e2 : c * a * (d * b) = a * b * (c * d) := by
    rw [Int.mul_comm c a, Int.mul_assoc, Int.mul_assoc, Int.mul_left_comm c d b, Int.mul_left_comm b c d, Int.mul_comm b d, Int.mul_left_comm c d b]
  omega
/-! ### the rates that fit lie between two ends -/
theorem simp_scale {lo hi : End} {p q g : Int} (hg : 0 < g) (h : inside lo hi (g * p) (g * q)) : inside lo hi p q := by
  refine ⟨fun x y e => ?_, fun x y e => ?_⟩
  · have h1 := h.1 x y e
    rw [Int.mul_left_comm, Int.mul_assoc] at h1
    exact Int.lt_of_mul_lt_mul_left h1 (by omega)
  · have h1 := h.2 x y e
    rw [Int.mul_left_comm x, Int.mul_assoc] at h1
    exact Int.lt_of_mul_lt_mul_left h1 (by omega)
end LF
namespace LF
/-! ### the tightest bounds -/
def room (a b : R) : Int := b.n + 1 - a.n
def dist (a b : R) : Int := b.t - a.t
def less (o z : Int × Int) : Prop := o.1 * z.2 < z.1 * o.2
instance (o z : Int × Int) : Decidable (less o z) := inferInstanceAs (Decidable (_ < _))
structure BInv (P : R → R → Prop) (lo hi : End) : Prop where
  loN : lo = none → ∀ a b, P a b → ¬ dist a b < 0
  loS : ∀ z, lo = some z → (∃ a b, P a b ∧ dist a b < 0 ∧ z = (0 - room a b, 0 - dist a b)) ∧ ∀ a b, P a b → dist a b < 0 → ¬ less z (0 - room a b, 0 - dist a b)
  hiN : hi = none → ∀ a b, P a b → ¬ 0 < dist a b
  hiS : ∀ z, hi = some z → (∃ a b, P a b ∧ 0 < dist a b ∧ z = (room a b, dist a b)) ∧ ∀ a b, P a b → 0 < dist a b → ¬ less (room a b, dist a b) z
theorem less_trans {u v w : Int × Int} (hu : 0 < u.2) (hv : 0 < v.2) (hw : 0 < w.2) (h1 : less u v) (h2 : ¬ less w v) : less u w := by
  -- u < v, v ≤ w
  unfold less at *
  have h3 : v.1 * w.2 ≤ w.1 * v.2 := by omega
  have h4 : u.1 * v.2 * w.2 < v.1 * u.2 * w.2 := Int.mul_lt_mul_of_pos_right h1 hw
  have h5 : v.1 * w.2 * u.2 ≤ w.1 * v.2 * u.2 := Int.mul_le_mul_of_nonneg_right h3 (Int.le_of_lt hu)
  have e1 : v.1 * u.2 * w.2 = v.1 * w.2 * u.2 := Int.mul_right_comm _ _ _
  have e2 : u.1 * v.2 * w.2 = u.1 * w.2 * v.2 := Int.mul_right_comm _ _ _
  have e3 : w.1 * v.2 * u.2 = w.1 * u.2 * v.2 := Int.mul_right_comm _ _ _
  have h6 : u.1 * w.2 * v.2 < w.1 * u.2 * v.2 := by omega
  exact Int.lt_of_mul_lt_mul_right h6 (Int.le_of_lt hv)
theorem less_trans' {u v w : Int × Int} (hu : 0 < u.2) (hv : 0 < v.2) (hw : 0 < w.2) (h1 : ¬ less v u) (h2 : less v w) : less u w := by
  unfold less at *
  have h3 : u.1 * v.2 ≤ v.1 * u.2 := by omega
  have h4 : v.1 * w.2 * u.2 < w.1 * v.2 * u.2 := Int.mul_lt_mul_of_pos_right h2 hu
  have h5 : u.1 * v.2 * w.2 ≤ v.1 * u.2 * w.2 := Int.mul_le_mul_of_nonneg_right h3 (Int.le_of_lt hw)
  have e1 : v.1 * u.2 * w.2 = v.1 * w.2 * u.2 := Int.mul_right_comm _ _ _
  have e2 : u.1 * v.2 * w.2 = u.1 * w.2 * v.2 := Int.mul_right_comm _ _ _
  have e3 : w.1 * v.2 * u.2 = w.1 * u.2 * v.2 := Int.mul_right_comm _ _ _
  have h6 : u.1 * w.2 * v.2 < w.1 * u.2 * v.2 := by omega
  exact Int.lt_of_mul_lt_mul_right h6 (Int.le_of_lt hv)
theorem BInv.init : BInv (fun _ _ => False) none none :=
  ⟨fun _ _ _ h => h.elim, fun _ e => (nomatch e), fun _ _ _ h => h.elim, fun _ e => (nomatch e)⟩
theorem BInv.iff {P P' : R → R → Prop} {lo hi : End} (h : BInv P lo hi) (e : ∀ a b, P' a b ↔ P a b) : BInv P' lo hi := by
  obtain rfl : P' = P := by funext a b; exact propext (e a b)
  exact h
/-- one pair more: it sets no bound -/
theorem BInv.zero {P : R → R → Prop} {lo hi : End} {a b : R} (h : BInv P lo hi) (hd : dist a b = 0) : BInv (fun a' b' => P a' b' ∨ (a' = a ∧ b' = b)) lo hi := by
  refine ⟨fun e a' b' p => ?_, fun z e => ⟨?_, fun a' b' p q => ?_⟩, fun e a' b' p => ?_, fun z e => ⟨?_, fun a' b' p q => ?_⟩⟩
  · rcases p with p | ⟨rfl, rfl⟩
    · exact h.loN e a' b' p
    · omega
  · obtain ⟨x, y, p, q⟩ := (h.loS z e).1
    exact ⟨x, y, .inl p, q⟩
  · rcases p with p | ⟨rfl, rfl⟩
    · exact (h.loS z e).2 a' b' p q
    · omega
  · rcases p with p | ⟨rfl, rfl⟩
    · exact h.hiN e a' b' p
    · omega
  · obtain ⟨x, y, p, q⟩ := (h.hiS z e).1
    exact ⟨x, y, .inl p, q⟩
  · rcases p with p | ⟨rfl, rfl⟩
    · exact (h.hiS z e).2 a' b' p q
    · omega
/-- .. it sets the upper end -/
theorem BInv.up {P : R → R → Prop} {lo hi : End} {a b : R} (h : BInv P lo hi) (hd : 0 < dist a b) (hl : ∀ z, hi = some z → less (room a b, dist a b) z) : BInv (fun a' b' => P a' b' ∨ (a' = a ∧ b' = b)) lo (some (room a b, dist a b)) := by
  refine ⟨fun e a' b' p => ?_, fun z e => ⟨?_, fun a' b' p q => ?_⟩, fun e => (nomatch e), fun z e => ?_⟩
  · rcases p with p | ⟨rfl, rfl⟩
    · exact h.loN e a' b' p
    · omega
  · obtain ⟨x, y, p, q⟩ := (h.loS z e).1
    exact ⟨x, y, .inl p, q⟩
  · rcases p with p | ⟨rfl, rfl⟩
    · exact (h.loS z e).2 a' b' p q
    · omega
  · obtain rfl := Option.some.inj e
    refine ⟨⟨a, b, .inr ⟨rfl, rfl⟩, hd, rfl⟩, fun a' b' p q => ?_⟩
    rcases p with p | ⟨rfl, rfl⟩
    · cases eh : hi with
      | none => exact absurd q (h.hiN eh a' b' p)
      | some z =>
        have h1 := hl z eh
        obtain ⟨⟨x, y, _, hz, ez⟩, h2⟩ := h.hiS z eh
        have h3 := h2 a' b' p q
        have hz' : 0 < z.2 := by rw [ez]; exact hz
        have h4 := less_trans (u := (room a b, dist a b)) (v := z) (w := (room a' b', dist a' b')) hd hz' q h1 h3
        unfold less at *
        simp only at *
        omega
    · unfold less
      simp only
      omega
theorem BInv.upN {P : R → R → Prop} {lo hi : End} {a b : R} (h : BInv P lo hi) (hd : 0 < dist a b) {z : Int × Int} (e : hi = some z) (hl : ¬ less (room a b, dist a b) z) : BInv (fun a' b' => P a' b' ∨ (a' = a ∧ b' = b)) lo hi := by
  refine ⟨fun e a' b' p => ?_, fun z e => ⟨?_, fun a' b' p q => ?_⟩, fun e2 => (by rw [e] at e2; cases e2), fun z2 e2 => ?_⟩
  · rcases p with p | ⟨rfl, rfl⟩
    · exact h.loN e a' b' p
    · omega
  · obtain ⟨x, y, p, q⟩ := (h.loS z e).1
    exact ⟨x, y, .inl p, q⟩
  · rcases p with p | ⟨rfl, rfl⟩
    · exact (h.loS z e).2 a' b' p q
    · omega
  · rw [e] at e2
    obtain rfl := Option.some.inj e2
    obtain ⟨⟨x, y, p, q⟩, h2⟩ := h.hiS z e
    refine ⟨⟨x, y, .inl p, q⟩, fun a' b' p q => ?_⟩
    rcases p with p | ⟨rfl, rfl⟩
    · exact h2 a' b' p q
    · exact hl
/-- .. it sets the lower end -/
theorem BInv.dn {P : R → R → Prop} {lo hi : End} {a b : R} (h : BInv P lo hi) (hd : dist a b < 0) (hl : ∀ z, lo = some z → less z (0 - room a b, 0 - dist a b)) : BInv (fun a' b' => P a' b' ∨ (a' = a ∧ b' = b)) (some (0 - room a b, 0 - dist a b)) hi := by
  refine ⟨fun e => (nomatch e), fun z e => ?_, fun e a' b' p => ?_, fun z e => ⟨?_, fun a' b' p q => ?_⟩⟩
  · obtain rfl := Option.some.inj e
    refine ⟨⟨a, b, .inr ⟨rfl, rfl⟩, hd, rfl⟩, fun a' b' p q => ?_⟩
    rcases p with p | ⟨rfl, rfl⟩
    · cases eh : lo with
      | none => exact absurd q (h.loN eh a' b' p)
      | some z =>
        have h1 := hl z eh
        obtain ⟨⟨x, y, _, hz, ez⟩, h2⟩ := h.loS z eh
        have h3 := h2 a' b' p q
        have hz' : 0 < z.2 := by rw [ez]; simp only; omega
        have h4 := less_trans' (u := (0 - room a' b', 0 - dist a' b')) (v := z) (w := (0 - room a b, 0 - dist a b)) (by simp only; omega) hz' (by simp only; omega) h3 h1
        unfold less at *
        simp only at *
        omega
    · unfold less
      simp only
      omega
  · rcases p with p | ⟨rfl, rfl⟩
    · exact h.hiN e a' b' p
    · omega
  · obtain ⟨x, y, p, q⟩ := (h.hiS z e).1
    exact ⟨x, y, .inl p, q⟩
  · rcases p with p | ⟨rfl, rfl⟩
    · exact (h.hiS z e).2 a' b' p q
    · omega
theorem BInv.dnN {P : R → R → Prop} {lo hi : End} {a b : R} (h : BInv P lo hi) (hd : dist a b < 0) {z : Int × Int} (e : lo = some z) (hl : ¬ less z (0 - room a b, 0 - dist a b)) : BInv (fun a' b' => P a' b' ∨ (a' = a ∧ b' = b)) lo hi := by
  refine ⟨fun e2 => (by rw [e] at e2; cases e2), fun z2 e2 => ?_, fun e a' b' p => ?_, fun z e => ⟨?_, fun a' b' p q => ?_⟩⟩
  · rw [e] at e2
    obtain rfl := Option.some.inj e2
    obtain ⟨⟨x, y, p, q⟩, h2⟩ := h.loS z e
    refine ⟨⟨x, y, .inl p, q⟩, fun a' b' p q => ?_⟩
    rcases p with p | ⟨rfl, rfl⟩
    · exact h2 a' b' p q
    · exact hl
  · rcases p with p | ⟨rfl, rfl⟩
    · exact h.hiN e a' b' p
    · omega
  · obtain ⟨x, y, p, q⟩ := (h.hiS z e).1
    exact ⟨x, y, .inl p, q⟩
  · rcases p with p | ⟨rfl, rfl⟩
    · exact (h.hiS z e).2 a' b' p q
    · omega
/-- a size -/
def sm (k : Nat) (x : Int) : Prop := x.natAbs < 2 ^ k
/-- the pairs of a list -/
def pairsOf (rs : List R) (a b : R) : Prop := (a ∈ rs ∧ a.low = true) ∧ (b ∈ rs ∧ b.low = false)
section
variable {rs : List R} {lo hi : End}
theorem pairOk_up {p q : Int} {a b : R} : pairOk p q a b ↔ p * dist a b < room a b * q := Iff.rfl
theorem pairOk_dn {p q : Int} {a b : R} : pairOk p q a b ↔ (0 - room a b) * q < p * (0 - dist a b) := by
  unfold pairOk
  show p * dist a b < room a b * q ↔ _
  rw [Int.sub_mul, Int.mul_sub, Int.zero_mul, Int.mul_zero]
  omega
theorem rates_inside {p q : Int} (hq : 0 < q) (h : BInv (pairsOf rs) lo hi) (h0 : ∀ a b, pairsOf rs a b → dist a b = 0 → 0 < room a b) : rateOk rs p q ↔ inside lo hi p q := by
  constructor
  · refine fun k => ⟨fun x y e => ?_, fun x y e => ?_⟩
    · obtain ⟨⟨a, b, ⟨⟨ha, la⟩, hb, lb⟩, hd, ez⟩, _⟩ := h.loS _ e
      have := pairOk_dn.mp (k a ha la b hb lb)
      cases ez
      exact this
    · obtain ⟨⟨a, b, ⟨⟨ha, la⟩, hb, lb⟩, hd, ez⟩, _⟩ := h.hiS _ e
      have := pairOk_up.mp (k a ha la b hb lb)
      cases ez
      exact this
  · refine fun ⟨k1, k2⟩ a ha la b hb lb => ?_
    have pab : pairsOf rs a b := ⟨⟨ha, la⟩, hb, lb⟩
    rcases Int.lt_trichotomy (dist a b) 0 with hd | hd | hd
    · cases e : lo with
      | none => exact absurd hd (h.loN e a b pab)
      | some z =>
        obtain ⟨x, y⟩ := z
        have h1 := k1 x y e
        obtain ⟨⟨a', b', _, hd', ez⟩, h2⟩ := h.loS _ e
        have hy : 0 < y := by
          have : y = 0 - dist a' b' := congrArg Prod.snd ez
          omega
        have h3 := h2 a b pab hd
        rw [pairOk_dn]
        -- -room/-dist ≤ x/y < p/q
        have h4 := less_trans' (u := (0 - room a b, 0 - dist a b)) (v := (x, y)) (w := (p, q)) (by simp only; omega) hy hq h3 h1
        exact h4
    · have h1 := h0 a b pab hd
      rw [pairOk_up, hd, Int.mul_zero]
      exact Int.mul_pos h1 hq
    · cases e : hi with
      | none => exact absurd hd (h.hiN e a b pab)
      | some z =>
        obtain ⟨x, y⟩ := z
        have h1 := k2 x y e
        obtain ⟨⟨a', b', _, hd', ez⟩, h2⟩ := h.hiS _ e
        have hy : 0 < y := by
          have : y = dist a' b' := congrArg Prod.snd ez
          omega
        have h3 := h2 a b pab hd
        rw [pairOk_up]
        have h4 := less_trans (u := (p, q)) (v := (x, y)) (w := (room a b, dist a b)) hq hy hd h1 h3
        exact h4
end
/-! ### the ends that are returned -/
structure EndsFor (rs : List R) (lo hi : End) : Prop where
  to : ∀ p q, 0 ≤ p → 0 < q → (rateOk rs p q ↔ inside lo hi p q)
  lo0 : ∀ x y, lo = some (x, y) → 0 ≤ x ∧ 0 < y ∧ Int.gcd x y = 1
  hi0 : ∀ x y, hi = some (x, y) → 0 ≤ x ∧ 0 < y ∧ Int.gcd x y = 1
theorem EndsFor.rate {rs : List R} {lo hi : End} (h : EndsFor rs lo hi) {p q : Int} : isRate rs p q ↔ isSimp lo hi p q := by
  constructor
  · rintro ⟨hp, hq, hr, hm⟩
    exact ⟨hp, hq, (h.to p q hp hq).mp hr, fun p' q' hp' hq' hi' => hm p' q' hp' hq' ((h.to p' q' hp' hq').mpr hi')⟩
  · rintro ⟨hp, hq, hr, hm⟩
    exact ⟨hp, hq, (h.to p q hp hq).mpr hr, fun p' q' hp' hq' hi' => hm p' q' hp' hq' ((h.to p' q' hp' hq').mp hi')⟩
/-- lowest terms -/
def lowT (z : Int × Int) : Int × Int := (z.1 / (Int.gcd z.1 z.2 : Nat), z.2 / (Int.gcd z.1 z.2 : Nat))
theorem lowT_spec {z : Int × Int} (h : 0 < z.2) : 0 < (lowT z).2 ∧ Int.gcd (lowT z).1 (lowT z).2 = 1 ∧ z.1 = (Int.gcd z.1 z.2 : Nat) * (lowT z).1 ∧ z.2 = (Int.gcd z.1 z.2 : Nat) * (lowT z).2 ∧ (0 : Int) < (Int.gcd z.1 z.2 : Nat) := by
  have hg : 0 < Int.gcd z.1 z.2 := Int.gcd_pos_of_ne_zero_right _ (by omega)
  have d1 : ((Int.gcd z.1 z.2 : Nat) : Int) ∣ z.1 := Int.gcd_dvd_left ..
  have d2 : ((Int.gcd z.1 z.2 : Nat) : Int) ∣ z.2 := Int.gcd_dvd_right ..
  have e1 : z.1 = (Int.gcd z.1 z.2 : Nat) * (lowT z).1 := (Int.mul_ediv_cancel' d1).symm
  have e2 : z.2 = (Int.gcd z.1 z.2 : Nat) * (lowT z).2 := (Int.mul_ediv_cancel' d2).symm
  have hg' : (0 : Int) < (Int.gcd z.1 z.2 : Nat) := by omega
  refine ⟨?_, ?_, e1, e2, hg'⟩
  · rcases Int.lt_or_le 0 (lowT z).2 with n | n
    · exact n
    · have := Int.mul_nonpos_of_nonneg_of_nonpos (Int.le_of_lt hg') n
      omega
  · have h1 : Int.gcd (z.1 / (Int.gcd z.1 z.2 : Nat)) (z.2 / (Int.gcd z.1 z.2 : Nat)) = 1 := Int.gcd_ediv_gcd_ediv_gcd hg
    exact h1
theorem lowT_above {z : Int × Int} {p q : Int} (h : 0 < z.2) : above (some (lowT z)) p q ↔ above (some z) p q := by
  obtain ⟨_, _, e1, e2, hg⟩ := lowT_spec h
  have k : (lowT z).1 * q < p * (lowT z).2 ↔ z.1 * q < p * z.2 := by
    generalize (lowT z).1 = x at e1
    generalize (lowT z).2 = y at e2
    generalize ((Int.gcd z.1 z.2 : Nat) : Int) = g at hg e1 e2
    rw [e1, e2]
    rw [Int.mul_assoc, Int.mul_left_comm p]
    exact ⟨fun h => Int.mul_lt_mul_of_pos_left h hg, fun h => Int.lt_of_mul_lt_mul_left h (Int.le_of_lt hg)⟩
  constructor
  · intro h1 x y e
    obtain rfl := Option.some.inj e
    exact k.mp (h1 _ _ rfl)
  · intro h1 x y e
    have e' := Option.some.inj e
    have := k.mpr (h1 z.1 z.2 rfl)
    rw [e'] at this
    exact this
theorem lowT_below {z : Int × Int} {p q : Int} (h : 0 < z.2) : below (some (lowT z)) p q ↔ below (some z) p q := by
  obtain ⟨_, _, e1, e2, hg⟩ := lowT_spec h
  have k : p * (lowT z).2 < (lowT z).1 * q ↔ p * z.2 < z.1 * q := by
    generalize (lowT z).1 = x at e1
    generalize (lowT z).2 = y at e2
    generalize ((Int.gcd z.1 z.2 : Nat) : Int) = g at hg e1 e2
    rw [e1, e2]
    rw [Int.mul_assoc, Int.mul_left_comm p]
    exact ⟨fun h => Int.mul_lt_mul_of_pos_left h hg, fun h => Int.lt_of_mul_lt_mul_left h (Int.le_of_lt hg)⟩
  constructor
  · intro h1 x y e
    obtain rfl := Option.some.inj e
    exact k.mp (h1 _ _ rfl)
  · intro h1 x y e
    have e' := Option.some.inj e
    have := k.mpr (h1 z.1 z.2 rfl)
    rw [e'] at this
    exact this
/-- what ends() makes of the two bounds -/
def endLo (lo : End) : End := match lo with
  | none => none
  | some z => if z.1 < 0 then none else some (lowT z)
def endHi (hi : End) : End := hi.map lowT
theorem ends_for {rs : List R} {lo hi : End} {P Q : Int} (hP : 0 ≤ P) (hQ : 0 < Q) (hw : rateOk rs P Q) (h : BInv (pairsOf rs) lo hi) (h0 : ∀ a b, pairsOf rs a b → dist a b = 0 → 0 < room a b) : EndsFor rs (endLo lo) (endHi hi) := by
  have hlo : ∀ z, lo = some z → 0 < z.2 := fun z e => by
    obtain ⟨⟨a, b, _, hd, ez⟩, _⟩ := h.loS _ e
    rw [ez]
    show 0 < 0 - dist a b
    omega
  have hhi : ∀ z, hi = some z → 0 < z.2 := fun z e => by
    obtain ⟨⟨a, b, _, hd, ez⟩, _⟩ := h.hiS _ e
    rw [ez]
    exact hd
  refine ⟨fun p q hp hq => ?_, fun x y e => ?_, fun x y e => ?_⟩
  · rw [rates_inside hq h h0]
    have e1 : above (endLo lo) p q ↔ above lo p q := by
      unfold endLo
      cases e : lo with
      | none => exact Iff.rfl
      | some z =>
        have hz := hlo z e
        by_cases n : z.1 < 0
        · simp only [if_pos n]
          refine ⟨fun _ x y e2 => ?_, fun _ x y e2 => (nomatch e2)⟩
          obtain rfl := Option.some.inj e2
          have h1 : x * q < 0 := Int.mul_neg_of_neg_of_pos n hq
          have h2 : 0 ≤ p * y := Int.mul_nonneg hp (Int.le_of_lt hz)
          omega
        · simp only [if_neg n]
          exact lowT_above hz
    have e2 : below (endHi hi) p q ↔ below hi p q := by
      unfold endHi
      cases e : hi with
      | none => exact Iff.rfl
      | some z => exact lowT_below (hhi z e)
    unfold inside
    rw [e1, e2]
  · unfold endLo at e
    cases el : lo with
    | none => rw [el] at e; cases e
    | some z =>
      rw [el] at e
      have hz := hlo z el
      by_cases n : z.1 < 0
      · simp only [if_pos n] at e
        cases e
      · simp only [if_neg n] at e
        have e' := Option.some.inj e
        obtain ⟨k1, k2, k3, _, k5⟩ := lowT_spec hz
        rw [e'] at k1 k2 k3
        refine ⟨?_, k1, k2⟩
        rcases Int.lt_or_le x 0 with m | m
        · have := Int.mul_neg_of_pos_of_neg k5 m
          simp only at k3
          omega
        · exact m
  · unfold endHi at e
    cases el : hi with
    | none => rw [el] at e; cases e
    | some z =>
      rw [el] at e
      have hz := hhi z el
      have e' : lowT z = (x, y) := Option.some.inj e
      obtain ⟨k1, k2, k3, _, k5⟩ := lowT_spec hz
      rw [e'] at k1 k2 k3
      refine ⟨?_, k1, k2⟩
      have h1 := ((rates_inside hQ h h0).mp hw).2 z.1 z.2 el
      have h2 : 0 ≤ P * z.2 := Int.mul_nonneg hP (Int.le_of_lt hz)
      have h3 : 0 < z.1 * Q := by omega
      have h4 : 0 < z.1 := by
        rcases Int.lt_or_le 0 z.1 with m | m
        · exact m
        · have := Int.mul_nonpos_of_nonpos_of_nonneg m (Int.le_of_lt hQ)
          omega
      rcases Int.lt_or_le x 0 with m | m
      · have := Int.mul_neg_of_pos_of_neg k5 m
        simp only at k3
        omega
      · exact m
end LF

namespace LF
open PySem PySem.Spec PyProof.Rows L2
/-! ### the text by places -/
def top (i : Nat) : Stmt := PySem.Challenge.pw_leapfit_k59_whole_least_rules_far.main.body.getD i (.Pass ⟨0, 0, 0, 0⟩)
abbrev s_is_integer : Stmt := top 10
abbrev s_is_list : Stmt := top 11
abbrev s_common_divisor : Stmt := top 12
abbrev s_is_reduced : Stmt := top 13
abbrev s_is_rate : Stmt := top 14
abbrev s_is_record : Stmt := top 15
abbrev s_need_number : Stmt := top 16
abbrev s_need_records : Stmt := top 17
abbrev s_simplest_rate : Stmt := top 19
abbrev s_simplest_between : Stmt := top 20
abbrev s_lowest_terms : Stmt := top 22
abbrev s_is_less : Stmt := top 23
abbrev s_RateBounds_init : Stmt := inClass (top 24) 0
abbrev s_RateBounds_tighten : Stmt := inClass (top 24) 1
abbrev s_RateBounds_is_empty : Stmt := inClass (top 24) 2
abbrev s_RateBounds_ends : Stmt := inClass (top 24) 3
abbrev s_ends_of : Stmt := top 25
abbrev s_rates : Stmt := top 26
abbrev s_phase_range : Stmt := top 27
abbrev s_some_rule : Stmt := top 28
abbrev s_least_rule : Stmt := top 31
abbrev s_least_cycle : Stmt := top 32
abbrev s_Line_init : Stmt := inClass (top 33) 0
abbrev s_lower_envelope : Stmt := top 35
abbrev s_Pairs_init : Stmt := inClass (top 36) 0
abbrev s_Pairs_total : Stmt := inClass (top 36) 1
abbrev s_count_pairs : Stmt := top 37
abbrev s__law_pen : Stmt := top 39
abbrev s__law_draw : Stmt := top 40
abbrev s__law_pick : Stmt := top 41
abbrev s__law_shuffled : Stmt := top 42
abbrev s__law_natural : Stmt := top 43
abbrev s__law_integer : Stmt := top 44
abbrev s__law_gcd : Stmt := top 45
abbrev s__law_hidden : Stmt := top 46
abbrev s__law_count_at : Stmt := top 47
abbrev s__law_records : Stmt := top 48
abbrev s__law_fits_all : Stmt := top 49
abbrev s__law_no_pairs : Stmt := top 50
abbrev s__law_more : Stmt := top 51
abbrev s_law : Stmt := top 52
/-! ### a def that may be called, by its name -/
structure Cal (P : Program) (w : World) (K : PySem.W.Frag) (mg : Str → Option Value) (base : Heap) (k : Nat) (x : Str) (ps : List Str) (sp : Sp) : Prop where
  ex : ∃ (f : Addr) (fd : FuncData), FnOk P w K mg base CX0 k f fd ps sp ∧ mg x = some (.ref f) ∧ PySem.W.keepIn K (.ref f) = true ∧ Binds K fd ps []
/-- .. with keywords -/
structure CalK (P : Program) (w : World) (K : PySem.W.Frag) (mg : Str → Option Value) (base : Heap) (k : Nat) (x : Str) (ps : List Str) (n : Nat) (ks : List Str) (sp : Sp) : Prop where
  ex : ∃ (f : Addr) (fd : FuncData), FnOk P w K mg base CX0 k f fd ps sp ∧ mg x = some (.ref f) ∧ PySem.W.keepIn K (.ref f) = true ∧ KBn K fd ps n ks (fun us ws => us ++ ws) (fun vs zs => vs ++ zs)
/-- a method of the class at C -/
structure CalM (P : Program) (w : World) (K : PySem.W.Frag) (mg : Str → Option Value) (base : Heap) (k : Nat) (C : Addr) (m : Str) (ps : List Str) (sp : Sp) : Prop where
  ex : ∃ (f : Addr) (fd : FuncData), FnOk P w K mg base CX0 k f fd ps sp ∧ Meth K C m f ∧ Binds K fd ps []
/-- a class that is made by its __init__ -/
structure CalC (P : Program) (w : World) (K : PySem.W.Frag) (mg : Str → Option Value) (base : Heap) (k : Nat) (x : Str) (C : Addr) (ps : List Str) (sp : Sp) : Prop where
  ex : ∃ (f : Addr) (fd : FuncData), FnOk P w K mg base CX0 k f fd ps sp ∧ mg x = some (.ref C) ∧ Mk K C f ∧ Binds K fd ps []
section
variable {X : Cx} {k n : Nat} {x m : Str} {ps ks : List Str} {sp : Sp} {p pos apos : Pos} {e o : Expr} {es : List Expr} {kws : List Keyword} {t tk : TA} {ta : TE} {C : Addr}
theorem pe_fn (G : Cal X.prog X.w X.K X.mg X.base k x ps sp) (hr : Room k X.A) (hg : Gl X x) (ha : PA X (e :: es) t) (hdb : (x == ("__debug__" : Str)) = false := by decide)
    (he : starEach (e :: es) X.env = (false, eval e X.env) :: starEach es X.env := by rfl) (hpl : (backTo pos (starEach es X.env)).any (·.1) = false := by rfl) :
    PE X (.Call (.Name x p) (e :: es) [] pos) (tCall sp [] E0 t) := by
  obtain ⟨f, fd, F, hm, hk, hb⟩ := G.ex
  exact pe_call F hr hg hm hk hb .nil pass0 ha hdb he hpl
theorem pe_fnK (G : CalK X.prog X.w X.K X.mg X.base k x ps n ks sp) (hr : Room k X.A) (hg : Gl X x) (ha : PA X (e :: es) t) (hkw : PK X kws tk)
    (hall : (backToKw pos (keywordEach kws X.env)).all (·.1.isSome) = true := by rfl) (hks : (backToKw pos (keywordEach kws X.env)).filterMap (·.1) = ks := by rfl)
    (hdb : (x == ("__debug__" : Str)) = false := by decide) (he : starEach (e :: es) X.env = (false, eval e X.env) :: starEach es X.env := by rfl)
    (hpl : ((backTo pos (starEach (e :: es) X.env)).any (·.1) || (backToKw pos (keywordEach kws X.env)).any (·.1.isNone)) = false := by rfl) :
    PE X (.Call (.Name x p) (e :: es) kws pos) (tCallN n ks.length sp (fun vs zs => vs ++ zs) E0 t tk) := by
  obtain ⟨f, fd, F, hm, hk, hb⟩ := G.ex
  exact pe_callN F hr hg hm hk hb pass0 ha hkw hall hks hdb he hpl
theorem pe_me {pl : Sem Bool} (he : PE X o ta) (c : Cls X.K C) (G : CalM X.prog X.w X.K X.mg X.base k C m ps sp) (hr : Room k X.A) (ha : PA X (e :: es) t)
    (hst : starEach (e :: es) X.env = (false, eval e X.env) :: starEach es X.env := by rfl) (hpl : (backTo pos (starEach es X.env)).any (·.1) = false := by rfl)
    (ht : eval (.Call (.Attribute o m apos) (e :: es) [] pos) X.env = (do
      let ov ← eval o X.env
      standAt apos.atName
      let (f, first) ← holding [ov] (getMethod ov m pl)
      callWith pos f first (backTo pos (starEach (e :: es) X.env)) (backToKw pos (keywordEach [] X.env))) := by rfl) :
    PE X (.Call (.Attribute o m apos) (e :: es) [] pos) (tMeth C m sp [] E0 ta t) := by
  obtain ⟨f, fd, F, hm, hb⟩ := G.ex
  exact pe_meth he c hm F hr hb .nil pass0 ha hst hpl ht
theorem pe_me0 {pl : Sem Bool} (he : PE X o ta) (c : Cls X.K C) (G : CalM X.prog X.w X.K X.mg X.base k C m ps sp) (hr : Room k X.A)
    (ht : eval (.Call (.Attribute o m apos) [] [] pos) X.env = (do
      let ov ← eval o X.env
      standAt apos.atName
      let (f, first) ← holding [ov] (getMethod ov m pl)
      callWith pos f first (backTo pos (starEach [] X.env)) (backToKw pos (keywordEach [] X.env))) := by rfl) :
    PE X (.Call (.Attribute o m apos) [] [] pos) (tMeth C m sp [] E0 ta tNil) := by
  obtain ⟨f, fd, F, hm, hb⟩ := G.ex
  exact pe_meth0 he c hm F hr hb .nil pass0 ht
theorem pe_mk (G : CalC X.prog X.w X.K X.mg X.base k x C ps sp) (hr : Room (k + 1) X.A) (hg : Gl X x) (ha : PA X (e :: es) t) (hdb : (x == ("__debug__" : Str)) = false := by decide)
    (he : starEach (e :: es) X.env = (false, eval e X.env) :: starEach es X.env := by rfl) (hpl : (backTo pos (starEach es X.env)).any (·.1) = false := by rfl) :
    PE X (.Call (.Name x p) (e :: es) [] pos) (tMake C sp [] E0 t) := by
  obtain ⟨f, fd, F, hm, M, hb⟩ := G.ex
  exact pe_make M F hr hg hm hb .nil pass0 ha hdb he hpl
theorem pe_gint {i : Int} (hg : Gl X x) (h : ∃ t, X.mg x = some (.int i t)) (hd : (x == ("__debug__" : Str)) = false := by decide) : PE X (.Name x pos) (tC (.int i)) := by
  obtain ⟨t, h⟩ := h
  exact pe_glob hg h ⟨t, rfl⟩ hd
end
section
variable {X : Cx} {K : PySem.W.Frag} {pos : Pos}
/-- within a comprehension's block: the written part said by its name -/
theorem ix_tupK (h : X.K = K) : IxR X (rIxT K) := by
  subst h
  exact ix_tup
theorem pg_tupK {es : List Expr} {k : Nat} {t : TGs} {n : Nat} (hK : X.K = K) (hc : X.calm = true) (h : PGs X es t)
    (hn : (assignEach es X.env).length = n := by rfl) (hst : (assignEach es X.env).findIdx? (·.1) = none := by rfl) : PG X (.Tuple es k pos) (gTup K n t) := by
  subst hK
  exact pg_tup hc h hn hst
end
/-! ### the module's facts -/
structure Txt (K : PySem.W.Frag) (mg : Str → Option Value) : Prop where
  b_isinstance : mg "isinstance" = none
  b_int : mg "int" = none
  b_bool : mg "bool" = none
  b_list : mg "list" = none
  b_tuple : mg "tuple" = none
  b_len : mg "len" = none
  b_all : mg "all" = none
  b_str : mg "str" = none
  b_range : mg "range" = none
  b_abs : mg "abs" = none
  b_max : mg "max" = none
  b_min : mg "min" = none
  b_enumerate : mg "enumerate" = none
  MOST_ITEMS : ∃ t, mg "MOST_ITEMS" = some (.int 200 t)
  MOST_CYCLE : ∃ t, mg "MOST_CYCLE" = some (.int (10 ^ 60) t)
  BOUNDS : mg "BOUNDS" = some (.ref (He.ga K "BOUNDS"))
  bounds : ∀ H : Hp, SqT K H (He.ga K "BOUNDS") [.str "at least", .str "at most"]
  exUnbounded : mg "Unbounded" = some (.ref (He.ga K "Unbounded"))
  c_RateBounds : Cls K (He.ga K "RateBounds")
  c_Line : Cls K (He.ga K "Line")
  c_Pairs : Cls K (He.ga K "Pairs")
  n_RateBounds_low : NoAttr K (He.ga K "RateBounds") "low"
  n_RateBounds_low_pair : NoAttr K (He.ga K "RateBounds") "low_pair"
  n_RateBounds_high : NoAttr K (He.ga K "RateBounds") "high"
  n_RateBounds_high_pair : NoAttr K (He.ga K "RateBounds") "high_pair"
  n_RateBounds_clash : NoAttr K (He.ga K "RateBounds") "clash"
  n_Line_slope : NoAttr K (He.ga K "Line") "slope"
  n_Line_offset : NoAttr K (He.ga K "Line") "offset"
  n_Pairs_first : NoAttr K (He.ga K "Pairs") "first"
  n_Pairs_last : NoAttr K (He.ga K "Pairs") "last"
  n_Pairs_parts : NoAttr K (He.ga K "Pairs") "parts"
/-! ### heaps: all that is no dict stands -/
def Keep (H H' : Hp) : Prop := ∀ b o, H b = some o → (∀ kvs, o ≠ .dK kvs) → H' b = some o
theorem Keep.refl (H : Hp) : Keep H H := fun _ _ h _ => h
theorem Keep.trans {H H1 H2 : Hp} (a : Keep H H1) (b : Keep H1 H2) : Keep H H2 := fun c o h n => b c o (a c o h n) n
theorem Keep.of {H H' : Hp} (a : Same H H') : Keep H H' := fun c o h _ => a c o h
theorem Same.new {H : Hp} {p : Addr} {o : HO} (h : H p = Option.none) : Same H (upd H p o) := fun a u e => by
  rw [upd_ne (ne_of_none e h)]
  exact e
theorem Keep.new {H : Hp} {p : Addr} {o : HO} (h : H p = Option.none) : Keep H (upd H p o) := .of (Same.new h)
theorem Keep.lst {K : PySem.W.Frag} {H H' : Hp} {a : Addr} {xs : List V} (e : Keep H H') (h : SqL K H a xs) : SqL K H' a xs := by
  rcases h with (h | ⟨o, h⟩) | h
  · exact .inl (.inl (e _ _ h fun _ z => nomatch z))
  · exact .inl (.inr ⟨o, e _ _ h fun _ z => nomatch z⟩)
  · exact .inr h
theorem Keep.tup {K : PySem.W.Frag} {H H' : Hp} {a : Addr} {xs : List V} (e : Keep H H') (h : SqT K H a xs) : SqT K H' a xs := by
  rcases h with (h | ⟨o, h⟩) | h
  · exact .inl (.inl (e _ _ h fun _ z => nomatch z))
  · exact .inl (.inr ⟨o, e _ _ h fun _ z => nomatch z⟩)
  · exact .inr h
theorem Keep.t {H H' : Hp} {a : Addr} {xs : List V} (e : Keep H H') (h : H a = some (.tup xs)) : H' a = some (.tup xs) := e _ _ h fun _ z => nomatch z
theorem Keep.l {H H' : Hp} {a : Addr} {xs : List V} (e : Keep H H') (h : H a = some (.lst xs)) : H' a = some (.lst xs) := e _ _ h fun _ z => nomatch z
theorem Same.tup {K : PySem.W.Frag} {H H' : Hp} {a : Addr} {xs : List V} (e : Same H H') (h : SqT K H a xs) : SqT K H' a xs := (Keep.of e).tup h
theorem Keep.free {H H' : Hp} {l : Addr} (e : Keep H H') (h : H' l = Option.none) : H l = Option.none ∨ ∃ kvs, H l = some (.dK kvs) := by
  cases q : H l with
  | none => exact .inl rfl
  | some o =>
    refine .inr ?_
    cases o with
    | dK kvs => exact ⟨kvs, rfl⟩
    | _ => rw [e l _ q (fun _ z => nomatch z)] at h; cases h
/-! ### small things -/
theorem at0 {xs : List V} {v : V} : atI (v :: xs) 0 = some v := atI_nat (j := 0) rfl
theorem at1 {xs : List V} {u v : V} : atI (u :: v :: xs) 1 = some v := atI_nat (j := 1) rfl
theorem at2 {xs : List V} {u v w : V} : atI (u :: v :: w :: xs) 2 = some w := atI_nat (j := 2) rfl
theorem ty_is {K : PySem.W.Frag} {a b : String} {r : Bool} (h : PySem.W.kitOne [] (.type a) (.type b) = some r) : PySem.W.kitOne K (.type a) (.type b) = some r := by
  exact kit_ty h
end LF

namespace LF
open PySem PySem.Spec PyProof.Rows L2
/-! ### the data -/
def kindS (b : Bool) : Str := if b = true then "at least" else "at most"
def recT (r : R) : List V := [.str (kindS r.low), .int r.t, .int r.n]
def RecsP (H : Hp) : List Addr → List R → Prop
  | [], [] => True
  | p :: ps, r :: rs => H p = some (.tup (recT r)) ∧ RecsP H ps rs
  | _, _ => False
theorem RecsP.length {H : Hp} : ∀ {ps : List Addr} {rs : List R}, RecsP H ps rs → ps.length = rs.length
  | [], [], _ => rfl
  | _ :: _, _ :: _, h => congrArg Nat.succ (RecsP.length h.2)
  | [], _ :: _, h => h.elim
  | _ :: _, [], h => h.elim
theorem RecsP.get {H : Hp} : ∀ {ps : List Addr} {rs : List R} {i : Nat} {p : Addr}, RecsP H ps rs → ps[i]? = some p → ∃ r, rs[i]? = some r ∧ H p = some (.tup (recT r))
  | p :: ps, r :: rs, 0, q, h, e => ⟨r, rfl, by rw [← Option.some.inj e]; exact h.1⟩
  | p :: ps, r :: rs, i + 1, q, h, e => RecsP.get (ps := ps) (rs := rs) (i := i) h.2 e
  | [], [], _, _, _, e => by cases e
  | [], _ :: _, _, _, h, _ => h.elim
  | _ :: _, [], _, _, h, _ => h.elim
theorem RecsP.keep {H H' : Hp} (k : Keep H H') : ∀ {ps : List Addr} {rs : List R}, RecsP H ps rs → RecsP H' ps rs
  | [], [], _ => True.intro
  | _ :: _, _ :: _, h => ⟨k.t h.1, RecsP.keep k h.2⟩
  | [], _ :: _, h => h.elim
  | _ :: _, [], h => h.elim
theorem RecsP.app {H : Hp} : ∀ {ps qs : List Addr} {rs ts : List R}, RecsP H ps rs → RecsP H qs ts → RecsP H (ps ++ qs) (rs ++ ts)
  | [], _, [], _, _, k => k
  | _ :: _, _, _ :: _, _, h, k => ⟨h.1, RecsP.app h.2 k⟩
  | [], _, _ :: _, _, h, _ => h.elim
  | _ :: _, _, [], _, h, _ => h.elim
theorem RecsP.take {H : Hp} : ∀ {ps : List Addr} {rs : List R} (n : Nat), RecsP H ps rs → RecsP H (ps.take n) (rs.take n)
  | _, _, 0, _ => True.intro
  | [], [], n + 1, _ => True.intro
  | _ :: _, _ :: _, n + 1, h => ⟨h.1, RecsP.take n h.2⟩
  | [], _ :: _, _ + 1, h => h.elim
  | _ :: _, [], _ + 1, h => h.elim
theorem RecsP.erase {H : Hp} : ∀ {ps : List Addr} {rs : List R} (n : Nat), RecsP H ps rs → RecsP H (ps.eraseIdx n) (rs.eraseIdx n)
  | [], [], n, _ => by cases n <;> exact True.intro
  | _ :: _, _ :: _, 0, h => h.2
  | _ :: _, _ :: _, n + 1, h => ⟨h.1, RecsP.erase n h.2⟩
  | [], _ :: _, _, h => h.elim
  | _ :: _, [], _, h => h.elim
/-- the list of the records rs stands at a -/
def RecsAt (H : Hp) (a : Addr) (rs : List R) : Prop := ∃ ps : List Addr, H a = some (.lst (ps.map V.ref)) ∧ RecsP H ps rs
theorem RecsAt.keep {H H' : Hp} {a : Addr} {rs : List R} (k : Keep H H') (h : RecsAt H a rs) : RecsAt H' a rs := by
  obtain ⟨ps, h1, h2⟩ := h
  exact ⟨ps, k.l h1, h2.keep k⟩
theorem RecsAt.same {H H' : Hp} {a : Addr} {rs : List R} (k : Same H H') (h : RecsAt H a rs) : RecsAt H' a rs := h.keep (.of k)
/-- an item of such a list -/
theorem recs_item {H : Hp} {ps : List Addr} {rs : List R} {i : Nat} {x : V} (h : RecsP H ps rs) (e : (ps.map V.ref)[i]? = some x) : ∃ p r, x = .ref p ∧ ps[i]? = some p ∧ rs[i]? = some r ∧ H p = some (.tup (recT r)) := by
  rw [List.getElem?_map] at e
  cases q : ps[i]? with
  | none => rw [q] at e; cases e
  | some p =>
    rw [q] at e
    obtain ⟨r, h1, h2⟩ := h.get q
    exact ⟨p, r, (Option.some.inj e).symm, rfl, h1, h2⟩
/-- None, or a tuple of two ints -/
def OptT (H : Hp) (v : V) : End → Prop
  | none => v = .non
  | some z => ∃ p, v = .ref p ∧ H p = some (.tup [.int z.1, .int z.2])
theorem OptT.keep {H H' : Hp} {v : V} {o : End} (k : Keep H H') (h : OptT H v o) : OptT H' v o := by
  cases o with
  | none => exact h
  | some z =>
    obtain ⟨p, e, h⟩ := h
    exact ⟨p, e, k.t h⟩
theorem OptT.same {H H' : Hp} {v : V} {o : End} (k : Same H H') (h : OptT H v o) : OptT H' v o := h.keep (.of k)
/-! ### sizes -/
theorem sm_mono {a b : Nat} {x : Int} (h : sm a x) (l : a ≤ b) : sm b x := Nat.lt_of_lt_of_le h (Nat.pow_le_pow_right (by decide) l)
theorem sm_mul {a b : Nat} {x y : Int} (hx : sm a x) (hy : sm b y) : sm (a + b) (x * y) := wide_lt hx hy
theorem sm_add {a : Nat} {x y : Int} (hx : sm a x) (hy : sm a y) : sm (a + 1) (x + y) := by
  unfold sm at *
  have : 2 ^ (a + 1) = 2 * 2 ^ a := by rw [Nat.pow_succ]; omega
  omega
theorem sm_sub {a : Nat} {x y : Int} (hx : sm a x) (hy : sm a y) : sm (a + 1) (x - y) := by
  unfold sm at *
  have : 2 ^ (a + 1) = 2 * 2 ^ a := by rw [Nat.pow_succ]; omega
  omega
theorem sm_neg {a : Nat} {x : Int} (hx : sm a x) : sm a (-x) := by
  unfold sm at *
  omega
theorem sm_le {a : Nat} {x y : Int} (hx : sm a x) (h0 : 0 ≤ y) (h : y ≤ x) : sm a y := by
  unfold sm at *
  omega
theorem sm_one {a : Nat} (h : 0 < a) : sm a 1 := by
  unfold sm
  exact Nat.one_lt_two_pow (by omega)
theorem mulW {a b : Nat} {x y : Int} (hx : sm a x) (hy : sm b y) (h : a + b + 2 ≤ 1000000) : CMulW x y :=
  wide_mul (sm_mono hx (Nat.le_succ a)) (sm_mono hy (Nat.le_succ b)) (Nat.succ_pos a) (Nat.succ_pos b) (by omega)
theorem divW {a : Nat} {x y : Int} (h0 : 0 < y) (hy : sm a y) (h : a + 1 ≤ 9000) : CDivW x y :=
  wide_div h0 (sm_mono hy (Nat.le_succ a)) (Nat.succ_pos a) h
theorem sm_of_lt {a : Nat} {x : Int} (h0 : 0 ≤ x) (h : x < 2 ^ a) : sm a x := by
  unfold sm
  have : ((2 ^ a : Nat) : Int) = 2 ^ a := by simp
  omega
theorem sm_lt {a : Nat} {x : Int} (h : sm a x) : x < 2 ^ a := by
  unfold sm at h
  have : ((2 ^ a : Nat) : Int) = 2 ^ a := by simp
  omega
/-- the size that every number of a record keeps -/
abbrev B : Nat := 402
def okR (r : R) : Prop := sm 400 r.t ∧ sm 400 r.n
def okRs (rs : List R) : Prop := ∀ r ∈ rs, okR r
/-! ### the promises: checks of numbers, rates, records -/
def sp_is_integer : Sp := fun vs H Q _ => ∃ i : Int, vs = [.int i] ∧ Q (.bl true) H
def sp_is_list : Sp := fun vs H Q _ => ∃ (a : Addr) (xs : List V), vs = [.ref a] ∧ H a = some (.lst xs) ∧ ∀ H', Same H H' → Q (.bl true) H'
def sp_common_divisor : Sp := fun vs H Q _ => ∃ m n : Int, vs = [.int m, .int n] ∧ 0 ≤ m ∧ 0 ≤ n ∧ Q (.int (Int.gcd m n : Nat)) H
def sp_is_reduced : Sp := fun vs H Q _ => ∃ p q : Int, vs = [.int p, .int q] ∧ 0 ≤ p ∧ 0 < q ∧ Int.gcd p q = 1 ∧ Q (.bl true) H
def sp_is_rate : Sp := fun vs H Q _ => ∃ (a : Addr) (p q : Int), vs = [.ref a] ∧ H a = some (.tup [.int p, .int q]) ∧ 0 ≤ p ∧ 0 < q ∧ Int.gcd p q = 1 ∧ ∀ H', Same H H' → Q (.bl true) H'
def sp_is_record : Sp := fun vs H Q _ => ∃ (a : Addr) (r : R), vs = [.ref a] ∧ H a = some (.tup (recT r)) ∧ Q (.bl true) H
def sp_need_number : Sp := fun vs H Q _ => ∃ n l m : Int, vs = [.int n, .int l, .int m] ∧ l ≤ n ∧ n ≤ m ∧ Q .non H
def sp_need_records : Sp := fun vs H Q _ => ∃ (a : Addr) (rs : List R), vs = [.ref a] ∧ RecsAt H a rs ∧ rs.length ≤ 200 ∧ ∀ H', Same H H' → Q .non H'
/-! ### tests -/
theorem iteD {c A B : Prop} [Decidable c] (hc : c) (h : A) : if decide c = true then A else B := by
  rw [decide_eq_true hc]
  exact iteT h
theorem iteDN {c A B : Prop} [Decidable c] (hc : ¬ c) (h : B) : if decide c = true then A else B := by
  rw [decide_eq_false hc]
  exact iteF h
theorem iteND {c A B : Prop} [Decidable c] (hc : ¬ c) (h : A) : if (!decide c) = true then A else B := by
  rw [decide_eq_false hc]
  exact iteT h
/-! ### the greatest common divisor -/
theorem gcd_step {m n : Int} (hm : 0 ≤ m) (hn : 0 < n) : Int.gcd n (m % n) = Int.gcd m n := by
  rw [Int.gcd_comm n (m % n)]
  obtain ⟨a, rfl⟩ := Int.eq_ofNat_of_zero_le hm
  obtain ⟨b, rfl⟩ := Int.eq_ofNat_of_zero_le (Int.le_of_lt hn)
  rw [← Int.natCast_emod]
  show Nat.gcd (a % b) b = Nat.gcd a b
  rw [Nat.gcd_comm a b, Nat.gcd_rec b a]
theorem gcd_done {m : Int} (hm : 0 ≤ m) : ((Int.gcd m 0 : Nat) : Int) = m := by
  rw [Int.gcd_zero_right]
  omega
end LF

namespace LF
open PySem PySem.Spec PyProof.Rows L2
section
variable {P : Program} {w : World} {K : PySem.W.Frag} {mg : Str → Option Value} {base : Heap}
/-! ### leapfit.numbers -/
theorem k_int_int : PySem.W.kitOne K (.type "int") (.type "int") = some true := kit_ty (by decide +kernel)
theorem k_int_bool : PySem.W.kitOne K (.type "int") (.type "bool") = some false := kit_ty (by decide +kernel)
theorem k_tup_tup : PySem.W.kitOne K (.type "tuple") (.type "tuple") = some true := kit_ty (by decide +kernel)
theorem k_str_str : PySem.W.kitOne K (.type "str") (.type "str") = some true := kit_ty (by decide +kernel)
theorem k_list_list : PySem.W.kitOne K (.type "list") (.type "list") = some true := kit_ty (by decide +kernel)
theorem sc_is_integer : FnScope ["value"] ["value"] (defScope s_is_integer) := ⟨rfl, rfl, rfl, by decide +kernel, rfl, by decide +kernel, by decide +kernel⟩
theorem ok_is_integer {f : Addr} {fd : FuncData} (F : Fun K "is_integer" "is_integer" s_is_integer f fd) (T : Txt K mg) : FnOk P w K mg base CX0 1 f fd ["value"] sp_is_integer := by
  refine F.ok sc_is_integer (fun vs H Q E h => ?_) (fun cdv A outer s H vs Q E hr h => ?_)
  · obtain ⟨i, rfl, _⟩ := h
    rfl
  · obtain ⟨i, rfl, k⟩ := h
    refine ⟨_, (pss_one (ps_ret (pe_and (pe_callB call_isi (by rfl) T.b_isinstance (by decide +kernel) (pa_cons (pv 0) (pa_cons (pe_bltn (v := .ty "int") (by rfl) T.b_int (by decide +kernel) rfl) pa_nil))) (pe_one (pe_not (pe_callB call_isi (by rfl) T.b_isinstance (by decide +kernel) (pa_cons (pv 0) (pa_cons (pe_bltn (v := .ty "bool") (by rfl) T.b_bool (by decide +kernel) rfl) pa_nil)))))))), ?_⟩
    refine ⟨_, rfl, .int i, _, _, _, true, rfl, .ty "int", .base (.int i), k_int_int, true, rfl, ?_⟩
    refine iteT ?_
    exact ⟨_, rfl, .int i, _, _, _, false, rfl, .ty "bool", .base (.int i), k_int_bool, false, rfl, k⟩
theorem sc_is_list : FnScope ["value"] ["value"] (defScope s_is_list) := ⟨rfl, rfl, rfl, by decide +kernel, rfl, by decide +kernel, by decide +kernel⟩
theorem ok_is_list {f : Addr} {fd : FuncData} (F : Fun K "is_list" "is_list" s_is_list f fd) (T : Txt K mg) : FnOk P w K mg base CX0 1 f fd ["value"] sp_is_list := by
  refine F.ok sc_is_list (fun vs H Q E h => ?_) (fun cdv A outer s H vs Q E hr h => ?_)
  · obtain ⟨a, xs, rfl, _⟩ := h
    rfl
  · obtain ⟨a, xs, rfl, ha, k⟩ := h
    refine ⟨_, (pss_one (ps_ret (pe_callB call_isiT (by rfl) T.b_isinstance (by decide +kernel) (pa_cons (pv 0) (pa_cons (pe_tup (pa_cons (pe_bltn (v := .ty "list") (by rfl) T.b_list (by decide +kernel) rfl) (pa_cons (pe_bltn (v := .ty "tuple") (by rfl) T.b_tuple (by decide +kernel) rfl) pa_nil))) pa_nil))))), ?_⟩
    refine ⟨_, rfl, (by show 2 ≤ sizeLine; decide), fun p hp => ?_⟩
    refine ⟨.ref a, p, [.ty "list", .ty "tuple"], .type "list", [.type "list", .type "tuple"], true, rfl, upd_same, .cons (.ty "list") (.cons (.ty "tuple") .nil), .base (.lst (xs := xs) (by rw [upd_ne (ne_of_none ha hp)]; exact ha)), ?_, k _ (Same.new hp)⟩
    exact kitAny_cons k_list_list (fun z => by cases z) (fun _ => rfl)
theorem sc_common_divisor : FnScope ["one", "other"] ["one", "other"] (defScope s_common_divisor) := ⟨rfl, rfl, rfl, by decide +kernel, rfl, by decide +kernel, by decide +kernel⟩
theorem ok_common_divisor {f : Addr} {fd : FuncData} (F : Fun K "common_divisor" "common_divisor" s_common_divisor f fd) (T : Txt K mg) : FnOk P w K mg base CX0 1 f fd ["one", "other"] sp_common_divisor := by
  refine F.ok sc_common_divisor (fun vs H Q E h => ?_) (fun cdv A outer s H vs Q E hr h => ?_)
  · obtain ⟨m, n, rfl, _⟩ := h
    rfl
  · obtain ⟨m, n, rfl, hm, hn, k⟩ := h
    refine ⟨_, (pss_cons (ps_while PassesOwn.never (pt_cmpR op_gt (pv 1) pe_int (nomark _)) (pss_one (ps_par (i := 0) (j := 1) rfl sc_common_divisor.nd rfl rfl (by decide) rfl rfl (pa_cons (pv 1) (pa_cons (pe_op op_mod (pv 0) (pv 1)) pa_nil)) (by rfl))))
      (pss_one (ps_ret (pv 0)))), ?_⟩
    refine ⟨fun l σ H' => H' = H ∧ ∃ a b : Int, σ = [some (.int a), some (.int b)] ∧ l = b.toNat ∧ 0 ≤ a ∧ 0 ≤ b ∧ Int.gcd a b = Int.gcd m n, ⟨_, rfl, m, n, rfl, rfl, hm, hn, rfl⟩, ?_⟩
    rintro l σ H' ⟨rfl, a, b, rfl, rfl, ha, hb, e⟩
    refine ⟨_, rfl, _, _, rfl, rfl, _, rfl, ?_⟩
    refine ite2 (fun c => ?_) (fun c => ?_)
    · have hb0 : 0 < b := of_decide_eq_true c
      refine ⟨_, fun σ' H'' n => n, ?_⟩
      refine ⟨_, rfl, _, rfl, _, rfl, a, b, rfl, rfl, hb0, _, _, rfl, ?_⟩
      have h1 := Int.emod_nonneg a (show b ≠ 0 by omega)
      have h2 := Int.emod_lt_of_pos a hb0
      exact ⟨(a % b).toNat, by omega, rfl, b, a % b, rfl, rfl, hb, h1, by rw [gcd_step ha hb0, e]⟩
    · have hb0 : b = 0 := by
        have : ¬ 0 < b := fun z => c (decide_eq_true z)
        omega
      subst hb0
      refine ⟨_, rfl, ?_⟩
      rw [← e, gcd_done ha] at k
      exact k
theorem sc_is_reduced : FnScope ["p", "q"] ["p", "q"] (defScope s_is_reduced) := ⟨rfl, rfl, rfl, by decide +kernel, rfl, by decide +kernel, by decide +kernel⟩
theorem ok_is_reduced {f : Addr} {fd : FuncData} (F : Fun K "is_reduced" "is_reduced" s_is_reduced f fd) (T : Txt K mg) (G_common_divisor : Cal P w K mg base 1 "common_divisor" ["one", "other"] sp_common_divisor) :
    FnOk P w K mg base CX0 2 f fd ["p", "q"] sp_is_reduced := by
  refine F.ok sc_is_reduced (fun vs H Q E h => ?_) (fun cdv A outer s H vs Q E hr h => ?_)
  · obtain ⟨p, q, rfl, _⟩ := h
    rfl
  · obtain ⟨p, q, rfl, hp, hq, hg, k⟩ := h
    refine ⟨_, (pss_one (ps_ret (pe_and (pe_cmpR op_ge (pv 0) pe_int (nomark _)) (pe_and (pe_cmpR op_ge (pv 1) pe_int (nomark _)) (pe_one (pe_cmpR op_eq (pe_fn G_common_divisor hr rfl (pa_cons (pv 0) (pa_cons (pv 1) pa_nil))) pe_int (nomark _))))))), ?_⟩
    refine ⟨_, rfl, p, 0, rfl, rfl, _, rfl, ?_⟩
    rw [decide_eq_true hp]
    refine iteT ⟨_, rfl, q, 1, rfl, rfl, _, rfl, ?_⟩
    rw [decide_eq_true (show (1 : Int) ≤ q by omega)]
    refine iteT ⟨_, rfl, _, rfl, p, q, rfl, hp, Int.le_of_lt hq, rfl, ?_⟩
    rw [hg]
    exact k
theorem sc_is_rate : FnScope ["value", "part"] ["value"] (defScope s_is_rate) := ⟨rfl, rfl, rfl, by decide +kernel, rfl, by decide +kernel, by decide +kernel⟩
theorem ok_is_rate {f : Addr} {fd : FuncData} (F : Fun K "is_rate" "is_rate" s_is_rate f fd) (T : Txt K mg) (G_is_integer : Cal P w K mg base 1 "is_integer" ["value"] sp_is_integer)
    (G_is_reduced : Cal P w K mg base 2 "is_reduced" ["p", "q"] sp_is_reduced) : FnOk P w K mg base CX0 3 f fd ["value"] sp_is_rate := by
  refine F.ok sc_is_rate (fun vs H Q E h => ?_) (fun cdv A outer s H vs Q E hr h => ?_)
  · obtain ⟨a, p, q, rfl, _⟩ := h
    rfl
  · obtain ⟨a, p, q, rfl, ha, hp, hq, hg, k⟩ := h
    refine ⟨_, (pss_one (ps_ret (pe_and (pe_callB call_isi (by rfl) T.b_isinstance (by decide +kernel) (pa_cons (pv 0) (pa_cons (pe_bltn (v := .ty "tuple") (by rfl) T.b_tuple (by decide +kernel) rfl) pa_nil))) (pe_and (pe_cmpR op_eq (pe_callB call_len_seq (by rfl) T.b_len (by decide +kernel) (pa_cons (pv 0) pa_nil)) pe_int (nomark _)) (pe_and (pe_callB (cr_all rfl) (by rfl) T.b_all (by decide +kernel) (pa_cons (pe_lc (own := [("part", 1)]) rfl sc_is_rate.nd (pi_tup (pv 0)) (blkOk_by (own := [("part", 1)]) (N := ["value", "part"]) (sc := defScope s_is_rate) (by decide +kernel)) (fun _ _ _ _ _ => (pg_name (i := 1) sc_is_rate.nd rfl (Or.inl rfl) (.inr rfl))) (fun _ _ _ _ _ => pts_nil) (fun _ _ _ _ _ => (pe_fn G_is_integer (hr.mono (by decide)) rfl (pa_cons (pv 1) pa_nil)))) pa_nil)) (pe_one (pe_fn G_is_reduced hr rfl (pa_cons (pe_ix ix_tup (pv 0) pe_int (fun _ _ => rfl)) (pa_cons (pe_ix ix_tup (pv 0) pe_int (fun _ _ => rfl)) pa_nil))))))))), ?_⟩
    refine ⟨_, rfl, .ref a, _, _, _, true, rfl, .ty "tuple", .base (.tup ha), k_tup_tup, true, rfl, ?_⟩
    refine iteT ⟨_, rfl, a, _, rfl, .inr (SqT.of ha), rfl, true, rfl, ?_⟩
    refine iteT ⟨_, rfl, a, rfl, ⟨_, SqT.of ha⟩, fun D hD => ?_⟩
    have neD : a ≠ D := ne_of_none ha hD
    refine lc_tup (K := K) (a := a) (xs := [.int p, .int q]) (fun i H' => Same H H' ∧ ∃ bs : List V, H' D = some (.lst bs) ∧ bs = List.replicate i (.bl true)) ⟨Same.new hD, _, upd_same, rfl⟩ (fun i H' _ ⟨s, _⟩ => Same.tup s (SqT.of ha)) ?_ ?_
    · rintro i x H' hx ⟨s1, bs, hb, rfl⟩
      have hi : i < 2 := (List.getElem?_eq_some_iff.mp hx).1
      obtain ⟨z, rfl⟩ : ∃ z : Int, x = .int z := by
        match i, hx with
        | 0, hx => exact ⟨p, (Option.some.inj hx).symm⟩
        | 1, hx => exact ⟨q, (Option.some.inj hx).symm⟩
      refine ⟨rfl, ⟨_, rfl, z, rfl, _, hb, ?_, fun b o e => ?_, _, upd_same, ?_⟩⟩
      · rw [List.length_replicate]
        exact small1000 (by omega)
      · rw [upd_ne (ne_of_none e hD)]
        exact s1 b o e
      · rw [← List.replicate_succ']
    · rintro H' ⟨s1, bs, hb, rfl⟩
      refine ⟨D, [true, true], rfl, SqL.of hb, _, rfl, iteT ?_⟩
      exact ⟨_, rfl, a, _, 0, _, rfl, rfl, Same.tup s1 (SqT.of ha), at0, _, rfl, a, _, 1, _, rfl, rfl, Same.tup s1 (SqT.of ha), at1, p, q, rfl, hp, hq, hg, k _ s1⟩
theorem sc_is_record : FnScope ["value"] ["value"] (defScope s_is_record) := ⟨rfl, rfl, rfl, by decide +kernel, rfl, by decide +kernel, by decide +kernel⟩
theorem ok_is_record {f : Addr} {fd : FuncData} (F : Fun K "is_record" "is_record" s_is_record f fd) (T : Txt K mg) (G_is_integer : Cal P w K mg base 1 "is_integer" ["value"] sp_is_integer) :
    FnOk P w K mg base CX0 2 f fd ["value"] sp_is_record := by
  refine F.ok sc_is_record (fun vs H Q E h => ?_) (fun cdv A outer s H vs Q E hr h => ?_)
  · obtain ⟨a, r, rfl, _⟩ := h
    rfl
  · obtain ⟨a, r, rfl, ha, k⟩ := h
    refine ⟨_, (pss_one (ps_ret (pe_and (pe_callB call_isi (by rfl) T.b_isinstance (by decide +kernel) (pa_cons (pv 0) (pa_cons (pe_bltn (v := .ty "tuple") (by rfl) T.b_tuple (by decide +kernel) rfl) pa_nil))) (pe_and (pe_cmpR op_eq (pe_callB call_len_seq (by rfl) T.b_len (by decide +kernel) (pa_cons (pv 0) pa_nil)) pe_int (nomark _)) (pe_and (pe_callB call_isi (by rfl) T.b_isinstance (by decide +kernel) (pa_cons (pe_ix ix_tup (pv 0) pe_int (fun _ _ => rfl)) (pa_cons (pe_bltn (v := .ty "str") (by rfl) T.b_str (by decide +kernel) rfl) pa_nil))) (pe_and (pe_cmpR op_in_seq (pe_ix ix_tup (pv 0) pe_int (fun _ _ => rfl)) (pe_glob (v := .ref (He.ga K "BOUNDS")) rfl T.BOUNDS rfl) (by rfl)) (pe_and (pe_fn G_is_integer hr rfl (pa_cons (pe_ix ix_tup (pv 0) pe_int (fun _ _ => rfl)) pa_nil)) (pe_one (pe_fn G_is_integer hr rfl (pa_cons (pe_ix ix_tup (pv 0) pe_int (fun _ _ => rfl)) pa_nil)))))))))), ?_⟩
    have hs : SqT K H a (recT r) := SqT.of ha
    refine ⟨_, rfl, .ref a, _, _, _, true, rfl, .ty "tuple", .base (.tup ha), k_tup_tup, true, rfl, ?_⟩
    refine iteT ⟨_, rfl, a, _, rfl, .inr hs, rfl, true, rfl, ?_⟩
    refine iteT ⟨_, rfl, a, _, 0, _, rfl, rfl, hs, at0, .str (kindS r.low), _, _, _, true, rfl, .ty "str", .base (.str _), k_str_str, true, rfl, ?_⟩
    refine iteT ⟨_, rfl, a, _, 0, _, rfl, rfl, hs, at0, _, _, rfl, .inr (T.bounds H), rfl, rfl, _, rfl, ?_⟩
    have hin : inV (.str (kindS r.low)) [.str "at least", .str "at most"] = true := by
      cases r.low with
      | true => decide +kernel
      | false => decide +kernel
    rw [if_neg (show ¬ (false = true) from Bool.false_ne_true), hin]
    exact iteT ⟨_, rfl, a, _, 1, _, rfl, rfl, hs, at1, r.t, rfl, _, rfl, iteT ⟨_, rfl, a, _, 2, _, rfl, rfl, hs, at2, r.n, rfl, k⟩⟩
theorem sc_need_number : FnScope ["value", "least", "most"] ["value", "least", "most"] (defScope s_need_number) := ⟨rfl, rfl, rfl, by decide +kernel, rfl, by decide +kernel, by decide +kernel⟩
theorem ok_need_number {dvs : List V} {f : Addr} {fd : FuncData} (F : FunD K "need_number" "need_number" (defArgs s_need_number) (defBody s_need_number) (defScope s_need_number) dvs [] f fd) (T : Txt K mg)
    (G_is_integer : Cal P w K mg base 1 "is_integer" ["value"] sp_is_integer) : FnOk P w K mg base CX0 2 f fd ["value", "least", "most"] sp_need_number := by
  refine F.ok sc_need_number (fun vs H Q E h => ?_) (fun cdv A outer s H vs Q E hr h => ?_)
  · obtain ⟨n, l, m, rfl, _⟩ := h
    rfl
  · obtain ⟨n, l, m, rfl, h1, h2, k⟩ := h
    refine ⟨_, PSs.nox (pss_cons (ps_if (pt_not (pt_val (pe_fn G_is_integer hr rfl (pa_cons (pv 0) pa_nil)))) pss_never pss_nil)
      (pss_one (ps_if (PW.pt (pw_or (PW.pt (pw_and (pt_cmpR op_notN (pv 1) pe_non (nomark _)) (pw_and1 (pt_cmpR op_lt (pv 0) (pv 1) (nomark _))))) (pw_or1 (PW.pt (pw_and (pt_cmpR op_notN (pv 2) pe_non (nomark _)) (pw_and1 (pt_cmpR op_gt (pv 0) (pv 2) (nomark _)))))))) pss_never pss_nil))), ?_⟩
    refine ⟨_, rfl, n, rfl, _, rfl, iteF ?_⟩
    refine ⟨_, rfl, rfl, _, rfl, iteT ⟨_, rfl, _, rfl, n, l, rfl, rfl, _, rfl, ?_⟩⟩
    rw [decide_eq_false (show ¬ n < l by omega)]
    refine iteF ⟨_, rfl, rfl, _, rfl, iteT ⟨_, rfl, _, rfl, n, m, rfl, rfl, _, rfl, ?_⟩⟩
    rw [decide_eq_false (show ¬ m < n by omega)]
    exact iteF k
theorem sc_need_records : FnScope ["value", "index", "item"] ["value"] (defScope s_need_records) := ⟨rfl, rfl, rfl, by decide +kernel, rfl, by decide +kernel, by decide +kernel⟩
theorem ok_need_records {f : Addr} {fd : FuncData} (F : Fun K "need_records" "need_records" s_need_records f fd) (T : Txt K mg) (G_is_list : Cal P w K mg base 1 "is_list" ["value"] sp_is_list)
    (G_is_record : Cal P w K mg base 2 "is_record" ["value"] sp_is_record) : FnOk P w K mg base CX0 3 f fd ["value"] sp_need_records := by
  refine F.ok sc_need_records (fun vs H Q E h => ?_) (fun cdv A outer s H vs Q E hr h => ?_)
  · obtain ⟨a, rs, rfl, _⟩ := h
    rfl
  · obtain ⟨a, rs, rfl, ⟨ps, ha, hp⟩, hl, k⟩ := h
    refine ⟨_, (pss_cons (ps_if (PW.pt (pw_or (pt_not (pt_val (pe_fn G_is_list (hr.mono (by decide)) rfl (pa_cons (pv 0) pa_nil)))) (pw_or1 (pt_cmpR op_gt (pe_callB call_len_seq (by rfl) T.b_len (by decide +kernel) (pa_cons (pv 0) pa_nil)) (pe_gint rfl T.MOST_ITEMS) (nomark _))))) pss_never pss_nil)
      (pss_one (ps_for PassesOwn.never rfl (pi_enum rfl T.b_enumerate (pa_cons (pv 0) pa_nil)) (pg_tup rfl (pgs_cons (pg_name (i := 1) sc_need_records.nd rfl (Or.inl rfl)) (pgs_cons (pg_name (i := 2) sc_need_records.nd rfl (Or.inl rfl)) pgs_nil))) (pss_one (ps_if (pt_not (pt_val (pe_fn G_is_record hr rfl (pa_cons (pv 2) pa_nil)))) pss_never pss_nil))))), ?_⟩
    refine ⟨_, rfl, a, _, rfl, ha, fun H1 s1 => ⟨_, rfl, iteF ?_⟩⟩
    refine ⟨_, rfl, a, _, rfl, .inl (s1.seq (SqL.of ha)), _, _, rfl, rfl, _, rfl, ?_⟩
    have hlen : (ps.map V.ref).length ≤ 200 := by
      rw [List.length_map, hp.length]
      exact hl
    rw [decide_eq_false (show ¬ (200 : Int) < ((ps.map V.ref).length : Int) by omega)]
    refine iteF ?_
    refine ⟨_, rfl, a, _, rfl, s1.seq (SqL.of ha), ?_⟩
    refine ⟨fun i m σ H' => m = (ps.map V.ref).length - i ∧ i ≤ (ps.map V.ref).length ∧ Same H1 H' ∧ ∃ u v, σ = [some (.ref a), u, v], ⟨_, rfl, Nat.zero_le _, Same.refl _, _, _, rfl⟩, ?_⟩
    rintro i m σ H' ⟨rfl, hi, s2, u, v, rfl⟩
    have s3 := s1.trans s2
    have hq : SqL K H' a (ps.map V.ref) := s3.seq (SqL.of ha)
    by_cases hlt : i < (ps.map V.ref).length
    · refine .inr ⟨⟨_, _, hq, List.getElem?_eq_getElem hlt⟩, fun σ' H'' => Same H1 H'' ∧ ∃ u v, σ' = [some (.ref a), u, v], fun σ' H'' ⟨z1, z2⟩ => ⟨_, by omega, rfl, hlt, z1, z2⟩, ?_⟩
      rintro x H'' ⟨Tp, y, rfl, hT, rfl, hx⟩
      have hy := hx _ hq
      obtain ⟨p, r, rfl, _, _, hr'⟩ := recs_item hp hy
      have hne : p ≠ Tp := ne_of_none (s3 _ _ hr') hT
      refine ⟨Tp, _, rfl, SqT.of upd_same, rfl, _, _, rfl, _, _, rfl, rfl, ?_⟩
      refine ⟨_, rfl, p, r, rfl, (by rw [upd_ne hne]; exact s3 _ _ hr'), _, rfl, iteF ?_⟩
      exact ⟨s2.trans (Same.new hT), _, _, rfl⟩
    · exact .inl ⟨⟨_, hq, by omega⟩, k _ s3⟩
end
end LF

namespace LF
open PySem PySem.Spec PyProof.Rows L2
section
variable {P : Program} {w : World} {K : PySem.W.Frag} {mg : Str → Option Value} {base : Heap}
/-! ### leapfit.fractions -/
structure SimpPre (lo hi : End) : Prop where
  loN : lo = none → below hi 0 1
  loS : ∀ x y, lo = some (x, y) → EndsOk x y hi ∧ sm B x ∧ sm B y
  hiS : ∀ x y, hi = some (x, y) → sm B x ∧ sm B y
def sp_simplest_rate : Sp := fun vs H Q _ => ∃ (lv hv : V) (lo hi : End), vs = [lv, hv] ∧ OptT H lv lo ∧ OptT H hv hi ∧ SimpPre lo hi ∧
  ∀ (p q : Int) (a : Addr) (H' : Hp), isSimp lo hi p q → Same H H' → H' a = some (.tup [.int p, .int q]) → Q (.ref a) H'
/-- what stands ahead of a turn -/
structure SLoop (lo hi : End) (a b : Int) (h : End) (ws : List Int) : Prop where
  ok : EndsOk a b h
  sa : sm B a
  sb : sm B b
  sh : ∀ c d, h = some (c, d) → sm B c ∧ sm B d
  els : ∀ v ∈ ws, sm B v
  to : ∀ P Q, isSimp (some (a, b)) h P Q → isSimp lo hi (back ws (P, Q)).1 (back ws (P, Q)).2
  few : ∀ c d, h = some (c, d) → ws = [] ∨ (b ≤ a ∧ 4 ^ (ws.length - 1) * (a * b * (c * d)) ≤ 2 ^ (4 * B))
theorem SLoop.start {a b : Int} {hi : End} (h : SimpPre (some (a, b)) hi) : SLoop (some (a, b)) hi a b hi [] :=
  ⟨(h.loS a b rfl).1, (h.loS a b rfl).2.1, (h.loS a b rfl).2.2, h.hiS, (fun _ z => by cases z), (fun _ _ z => z), fun _ _ _ => .inl rfl⟩
theorem SLoop.len {lo hi : End} {a b c d : Int} {ws : List Int} (h : SLoop lo hi a b (some (c, d)) ws) : ws.length ≤ 805 := by
  rcases h.few c d rfl with e | ⟨hab, hl⟩
  · rw [e]
    exact Nat.zero_le _
  · obtain ⟨ha, hb, hh⟩ := h.ok
    obtain ⟨hd, hlt⟩ := hh c d rfl
    have ha1 : 0 < a := by omega
    have hc1 : 0 < c := by
      rcases Int.lt_or_le 0 c with n | n
      · exact n
      · have h1 := Int.mul_nonpos_of_nonpos_of_nonneg n (Int.le_of_lt hb)
        have h2 := Int.mul_pos ha1 hd
        omega
    have h1 : 0 < a * b * (c * d) := Int.mul_pos (Int.mul_pos ha1 hb) (Int.mul_pos hc1 hd)
    have h2 : (0 : Int) < 4 ^ (ws.length - 1) := Int.pow_pos (by decide)
    have h3 : (4 : Int) ^ (ws.length - 1) * 1 ≤ 4 ^ (ws.length - 1) * (a * b * (c * d)) := Int.mul_le_mul_of_nonneg_left (by omega) (Int.le_of_lt h2)
    have h4 : (4 : Int) ^ (ws.length - 1) ≤ 2 ^ (4 * B) := by omega
    have e4 : (4 : Int) ^ (ws.length - 1) = 2 ^ (2 * (ws.length - 1)) := by
      rw [Int.pow_mul]
      rfl
    rw [e4] at h4
    have h5 : (2 : Nat) ^ (2 * (ws.length - 1)) ≤ 2 ^ (4 * B) := by
      have : ((2 ^ (2 * (ws.length - 1)) : Nat) : Int) ≤ ((2 ^ (4 * B) : Nat) : Int) := by simpa using h4
      exact Int.ofNat_le.mp this
    have h6 := (Nat.pow_le_pow_iff_right (show 1 < 2 by decide)).mp h5
    unfold B at h6
    omega
theorem SLoop.turn {lo hi : End} {a b c d w : Int} {ws : List Int} (h : SLoop lo hi a b (some (c, d)) ws) (hw : w = a / b) (hc : c ≤ (w + 1) * d) :
    SLoop lo hi d (c - w * d) (nextHi b (a - w * b)) (ws ++ [w]) := by
  have hn := next_ok h.ok hw hc
  obtain ⟨ha, hb, hh⟩ := h.ok
  obtain ⟨hd, hlt⟩ := hh c d rfl
  obtain ⟨sc, sd⟩ := h.sh c d rfl
  have hw0 : 0 ≤ w := by rw [hw]; exact Int.ediv_nonneg ha (Int.le_of_lt hb)
  have hpos := hn.2.1
  have hr0 : 0 ≤ a - w * b := by
    have := Int.ediv_mul_le a (show b ≠ 0 by omega)
    rw [hw]; omega
  have hwb : 0 ≤ w * b := Int.mul_nonneg hw0 (Int.le_of_lt hb)
  have hwd : 0 ≤ w * d := Int.mul_nonneg hw0 (Int.le_of_lt hd)
  have hbd : c - w * d ≤ d := by
    have : (w + 1) * d = w * d + d := by rw [Int.add_mul, Int.one_mul]
    omega
  have hwa : w ≤ a := by
    rw [hw]
    exact Int.ediv_le_self b ha
  refine ⟨hn, sd, sm_le sc (Int.le_of_lt hpos) (by omega), fun x y e => ?_, fun v hv => ?_, fun P Q hs => ?_, fun x y e => ?_⟩
  · unfold nextHi at e
    split at e
    · cases e
      exact ⟨h.sb, sm_le h.sa hr0 (by omega)⟩
    · cases e
  · rcases List.mem_append.mp hv with z | z
    · exact h.els v z
    · rw [List.mem_singleton.mp z]
      exact sm_le h.sa hw0 hwa
  · rw [back_snoc]
    exact h.to _ _ (simp_step h.ok hw hc hs)
  · refine .inr ⟨hbd, ?_⟩
    unfold nextHi at e
    split at e
    · rename_i hr
      cases e
      rw [List.length_append, List.length_singleton, Nat.add_sub_cancel]
      have e1 : d * (c - w * d) * (b * (a - w * b)) = d * (c - w * d) * (b * (a - w * b)) := rfl
      rcases h.few c d rfl with z | ⟨hab, hl⟩
      · rw [z]
        show 4 ^ 0 * (d * (c - w * d) * (b * (a - w * b))) ≤ 2 ^ (4 * B)
        rw [Int.pow_zero, Int.one_mul]
        have k1 : c - w * d < 2 ^ B := sm_lt (sm_le sc (Int.le_of_lt hpos) (by omega))
        have k2 : a - w * b < 2 ^ B := sm_lt (sm_le h.sa hr0 (by omega))
        have k3 : d < 2 ^ B := sm_lt sd
        have k4 : b < 2 ^ B := sm_lt h.sb
        have m1 : d * (c - w * d) ≤ 2 ^ B * 2 ^ B := Int.mul_le_mul (Int.le_of_lt k3) (Int.le_of_lt k1) (Int.le_of_lt hpos) (Int.le_of_lt (Int.pow_pos (by decide)))
        have m2 : b * (a - w * b) ≤ 2 ^ B * 2 ^ B := Int.mul_le_mul (Int.le_of_lt k4) (Int.le_of_lt k2) hr0 (Int.le_of_lt (Int.pow_pos (by decide)))
        have m0 : (0 : Int) ≤ 2 ^ B * 2 ^ B := Int.le_of_lt (Int.mul_pos (Int.pow_pos (by decide)) (Int.pow_pos (by decide)))
        have m3 : d * (c - w * d) * (b * (a - w * b)) ≤ 2 ^ B * 2 ^ B * (2 ^ B * 2 ^ B) := Int.mul_le_mul m1 m2 (Int.mul_nonneg (Int.le_of_lt hb) hr0) m0
        have e3 : (2 : Int) ^ B * 2 ^ B * (2 ^ B * 2 ^ B) = 2 ^ (4 * B) := by
          rw [← Int.pow_add, ← Int.pow_add]
          rfl
        omega
      · have hw1 : 1 ≤ w := by
          rw [hw]
          exact (Int.le_ediv_iff_mul_le hb).mpr (by omega)
        have q := quarter hb hd hpos hw hc hw1
        have hn0 : ws ≠ [] ∨ ws = [] := by
          cases ws with
          | nil => exact .inr rfl
          | cons _ _ => exact .inl (by intro z; cases z)
        rcases hn0 with hn0 | hn0
        · obtain ⟨k, hk⟩ : ∃ k, ws.length = k + 1 := by
            cases ws with
            | nil => exact absurd rfl hn0
            | cons _ r => exact ⟨r.length, rfl⟩
          rw [hk] at hl ⊢
          rw [Nat.add_sub_cancel] at hl
          have e5 : (4 : Int) ^ (k + 1) * (d * (c - w * d) * (b * (a - w * b))) = 4 ^ k * (4 * (d * (c - w * d) * (b * (a - w * b)))) := by
            rw [Int.pow_succ, Int.mul_assoc]
          rw [e5]
          have h2 : (0 : Int) ≤ 4 ^ k := Int.le_of_lt (Int.pow_pos (by decide))
          exact Int.le_trans (Int.mul_le_mul_of_nonneg_left q h2) hl
        · subst hn0
          rw [List.length_nil, Nat.zero_sub] at hl
          rw [List.length_nil]
          rw [Int.pow_zero, Int.one_mul] at hl ⊢
          have : 0 ≤ d * (c - w * d) * (b * (a - w * b)) := Int.mul_nonneg (Int.mul_nonneg (Int.le_of_lt hd) (Int.le_of_lt hpos)) (Int.mul_nonneg (Int.le_of_lt hb) hr0)
          omega
    · cases e
def sMeas (b : Int) (h : End) : Nat := match h with
  | some z => (b + z.2).toNat
  | none => 0
theorem sMeas_turn {a b c d w : Int} (h : EndsOk a b (some (c, d))) (hw : w = a / b) (hc : c ≤ (w + 1) * d) : sMeas (c - w * d) (nextHi b (a - w * b)) < sMeas b (some (c, d)) := by
  obtain ⟨ha, hb, hh⟩ := h
  obtain ⟨hd, hlt⟩ := hh c d rfl
  have hrb : a - w * b < b := by
    have := Int.lt_ediv_add_one_mul_self a hb
    rw [← hw, Int.add_mul] at this
    omega
  have hbd : c - w * d ≤ d := by
    have : (w + 1) * d = w * d + d := by rw [Int.add_mul, Int.one_mul]
    omega
  unfold nextHi
  split
  · show (c - w * d + (a - w * b)).toNat < (b + d).toNat
    omega
  · show 0 < (b + d).toNat
    omega
/-- the way back, sizes -/
theorem back_rev (ws : List Int) (z : Int × Int) : ws.reverse.foldl (fun z w => (w * z.1 + z.2, z.1)) z = back ws z := by
  unfold back
  rw [List.foldl_reverse]
theorem take_succ_foldl {α β : Type} (f : α → β → α) (z : α) {l : List β} {i : Nat} {x : β} (h : l[i]? = some x) : (l.take (i + 1)).foldl f z = f ((l.take i).foldl f z) x := by
  rw [List.take_add_one, h, List.foldl_append]
  rfl
/-- a pair of ints that stands at an address -/
theorem OptT.at_ {H : Hp} {v : V} {x y : Int} (h : OptT H v (some (x, y))) : ∃ p, v = .ref p ∧ H p = some (.tup [.int x, .int y]) := h
theorem sc_simplest_rate : FnScope ["low", "high", "wholes", "whole", "rest", "p", "q"] ["low", "high"] (defScope s_simplest_rate) := ⟨rfl, rfl, rfl, by decide +kernel, rfl, by decide +kernel, by decide +kernel⟩
theorem ok_simplest_rate {f : Addr} {fd : FuncData} (F : Fun K "simplest_rate" "simplest_rate" s_simplest_rate f fd) (T : Txt K mg) : FnOk P w K mg base CX0 1 f fd ["low", "high"] sp_simplest_rate := by
  refine F.ok sc_simplest_rate (fun vs H Q E h => ?_) (fun cdv A outer s H vs Q E hr h => ?_)
  · obtain ⟨lv, hv, lo, hi, rfl, _⟩ := h
    rfl
  · obtain ⟨lv, hv, lo, hi, rfl, hlo, hhi, pre, k⟩ := h
    refine ⟨_, (pss_cons (ps_if (pt_cmpR op_isN (pv 0) pe_non (nomark _)) (pss_one (ps_ret (pe_tup (pa_cons pe_int (pa_cons pe_int pa_nil))))) pss_nil)
      (pss_cons (ps_set (i := 2) sc_simplest_rate.nd rfl (Or.inl rfl) (pe_lst pa_nil))
      (pss_cons (ps_while PassesOwn.never (pt_val pe_bl) (pss_cons (ps_set (i := 3) sc_simplest_rate.nd rfl (Or.inl rfl) (pe_op op_fdivW (pe_ix ix_tup (pv 0) pe_int (fun _ _ => rfl)) (pe_ix ix_tup (pv 0) pe_int (fun _ _ => rfl))))
      (pss_cons (ps_if (PW.pt (pw_or (pt_cmpR op_isN (pv 1) pe_non (nomark _)) (pw_or1 (pt_cmpR op_lt (pe_op op_mulW (pe_op op_add (pv 3) pe_int) (pe_ix ix_tup (pv 1) pe_int (fun _ _ => rfl))) (pe_ix ix_tup (pv 1) pe_int (fun _ _ => rfl)) (nomark _))))) (pss_one ps_break) pss_nil)
      (pss_cons (ps_expr (pe_bm PySem.F.plainAttrs_list PySem.F.slot_list_append PySem.F.type_list_append mt_append (pv 2) (pa_cons (pv 3) pa_nil)))
      (pss_cons (ps_set (i := 4) sc_simplest_rate.nd rfl (Or.inl rfl) (pe_op op_sub (pe_ix ix_tup (pv 0) pe_int (fun _ _ => rfl)) (pe_op op_mulW (pv 3) (pe_ix ix_tup (pv 0) pe_int (fun _ _ => rfl)))))
      (pss_one (ps_par (i := 0) (j := 1) rfl sc_simplest_rate.nd rfl rfl (by decide) rfl rfl (pa_cons (pe_tup (pa_cons (pe_ix ix_tup (pv 1) pe_int (fun _ _ => rfl)) (pa_cons (pe_op op_sub (pe_ix ix_tup (pv 1) pe_int (fun _ _ => rfl)) (pe_op op_mulW (pv 3) (pe_ix ix_tup (pv 1) pe_int (fun _ _ => rfl)))) pa_nil))) (pa_cons (pe_ifExp (pt_cmpR op_gt (pv 4) pe_int (nomark _)) (pe_tup (pa_cons (pe_ix ix_tup (pv 0) pe_int (fun _ _ => rfl)) (pa_cons (pv 4) pa_nil))) pe_non) pa_nil)) (by rfl))))))))
      (pss_cons (ps_par (i := 5) (j := 6) rfl sc_simplest_rate.nd rfl rfl (by decide) rfl rfl (pa_cons (pe_op op_add (pv 3) pe_int) (pa_cons pe_int pa_nil)) (by rfl))
      (pss_cons (ps_for PassesOwn.never rfl (pi_list (pe_revL (pv 2))) (pg_name (i := 3) sc_simplest_rate.nd rfl (Or.inl rfl)) (pss_one (ps_par (i := 5) (j := 6) rfl sc_simplest_rate.nd rfl rfl (by decide) rfl rfl (pa_cons (pe_op op_add (pe_op op_mulW (pv 3) (pv 5)) (pv 6)) (pa_cons (pv 5) pa_nil)) (by rfl))))
      (pss_one (ps_ret (pe_tup (pa_cons (pv 5) (pa_cons (pv 6) pa_nil)))))))))), ?_⟩
    refine ⟨_, rfl, rfl, _, rfl, ?_⟩
    cases lo with
    | none =>
      obtain rfl : lv = .non := hlo
      refine iteD rfl ?_
      refine ⟨by show 2 ≤ sizeLine; decide, fun p hp => ?_⟩
      exact k 0 1 p _ (simp_none (pre.loN rfl)) (Same.new hp) upd_same
    | some z =>
      obtain ⟨a0, b0⟩ := z
      obtain ⟨lp, rfl, hl⟩ := hlo.at_
      refine iteDN (fun z => by cases z) ?_
      -- wholes = []
      refine ⟨Nat.zero_le _, fun wp hw => ?_⟩
      have hws : Same H (upd H wp (.lst [])) := Same.new hw
      -- while True
      refine st_while (fun m σ H' => ∃ (lv hv : V) (x3 x4 : Option V) (a b : Int) (h : End) (ws : List Int), σ = [some lv, some hv, some (.ref wp), x3, x4, none, none] ∧ m = sMeas b h ∧ OptT H' lv (some (a, b)) ∧ OptT H' hv h ∧
        H' wp = some (.lst (ws.map V.int)) ∧ Same H H' ∧ SLoop (some (a0, b0)) hi a b h ws ∧ ws.length ≤ 806)
        (fun σ H' => ∃ (lv hv : V) (x4 : Option V) (a b : Int) (h : End) (ws : List Int), σ = [some lv, some hv, some (.ref wp), some (.int (a / b)), x4, none, none] ∧
        H' wp = some (.lst (ws.map V.int)) ∧ Same H H' ∧ SLoop (some (a0, b0)) hi a b h ws ∧ ws.length ≤ 806 ∧ ∀ c d, h = some (c, d) → (a / b + 1) * d < c) _
        ⟨.ref lp, hv, none, none, a0, b0, hi, [], rfl, rfl, OptT.same hws ⟨lp, rfl, hl⟩, hhi.same hws, upd_same, hws, SLoop.start pre, Nat.zero_le _⟩ (fun _ _ _ _ => ans_val val_c) ?_ ?_
      · -- behind the loop
        rintro σ H' ⟨lv, hv, x4, a, b, h, ws, rfl, hW, s1, L, hlen, hbr⟩
        obtain ⟨ha, hb, hh⟩ := L.ok
        have hw0 : 0 ≤ a / b := Int.ediv_nonneg ha (Int.le_of_lt hb)
        have swh : sm B (a / b) := sm_le L.sa hw0 (Int.ediv_le_self b ha)
        -- p, q = whole + 1, 1
        refine ⟨_, rfl, _, _, rfl, rfl, _, _, rfl, ?_⟩
        -- for whole in wholes[::-1]
        refine ⟨_, rfl, wp, _, rfl, SqL.of hW, fun rp hrp => ?_⟩
        have s2 : Same H (upd H' rp (.lst (ws.map V.int).reverse)) := s1.trans (Same.new hrp)
        refine ⟨rp, rfl, ⟨_, SqL.of upd_same⟩, ?_⟩
        refine for_list (K := K) (a := rp) (xs := (ws.map V.int).reverse) (fun i σ H2 => ∃ (x : V) (z : Int × Int), σ = [some lv, some hv, some (.ref wp), some x, x4, some (.int z.1), some (.int z.2)] ∧ H2 = upd H' rp (.lst (ws.map V.int).reverse) ∧
          z = (ws.reverse.take i).foldl (fun z w => (w * z.1 + z.2, z.1)) (a / b + 1, 1) ∧ sm ((i + 1) * (B + 1)) z.1 ∧ sm ((i + 1) * (B + 1)) z.2)
          ⟨_, (a / b + 1, 1), rfl, rfl, rfl, sm_mono (sm_add swh (sm_one (by decide))) (by omega), sm_one (by omega)⟩ (fun i σ H2 _ ⟨_, _, _, e, _⟩ => by rw [e]; exact SqL.of upd_same) ?_ ?_
        · rintro i x σ H2 hx ⟨x0, z, rfl, rfl, ez, sz1, sz2⟩
          rw [← List.map_reverse, List.getElem?_map] at hx
          cases q : ws.reverse[i]? with
          | none => rw [q] at hx; cases hx
          | some v =>
            rw [q] at hx
            obtain rfl := Option.some.inj hx
            have hi : i < 806 := by
              have h1 := (List.getElem?_eq_some_iff.mp q).1
              rw [List.length_reverse] at h1
              omega
            have sv : sm B v := L.els v (List.mem_reverse.mp (List.mem_of_getElem? q))
            refine ⟨_, rfl, _, rfl, v, z.1, rfl, rfl, mulW sv sz1 (by unfold B; omega), _, rfl, _, _, rfl, rfl, _, rfl, _, _, rfl, ?_⟩
            refine ⟨_, (v * z.1 + z.2, z.1), rfl, rfl, ?_, ?_, ?_⟩
            · rw [take_succ_foldl _ _ q, ← ez]
            · have h1 := sm_mul sv sz1
              have h2 := sm_add (sm_mono h1 (Nat.le_refl _)) (sm_mono sz2 (Nat.le_add_left _ B))
              exact sm_mono h2 (by rw [Nat.succ_mul (i + 1)]; omega)
            · exact sm_mono sz1 (by rw [Nat.succ_mul (i + 1)]; omega)
        · rintro σ H2 ⟨x0, z, rfl, rfl, ez, _, _⟩
          have el : ws.reverse.take (ws.map V.int).reverse.length = ws.reverse := by
            rw [List.take_of_length_le]
            rw [List.length_reverse, List.length_reverse, List.length_map]
            exact Nat.le_refl _
          rw [el, back_rev] at ez
          refine ⟨_, rfl, _, rfl, (by show 2 ≤ sizeLine; decide), fun p hp => ?_⟩
          have hs := L.to _ _ (simp_base L.ok hbr)
          rw [← ez] at hs
          exact k z.1 z.2 p _ hs (s2.trans (Same.new hp)) upd_same
      · rintro N Bk m σ H' ⟨lv, hv, x3, x4, a, b, h, ws, rfl, rfl, h1, h2, hW, s1, L, hlen⟩ hN hB
        obtain ⟨lp', rfl, g1⟩ := h1.at_
        obtain ⟨ha, hb, hh⟩ := L.ok
        have hw0 : 0 ≤ a / b := Int.ediv_nonneg ha (Int.le_of_lt hb)
        have swh : sm B (a / b) := sm_le L.sa hw0 (Int.ediv_le_self b ha)
        -- whole = low[0] // low[1]
        refine ⟨_, rfl, lp', _, 0, _, rfl, rfl, SqT.of g1, at0, _, rfl, lp', _, 1, _, rfl, rfl, SqT.of g1, at1, a, b, rfl, rfl, divW hb L.sb (by decide), ?_⟩
        -- if high is None or (whole + 1) * high[1] < high[0]: break
        refine ⟨_, rfl, rfl, _, rfl, ?_⟩
        cases h with
        | none =>
          obtain rfl : hv = .non := h2
          refine iteD rfl ?_
          exact hB _ _ ⟨_, _, _, a, b, none, ws, rfl, hW, s1, L, hlen, fun _ _ z => by cases z⟩
        | some z =>
          obtain ⟨c, d⟩ := z
          obtain ⟨hp', rfl, g2⟩ := h2.at_
          obtain ⟨sc, sd⟩ := L.sh c d rfl
          obtain ⟨hd, hlt⟩ := hh c d rfl
          refine iteDN (fun z => by cases z) ?_
          refine ⟨_, rfl, _, _, rfl, rfl, _, rfl, hp', _, 1, _, rfl, rfl, SqT.of g2, at1, _, d, rfl, rfl, mulW (sm_add swh (sm_one (by decide))) sd (by decide), _, rfl, hp', _, 0, _, rfl, rfl, SqT.of g2, at0, _, c, rfl, rfl, _, rfl, ?_⟩
          refine ite2 (fun cc => ?_) (fun cc => ?_)
          · exact hB _ _ ⟨_, _, _, a, b, some (c, d), ws, rfl, hW, s1, L, hlen, fun c' d' z => by cases z; exact of_decide_eq_true cc⟩
          · have hc : c ≤ (a / b + 1) * d := by
              have : ¬ (a / b + 1) * d < c := fun z => cc (decide_eq_true z)
              omega
            have lenMax := L.len
            -- wholes.append(whole)
            refine ⟨_, rfl, .inl ⟨rfl, _, SqL.of hW⟩, _, rfl, wp, _, _, rfl, rfl, hW, ?_, ?_⟩
            · rw [List.length_map]
              exact small1000 (by omega)
            have nwl : lp' ≠ wp := ne_of g1 hW (by intro z; cases z)
            have nwh : hp' ≠ wp := ne_of g2 hW (by intro z; cases z)
            have g1' : (upd H' wp (.lst (ws.map V.int ++ [V.int (a / b)]))) lp' = some (.tup [.int a, .int b]) := by rw [upd_ne nwl]; exact g1
            have g2' : (upd H' wp (.lst (ws.map V.int ++ [V.int (a / b)]))) hp' = some (.tup [.int c, .int d]) := by rw [upd_ne nwh]; exact g2
            have s2 : Same H (upd H' wp (.lst (ws.map V.int ++ [V.int (a / b)]))) := fun x o e => by
              rw [upd_ne (ne_of_none e hw)]
              exact s1 x o e
            have hW' : (upd H' wp (.lst (ws.map V.int ++ [V.int (a / b)]))) wp = some (.lst ((ws ++ [a / b]).map V.int)) := by
              rw [upd_same, List.map_append]
              rfl
            generalize upd H' wp (.lst (ws.map V.int ++ [V.int (a / b)])) = H3 at g1' g2' s2 hW'
            -- rest = low[0] - whole * low[1]
            refine ⟨_, rfl, lp', _, 0, _, rfl, rfl, SqT.of g1', at0, _, rfl, _, rfl, lp', _, 1, _, rfl, rfl, SqT.of g1', at1, _, b, rfl, rfl, mulW swh L.sb (by decide), a, _, rfl, rfl, ?_⟩
            -- low, high = (high[1], high[0] - whole * high[1]), (low[1], rest) if rest > 0 else None
            refine ⟨_, rfl, hp', _, 1, _, rfl, rfl, SqT.of g2', at1, _, rfl, hp', _, 0, _, rfl, rfl, SqT.of g2', at0, _, rfl, _, rfl, hp', _, 1, _, rfl, rfl, SqT.of g2', at1, _, d, rfl, rfl, mulW swh sd (by decide), c, _, rfl, rfl, (by show 2 ≤ sizeLine; decide), fun q1 hq1 => ?_⟩
            have n1 : lp' ≠ q1 := ne_of_none g1' hq1
            have L2 := L.turn rfl hc
            have ms := sMeas_turn L.ok rfl hc
            refine ⟨_, rfl, _, _, rfl, rfl, _, rfl, ?_⟩
            have hlen' : (ws ++ [a / b]).length ≤ 806 := by
              rw [List.length_append, List.length_singleton]
              omega
            refine ite2 (fun cr => ?_) (fun cr => ?_)
            · have hr0 : 0 < a - a / b * b := of_decide_eq_true cr
              have en : nextHi b (a - a / b * b) = some (b, a - a / b * b) := by
                unfold nextHi
                rw [if_pos hr0]
              rw [en] at L2 ms
              refine ⟨_, rfl, lp', _, 1, _, rfl, rfl, SqT.of (by rw [upd_ne n1]; exact g1'), at1, _, rfl, (by show 2 ≤ sizeLine; decide), fun q2 hq2 => ?_⟩
              have n2 : q1 ≠ q2 := ne_of_none upd_same hq2
              have nq1 : wp ≠ q1 := ne_of_none hW' hq1
              have nq2 : wp ≠ q2 := ne_of_none (by rw [upd_ne nq1]; exact hW') hq2
              refine ⟨_, _, rfl, ?_⟩
              refine hN _ _ _ ms ⟨.ref q1, .ref q2, _, _, d, c - a / b * d, some (b, a - a / b * b), ws ++ [a / b], rfl, rfl, ⟨q1, rfl, by rw [upd_ne n2, upd_same]⟩, ⟨q2, rfl, upd_same⟩, ?_, (s2.trans (Same.new hq1)).trans (Same.new hq2), L2, hlen'⟩
              rw [upd_ne nq2, upd_ne nq1]
              exact hW'
            · have hr0 : ¬ 0 < a - a / b * b := fun z => cr (decide_eq_true z)
              have en : nextHi b (a - a / b * b) = none := by
                unfold nextHi
                rw [if_neg hr0]
              rw [en] at L2 ms
              have nq1 : wp ≠ q1 := ne_of_none hW' hq1
              refine ⟨_, _, rfl, ?_⟩
              refine hN _ _ _ ms ⟨.ref q1, .non, _, _, d, c - a / b * d, none, ws ++ [a / b], rfl, rfl, ⟨q1, rfl, upd_same⟩, rfl, ?_, s2.trans (Same.new hq1), L2, hlen'⟩
              rw [upd_ne nq1]
              exact hW'
end
end LF

namespace LF
open PySem PySem.Spec PyProof.Rows L2
section
variable {P : Program} {w : World} {K : PySem.W.Frag} {mg : Str → Option Value} {base : Heap}
/-! ### simplest_between; leapfit.fitting: lowest_terms, is_less -/
/-- two rates with a rate between them -/
structure BetwPre (lo hi : End) : Prop where
  loS : ∀ x y, lo = some (x, y) → 0 ≤ x ∧ 0 < y ∧ Int.gcd x y = 1 ∧ sm B x ∧ sm B y
  hiS : ∀ x y, hi = some (x, y) → 0 ≤ x ∧ 0 < y ∧ Int.gcd x y = 1 ∧ sm B x ∧ sm B y
  mid : ∃ P Q, 0 ≤ P ∧ 0 < Q ∧ inside lo hi P Q
theorem BetwPre.lt {a b c d : Int} (h : BetwPre (some (a, b)) (some (c, d))) : a * d < c * b := by
  obtain ⟨P, Q, hP, hQ, h1, h2⟩ := h.mid
  have k1 := h1 a b rfl
  have k2 := h2 c d rfl
  obtain ⟨_, hb, _⟩ := h.loS a b rfl
  obtain ⟨_, hd, _⟩ := h.hiS c d rfl
  exact less_trans (u := (a, b)) (v := (P, Q)) (w := (c, d)) hb hQ hd k1 (fun z => by unfold less at z; simp only at z; omega)
theorem BetwPre.lt0 {c d : Int} (h : BetwPre none (some (c, d))) : 0 < c := by
  obtain ⟨P, Q, hP, hQ, h1, h2⟩ := h.mid
  have k2 := below_none_of hP hQ (fun x y e => (h.hiS x y e).2.1) h2
  have := k2 c d rfl
  omega
theorem BetwPre.simp {lo hi : End} (h : BetwPre lo hi) : SimpPre lo hi := by
  refine ⟨fun e => ?_, fun x y e => ?_, fun x y e => ?_⟩
  · obtain ⟨P, Q, hP, hQ, h1, h2⟩ := h.mid
    exact below_none_of hP hQ (fun x y e => (h.hiS x y e).2.1) h2
  · obtain ⟨h1, h2, h3, h4, h5⟩ := h.loS x y e
    refine ⟨⟨h1, h2, fun c d e2 => ?_⟩, h4, h5⟩
    obtain ⟨k1, k2, _⟩ := h.hiS c d e2
    subst e e2
    exact ⟨k2, h.lt⟩
  · obtain ⟨_, _, _, h4, h5⟩ := h.hiS x y e
    exact ⟨h4, h5⟩
def sp_simplest_between : Sp := fun vs H Q _ => ∃ (lv hv : V) (lo hi : End), vs = [lv, hv] ∧ OptT H lv lo ∧ OptT H hv hi ∧ BetwPre lo hi ∧
  ∀ (p q : Int) (a : Addr) (H' : Hp), isSimp lo hi p q → Same H H' → H' a = some (.tup [.int p, .int q]) → Q (.ref a) H'
def sp_lowest_terms : Sp := fun vs H Q _ => ∃ t b : Int, vs = [.int t, .int b] ∧ 0 < b ∧ sm (B + 2) b ∧ ∀ (a : Addr) (H' : Hp), Same H H' → H' a = some (.tup [.int (lowT (t, b)).1, .int (lowT (t, b)).2]) → Q (.ref a) H'
def sp_is_less : Sp := fun vs H Q _ => ∃ (a b : Addr) (x y : Int × Int), vs = [.ref a, .ref b] ∧ H a = some (.tup [.int x.1, .int x.2]) ∧ H b = some (.tup [.int y.1, .int y.2]) ∧ sm (B + 2) x.1 ∧ sm (B + 2) x.2 ∧ sm (B + 2) y.1 ∧ sm (B + 2) y.2 ∧ Q (.bl (decide (less x y))) H
theorem sc_simplest_between : FnScope ["low", "high", "value", "least"] ["low", "high"] (defScope s_simplest_between) := ⟨rfl, rfl, rfl, by decide +kernel, rfl, by decide +kernel, by decide +kernel⟩
theorem ok_simplest_between {f : Addr} {fd : FuncData} (F : Fun K "simplest_between" "simplest_between" s_simplest_between f fd) (T : Txt K mg) (G_is_rate : Cal P w K mg base 3 "is_rate" ["value"] sp_is_rate)
    (G_simplest_rate : Cal P w K mg base 1 "simplest_rate" ["low", "high"] sp_simplest_rate) : FnOk P w K mg base CX0 4 f fd ["low", "high"] sp_simplest_between := by
  refine F.ok sc_simplest_between (fun vs H Q E h => ?_) (fun cdv A outer s H vs Q E hr h => ?_)
  · obtain ⟨lv, hv, lo, hi, rfl, _⟩ := h
    rfl
  · obtain ⟨lv, hv, lo, hi, rfl, hlo, hhi, pre, k⟩ := h
    refine ⟨_, (pss_cons (ps_for PassesOwn.never rfl (pi_tup (pe_tup (pa_cons (pv 0) (pa_cons (pv 1) pa_nil)))) (pg_name (i := 2) sc_simplest_between.nd rfl (Or.inl rfl)) (pss_one (ps_if (PW.pt (pw_and (pt_cmpR op_notN (pv 2) pe_non (nomark _)) (pw_and1 (pt_not (pt_val (pe_fn G_is_rate hr rfl (pa_cons (pv 2) pa_nil))))))) pss_never pss_nil)))
      (pss_cons (ps_set (i := 3) sc_simplest_between.nd rfl (Or.inl rfl) (pe_ifExp (pt_cmpR op_isN (pv 0) pe_non (nomark _)) (pe_tup (pa_cons pe_int (pa_cons pe_int pa_nil))) (pv 0)))
      (pss_cons (ps_if (PW.pt (pw_and (pt_cmpR op_notN (pv 1) pe_non (nomark _)) (pw_and1 (pt_cmpR op_le (pe_op op_mulW (pe_ix ix_tup (pv 1) pe_int (fun _ _ => rfl)) (pe_ix ix_tup (pv 3) pe_int (fun _ _ => rfl))) (pe_op op_mulW (pe_ix ix_tup (pv 3) pe_int (fun _ _ => rfl)) (pe_ix ix_tup (pv 1) pe_int (fun _ _ => rfl))) (nomark _))))) pss_never pss_nil)
      (pss_one (ps_ret (pe_fn G_simplest_rate (hr.mono (by decide)) rfl (pa_cons (pv 0) (pa_cons (pv 1) pa_nil)))))))), ?_⟩
    -- for value in (low, high)
    refine ⟨_, rfl, _, rfl, (by show 2 ≤ sizeLine; decide), fun tp htp => ?_⟩
    refine ⟨tp, rfl, ⟨_, SqT.of upd_same⟩, ?_⟩
    have s0 : Same H (upd H tp (.tup [lv, hv])) := Same.new htp
    refine for_tup (K := K) (a := tp) (xs := [lv, hv]) (fun i σ H2 => Same (upd H tp (.tup [lv, hv])) H2 ∧ ∃ x, σ = [some lv, some hv, x, none]) ⟨Same.refl _, _, rfl⟩ (fun i σ H2 _ ⟨s2, _⟩ => Same.tup s2 (SqT.of upd_same)) ?_ ?_
    · rintro i x σ H2 hx ⟨s2, x0, rfl⟩
      have sH : Same H H2 := s0.trans s2
      have hi2 : i < 2 := (List.getElem?_eq_some_iff.mp hx).1
      obtain ⟨o, ho, hb⟩ : ∃ o, OptT H2 x o ∧ (∀ a b, o = some (a, b) → 0 ≤ a ∧ 0 < b ∧ Int.gcd a b = 1 ∧ sm B a ∧ sm B b) := by
        match i, hx with
        | 0, hx =>
          obtain rfl : lv = x := Option.some.inj hx
          exact ⟨lo, hlo.same sH, pre.loS⟩
        | 1, hx =>
          obtain rfl : hv = x := Option.some.inj hx
          exact ⟨hi, hhi.same sH, pre.hiS⟩
      refine ⟨_, rfl, rfl, _, rfl, ?_⟩
      cases o with
      | none =>
        obtain rfl : x = .non := ho
        refine iteNS rfl ?_
        exact iteF ⟨s2, _, rfl⟩
      | some z =>
        obtain ⟨a, b⟩ := z
        obtain ⟨p, rfl, hp⟩ := ho.at_
        obtain ⟨h1, h2, h3, _⟩ := hb a b rfl
        refine iteND (fun z => by cases z) ?_
        refine ⟨_, rfl, p, a, b, rfl, hp, h1, h2, h3, fun H3 s3 => ⟨_, rfl, iteF ⟨s2.trans s3, _, rfl⟩⟩⟩
    · rintro σ H2 ⟨s2, x0, rfl⟩
      have sH : Same H H2 := s0.trans s2
      -- least = (0, 1) if low is None else low
      refine ⟨_, rfl, rfl, _, rfl, ?_⟩
      cases lo with
      | none =>
        obtain rfl : lv = .non := hlo
        refine iteD rfl ?_
        refine ⟨by show 2 ≤ sizeLine; decide, fun lp hlp => ?_⟩
        have s3 := sH.trans (Same.new (o := .tup [.int 0, .int 1]) hlp)
        refine ⟨_, rfl, rfl, _, rfl, ?_⟩
        cases hi with
        | none =>
          obtain rfl : hv = .non := hhi
          refine iteNS rfl (iteF ?_)
          exact ⟨_, rfl, _, rfl, .non, .non, none, none, rfl, rfl, rfl, pre.simp, fun p q a H' h1 h2 h3 => k p q a H' h1 (s3.trans h2) h3⟩
        | some z =>
          obtain ⟨c, d⟩ := z
          obtain ⟨hp, rfl, h2⟩ := hhi.at_
          obtain ⟨k1, k2, k3, k4, k5⟩ := pre.hiS c d rfl
          refine iteND (fun z => by cases z) ?_
          have h2' := s3 _ _ h2
          refine ⟨_, rfl, hp, _, 0, _, rfl, rfl, SqT.of h2', at0, _, rfl, lp, _, 1, _, rfl, rfl, SqT.of upd_same, at1, c, 1, rfl, rfl, mulW k4 (sm_one (a := 1) (by decide)) (by decide), _, rfl, lp, _, 0, _, rfl, rfl, SqT.of upd_same, at0, _, rfl, hp, _, 1, _, rfl, rfl, SqT.of h2', at1, 0, d, rfl, rfl, mulW (a := 1) (show sm 1 0 by unfold sm; decide) k5 (by decide), _, _, rfl, rfl, _, rfl, ?_⟩
          refine iteDN (by have := pre.lt0; omega) ?_
          exact ⟨_, rfl, _, rfl, .non, .ref hp, none, some (c, d), rfl, rfl, ⟨hp, rfl, h2'⟩, pre.simp, fun p q a H' h1 h2 h3 => k p q a H' h1 (s3.trans h2) h3⟩
      | some z =>
        obtain ⟨a, b⟩ := z
        obtain ⟨lp, rfl, g1⟩ := hlo.at_
        obtain ⟨j1, j2, j3, j4, j5⟩ := pre.loS a b rfl
        refine iteDN (fun z => by cases z) ?_
        refine ⟨_, rfl, _, rfl, rfl, _, rfl, ?_⟩
        cases hi with
        | none =>
          obtain rfl : hv = .non := hhi
          refine iteNS rfl (iteF ?_)
          exact ⟨_, rfl, _, rfl, .ref lp, .non, some (a, b), none, rfl, ⟨lp, rfl, sH _ _ g1⟩, rfl, pre.simp, fun p q a H' h1 h2 h3 => k p q a H' h1 (sH.trans h2) h3⟩
        | some z =>
          obtain ⟨c, d⟩ := z
          obtain ⟨hp, rfl, h2⟩ := hhi.at_
          obtain ⟨k1, k2, k3, k4, k5⟩ := pre.hiS c d rfl
          refine iteND (fun z => by cases z) ?_
          have h2' := sH _ _ h2
          have g1' := sH _ _ g1
          refine ⟨_, rfl, hp, _, 0, _, rfl, rfl, SqT.of h2', at0, _, rfl, lp, _, 1, _, rfl, rfl, SqT.of g1', at1, c, b, rfl, rfl, mulW k4 j5 (by decide), _, rfl, lp, _, 0, _, rfl, rfl, SqT.of g1', at0, _, rfl, hp, _, 1, _, rfl, rfl, SqT.of h2', at1, a, d, rfl, rfl, mulW j4 k5 (by decide), _, _, rfl, rfl, _, rfl, ?_⟩
          refine iteDN (by have := pre.lt; omega) ?_
          exact ⟨_, rfl, _, rfl, .ref lp, .ref hp, some (a, b), some (c, d), rfl, ⟨lp, rfl, g1'⟩, ⟨hp, rfl, h2'⟩, pre.simp, fun p q a H' h1 h2 h3 => k p q a H' h1 (sH.trans h2) h3⟩
theorem gcd_abs {t b : Int} : Int.gcd (if t < 0 then -t else t) b = Int.gcd t b := by
  split
  · exact Int.neg_gcd
  · rfl
theorem sc_lowest_terms : FnScope ["top", "bottom", "divisor"] ["top", "bottom"] (defScope s_lowest_terms) := ⟨rfl, rfl, rfl, by decide +kernel, rfl, by decide +kernel, by decide +kernel⟩
theorem ok_lowest_terms {f : Addr} {fd : FuncData} (F : Fun K "lowest_terms" "lowest_terms" s_lowest_terms f fd) (T : Txt K mg) (G_common_divisor : Cal P w K mg base 1 "common_divisor" ["one", "other"] sp_common_divisor) :
    FnOk P w K mg base CX0 2 f fd ["top", "bottom"] sp_lowest_terms := by
  refine F.ok sc_lowest_terms (fun vs H Q E h => ?_) (fun cdv A outer s H vs Q E hr h => ?_)
  · obtain ⟨t, b, rfl, _⟩ := h
    rfl
  · obtain ⟨t, b, rfl, hb, sb, k⟩ := h
    refine ⟨_, (pss_cons (ps_set (i := 2) sc_lowest_terms.nd rfl (Or.inl rfl) (pe_fn G_common_divisor hr rfl (pa_cons (pe_callB call_abs (by rfl) T.b_abs (by decide +kernel) (pa_cons (pv 0) pa_nil)) (pa_cons (pv 1) pa_nil))))
      (pss_one (ps_ret (pe_tup (pa_cons (pe_op op_fdivW (pv 0) (pv 2)) (pa_cons (pe_op op_fdivW (pv 1) (pv 2)) pa_nil)))))), ?_⟩
    have hg : (0 : Int) < (Int.gcd t b : Nat) := by
      have := Int.gcd_pos_of_ne_zero_right t (show b ≠ 0 by omega)
      omega
    have hgb : ((Int.gcd t b : Nat) : Int) ≤ b := Int.le_of_dvd hb (Int.gcd_dvd_right ..)
    have sg : sm (B + 2) (Int.gcd t b : Nat) := sm_le sb (Int.le_of_lt hg) hgb
    refine ⟨_, rfl, t, rfl, _, rfl, _, b, rfl, (by split <;> omega), Int.le_of_lt hb, ?_⟩
    rw [gcd_abs]
    refine ⟨_, rfl, _, rfl, t, _, rfl, rfl, divW hg sg (by decide), _, rfl, _, rfl, b, _, rfl, rfl, divW hg sg (by decide), (by show 2 ≤ sizeLine; decide), fun p hp => ?_⟩
    exact k p _ (Same.new hp) upd_same
theorem sc_is_less : FnScope ["one", "other"] ["one", "other"] (defScope s_is_less) := ⟨rfl, rfl, rfl, by decide +kernel, rfl, by decide +kernel, by decide +kernel⟩
theorem ok_is_less {f : Addr} {fd : FuncData} (F : Fun K "is_less" "is_less" s_is_less f fd) (T : Txt K mg) : FnOk P w K mg base CX0 1 f fd ["one", "other"] sp_is_less := by
  refine F.ok sc_is_less (fun vs H Q E h => ?_) (fun cdv A outer s H vs Q E hr h => ?_)
  · obtain ⟨a, b, x, y, rfl, _⟩ := h
    rfl
  · obtain ⟨a, b, x, y, rfl, ha, hb, h1, h2, h3, h4, k⟩ := h
    refine ⟨_, (pss_one (ps_ret (pe_cmpR op_lt (pe_op op_mulW (pe_ix ix_tup (pv 0) pe_int (fun _ _ => rfl)) (pe_ix ix_tup (pv 1) pe_int (fun _ _ => rfl))) (pe_op op_mulW (pe_ix ix_tup (pv 1) pe_int (fun _ _ => rfl)) (pe_ix ix_tup (pv 0) pe_int (fun _ _ => rfl))) (nomark _)))), ?_⟩
    refine ⟨_, rfl, a, _, 0, _, rfl, rfl, SqT.of ha, at0, _, rfl, b, _, 1, _, rfl, rfl, SqT.of hb, at1, _, _, rfl, rfl, mulW h1 h4 (by decide), _, rfl, b, _, 0, _, rfl, rfl, SqT.of hb, at0, _, rfl, a, _, 1, _, rfl, rfl, SqT.of ha, at1, _, _, rfl, rfl, mulW h3 h2 (by decide), _, _, rfl, rfl, ?_⟩
    exact k
end
end LF

namespace LF
open PySem PySem.Spec PyProof.Rows L2
section
variable {P : Program} {w : World} {K : PySem.W.Frag} {mg : Str → Option Value} {base : Heap}
/-! ### leapfit.fitting: RateBounds -/
abbrev cRB (K : PySem.W.Frag) : Addr := He.ga K "RateBounds"
def rbF (lv lp hv hp : V) : List (Str × V) := [("low", lv), ("low_pair", lp), ("high", hv), ("high_pair", hp), ("clash", .non)]
theorem rb_low {lv lp hv hp : V} : (rbF lv lp hv hp).lookup ("low" : Str) = some lv := by kernel_rfl
theorem rb_high {lv lp hv hp : V} : (rbF lv lp hv hp).lookup ("high" : Str) = some hv := by kernel_rfl
theorem rb_clash {lv lp hv hp : V} : (rbF lv lp hv hp).lookup ("clash" : Str) = some V.non := by kernel_rfl
theorem rb_tighten {lv lp hv hp : V} : (rbF lv lp hv hp).lookup ("tighten" : Str) = none := by kernel_rfl
theorem rb_is_empty {lv lp hv hp : V} : (rbF lv lp hv hp).lookup ("is_empty" : Str) = none := by kernel_rfl
theorem rb_ends {lv lp hv hp : V} : (rbF lv lp hv hp).lookup ("ends" : Str) = none := by kernel_rfl
theorem rb_put_low {lv lp hv hp v : V} : putF "low" v (rbF lv lp hv hp) = rbF v lp hv hp := by kernel_rfl
theorem rb_put_low_pair {lv lp hv hp v : V} : putF "low_pair" v (rbF lv lp hv hp) = rbF lv v hv hp := by kernel_rfl
theorem rb_put_high {lv lp hv hp v : V} : putF "high" v (rbF lv lp hv hp) = rbF lv lp v hp := by kernel_rfl
theorem rb_put_high_pair {lv lp hv hp v : V} : putF "high_pair" v (rbF lv lp hv hp) = rbF lv lp hv v := by kernel_rfl
theorem rb_make : putF "clash" V.non (putF "high_pair" V.non (putF "high" V.non (putF "low_pair" V.non (putF "low" V.non [])))) = rbF .non .non .non .non := by kernel_rfl
theorem rb_len {lv lp hv hp : V} : (rbF lv lp hv hp).length < 1000 := by show 5 < 1000; decide
def RBAt (C : Addr) (H : Hp) (p : Addr) (lo hi : End) : Prop := ∃ (dx : Addr) (lv lp hv hp : V), H p = some (.ins C dx (rbF lv lp hv hp)) ∧ OptT H lv lo ∧ OptT H hv hi
/-- all but the object at p stands -/
def KeepP (p : Addr) (H H' : Hp) : Prop := ∀ c o, H c = some o → c ≠ p → H' c = some o
theorem KeepP.refl (p : Addr) (H : Hp) : KeepP p H H := fun _ _ e _ => e
theorem KeepP.trans {p : Addr} {H H1 H2 : Hp} (a : KeepP p H H1) (b : KeepP p H1 H2) : KeepP p H H2 := fun c o e n => b c o (a c o e n) n
theorem KeepP.of {p : Addr} {H H' : Hp} (a : Same H H') : KeepP p H H' := fun c o e _ => a c o e
theorem KeepP.put {p : Addr} {H : Hp} {o : HO} : KeepP p H (upd H p o) := fun c o e n => by rw [upd_ne n]; exact e
theorem KeepP.t {p q C dx : Addr} {fs : List (Str × V)} {H H' : Hp} {xs : List V} (k : KeepP p H H') (hp : H p = some (.ins C dx fs)) (h : H q = some (.tup xs)) : H' q = some (.tup xs) :=
  k _ _ h (ne_of h hp (by intro z; cases z))
theorem KeepP.l {p q C dx : Addr} {fs : List (Str × V)} {H H' : Hp} {xs : List V} (k : KeepP p H H') (hp : H p = some (.ins C dx fs)) (h : H q = some (.lst xs)) : H' q = some (.lst xs) :=
  k _ _ h (ne_of h hp (by intro z; cases z))
theorem KeepP.opt {p C dx : Addr} {fs : List (Str × V)} {H H' : Hp} {v : V} {o : End} (k : KeepP p H H') (hp : H p = some (.ins C dx fs)) (h : OptT H v o) : OptT H' v o := by
  cases o with
  | none => exact h
  | some z =>
    obtain ⟨q, e, h⟩ := h
    exact ⟨q, e, k.t hp h⟩
/-- sizes of an end -/
def szE (o : End) : Prop := ∀ z, o = some z → sm B z.1 ∧ sm B z.2
theorem szE_none : szE none := fun _ z => by cases z
theorem szE_some {x y : Int} (h1 : sm B x) (h2 : sm B y) : szE (some (x, y)) := fun z e => by cases e; exact ⟨h1, h2⟩
theorem room_sm {a b : R} (ha : okR a) (hb : okR b) : sm B (room a b) := sm_sub (sm_add hb.2 (sm_one (by decide))) (sm_mono ha.2 (by decide))
theorem dist_sm {a b : R} (ha : okR a) (hb : okR b) : sm B (dist a b) := sm_mono (sm_sub hb.1 ha.1) (by decide)
theorem neg_sm {x : Int} (h : sm B x) : sm B (0 - x) := by
  unfold sm at *
  omega
theorem upB {x : Int} (h : sm B x) : sm (B + 2) x := sm_mono h (by decide)
def sp_RateBounds_tighten (C : Addr) : Sp := fun vs H Q _ => ∃ (p : Addr) (pr : V) (x y : Addr) (a b : R) (lo hi : End) (Pd : R → R → Prop), vs = [.ref p, pr, .ref x, .ref y] ∧ RBAt C H p lo hi ∧ H x = some (.tup (recT a)) ∧ H y = some (.tup (recT b)) ∧
  okR a ∧ okR b ∧ BInv Pd lo hi ∧ szE lo ∧ szE hi ∧ (dist a b = 0 → 0 < room a b) ∧
  ∀ (H' : Hp) (lo' hi' : End), BInv (fun a' b' => Pd a' b' ∨ (a' = a ∧ b' = b)) lo' hi' → szE lo' → szE hi' → RBAt C H' p lo' hi' → KeepP p H H' → Q .non H'
theorem sc_RateBounds_tighten : FnScope ["self", "pair", "one", "other", "room", "distance"] ["self", "pair", "one", "other"] (defScope s_RateBounds_tighten) := ⟨rfl, rfl, rfl, by decide +kernel, rfl, by decide +kernel, by decide +kernel⟩
theorem ok_RateBounds_tighten {f : Addr} {fd : FuncData} (F : Fun K "tighten" "RateBounds.tighten" s_RateBounds_tighten f fd) (T : Txt K mg) (G_is_less : Cal P w K mg base 1 "is_less" ["one", "other"] sp_is_less) :
    FnOk P w K mg base CX0 2 f fd ["self", "pair", "one", "other"] (sp_RateBounds_tighten (cRB K)) := by
  refine F.ok sc_RateBounds_tighten (fun vs H Q E h => ?_) (fun cdv A outer s H vs Q E hr h => ?_)
  · obtain ⟨p, pr, x, y, a, b, lo, hi, Pd, rfl, _⟩ := h
    rfl
  · obtain ⟨p, pr, x, y, a, b, lo, hi, Pd, rfl, ⟨dx, lv, lp, hv, hp, h1, hlo, hhi⟩, hx, hy, oa, ob, I, slo, shi, hcl, k⟩ := h
    refine ⟨_, (pss_cons (ps_par (i := 4) (j := 5) rfl sc_RateBounds_tighten.nd rfl rfl (by decide) rfl rfl (pa_cons (pe_op op_sub (pe_op op_add (pe_ix ix_tup (pv 3) pe_int (fun _ _ => rfl)) pe_int) (pe_ix ix_tup (pv 2) pe_int (fun _ _ => rfl))) (pa_cons (pe_op op_sub (pe_ix ix_tup (pv 3) pe_int (fun _ _ => rfl)) (pe_ix ix_tup (pv 2) pe_int (fun _ _ => rfl))) pa_nil)) (by rfl))
      (pss_one (ps_if (pt_cmpR op_eq (pv 5) pe_int (nomark _)) (pss_one (ps_if (pt_cmpR op_le (pv 4) pe_int (nomark _)) (pss_one (ps_fld (pv 0) (pv 1) rfl)) pss_nil)) (pss_one (ps_if (pt_cmpR op_gt (pv 5) pe_int (nomark _)) (pss_one (ps_if (PW.pt (pw_or (pt_cmpR op_isN (pe_fld (pv 0) rfl) pe_non (nomark _)) (pw_or1 (pt_val (pe_fn G_is_less hr rfl (pa_cons (pe_tup (pa_cons (pv 4) (pa_cons (pv 5) pa_nil))) (pa_cons (pe_fld (pv 0) rfl) pa_nil))))))) (pss_cons (ps_fld (pv 0) (pe_tup (pa_cons (pv 4) (pa_cons (pv 5) pa_nil))) rfl)
      (pss_one (ps_fld (pv 0) (pv 1) rfl))) pss_nil)) (pss_one (ps_if (PW.pt (pw_or (pt_cmpR op_isN (pe_fld (pv 0) rfl) pe_non (nomark _)) (pw_or1 (pt_val (pe_fn G_is_less hr rfl (pa_cons (pe_fld (pv 0) rfl) (pa_cons (pe_tup (pa_cons (pe_op op_sub pe_int (pv 4)) (pa_cons (pe_op op_sub pe_int (pv 5)) pa_nil))) pa_nil))))))) (pss_cons (ps_fld (pv 0) (pe_tup (pa_cons (pe_op op_sub pe_int (pv 4)) (pa_cons (pe_op op_sub pe_int (pv 5)) pa_nil))) rfl)
      (pss_one (ps_fld (pv 0) (pv 1) rfl))) pss_nil))))))), ?_⟩
    have srm := room_sm oa ob
    have sds := dist_sm oa ob
    -- room, distance = other[2] + 1 - one[2], other[1] - one[1]
    refine ⟨_, rfl, y, _, 2, _, rfl, rfl, SqT.of hy, at2, _, _, rfl, rfl, _, rfl, x, _, 2, _, rfl, rfl, SqT.of hx, at2, _, _, rfl, rfl, _, rfl, y, _, 1, _, rfl, rfl, SqT.of hy, at1, _, rfl, x, _, 1, _, rfl, rfl, SqT.of hx, at1, _, _, rfl, rfl, _, _, rfl, ?_⟩
    -- if distance == 0
    refine ⟨_, rfl, rfl, _, rfl, ?_⟩
    refine ite2 (fun c => ?_) (fun c => ?_)
    · have hd0 : dist a b = 0 := by
        have h := of_decide_eq_true c
        injection h
      have hr0 := hcl hd0
      refine ⟨_, rfl, _, _, rfl, rfl, _, rfl, ?_⟩
      refine iteDN (by unfold room at hr0; omega) ?_
      exact k H lo hi (I.zero hd0) slo shi ⟨dx, lv, lp, hv, hp, h1, hlo, hhi⟩ (KeepP.refl _ _)
    · have hd0 : dist a b ≠ 0 := fun z => c (decide_eq_true (congrArg V.int z))
      -- elif distance > 0
      refine ⟨_, rfl, _, _, rfl, rfl, _, rfl, ?_⟩
      refine ite2 (fun c2 => ?_) (fun c2 => ?_)
      · have hd1 : 0 < dist a b := of_decide_eq_true c2
        -- what is stored
        have fin : ∀ (H2 : Hp), Same H H2 → (∀ z, hi = some z → less (room a b, dist a b) z) → ∀ q, H2 q = none → ∀ (R : Hp → Prop), (∀ H3, H3 = upd (upd H2 q (.tup [.int (room a b), .int (dist a b)])) p (.ins (cRB K) dx (rbF lv lp (.ref q) pr)) → RBAt (cRB K) H3 p lo (some (room a b, dist a b)) → KeepP p H H3 → R H3) →
            R (upd (upd H2 q (.tup [.int (room a b), .int (dist a b)])) p (.ins (cRB K) dx (rbF lv lp (.ref q) pr))) := by
          intro H2 s2 hl q hq R hR
          have npq : q ≠ p := fun z => by
            rw [z, s2 _ _ h1] at hq
            cases hq
          have s3 : Same H (upd H2 q (.tup [.int (room a b), .int (dist a b)])) := s2.trans (Same.new hq)
          have kp : KeepP p H (upd (upd H2 q (.tup [.int (room a b), .int (dist a b)])) p (.ins (cRB K) dx (rbF lv lp (.ref q) pr))) := (KeepP.of s3).trans KeepP.put
          exact hR _ rfl ⟨dx, lv, lp, .ref q, pr, upd_same, kp.opt h1 hlo, q, rfl, by rw [upd_ne npq]; exact upd_same⟩ kp
        have go : ∀ (H2 : Hp), Same H H2 → (∀ z, hi = some z → less (room a b, dist a b) z) → ∀ q, H2 q = none → Q .non (upd (upd H2 q (.tup [.int (room a b), .int (dist a b)])) p (.ins (cRB K) dx (rbF lv lp (.ref q) pr))) := fun H2 s2 hl q hq =>
          fin H2 s2 hl q hq (Q .non) fun H3 _ r kp => k H3 lo (some (room a b, dist a b)) (I.up hd1 hl) slo (szE_some srm sds) r kp
        -- if self.high is None or is_less(..)
        refine ⟨_, rfl, p, _, dx, _, _, rfl, h1, T.c_RateBounds, T.n_RateBounds_high, rb_high, rfl, _, rfl, ?_⟩
        cases hi with
        | none =>
          obtain rfl : hv = .non := hhi
          refine iteD rfl ?_
          refine iteT ?_
          refine ⟨_, rfl, _, rfl, (by show 2 ≤ sizeLine; decide), fun q hq => ?_⟩
          have npq : p ≠ q := ne_of_none h1 hq
          refine ⟨_, rfl, p, _, dx, _, rfl, (by rw [upd_ne npq]; exact h1), T.c_RateBounds, T.n_RateBounds_high, rb_len, ?_⟩
          refine ⟨_, rfl, _, rfl, p, _, dx, _, rfl, upd_same, T.c_RateBounds, T.n_RateBounds_high_pair, (by rw [rb_put_high]; exact rb_len), ?_⟩
          rw [upd_upd, rb_put_high, rb_put_high_pair]
          exact go H (Same.refl _) (fun z e => by cases e) q hq
        | some z =>
          obtain ⟨zc, zd⟩ := z
          obtain ⟨hq', rfl, g⟩ := hhi.at_
          obtain ⟨s1, s2⟩ := shi _ rfl
          refine iteDN (fun z => by cases z) ?_
          -- is_less((room, distance), self.high)
          refine ⟨_, rfl, _, rfl, (by show 2 ≤ sizeLine; decide), fun q hq => ?_⟩
          have npq : p ≠ q := ne_of_none h1 hq
          have nq' : hq' ≠ q := ne_of_none g hq
          refine ⟨_, rfl, p, _, dx, _, _, rfl, (by rw [upd_ne npq]; exact h1), T.c_RateBounds, T.n_RateBounds_high, rb_high, ?_⟩
          refine ⟨q, hq', (room a b, dist a b), (zc, zd), rfl, upd_same, (by rw [upd_ne nq']; exact g), upB srm, upB sds, upB s1, upB s2, _, rfl, ?_⟩
          refine ite2 (fun cl => ?_) (fun cl => ?_)
          · have hl : less (room a b, dist a b) (zc, zd) := of_decide_eq_true cl
            refine ⟨_, rfl, _, rfl, (by show 2 ≤ sizeLine; decide), fun q2 hq2 => ?_⟩
            have hp1 : (upd H q (.tup [.int (room a b), .int (dist a b)])) p = some (.ins (cRB K) dx (rbF lv lp (.ref hq') hp)) := by rw [upd_ne npq]; exact h1
            have npq2 : p ≠ q2 := ne_of_none hp1 hq2
            refine ⟨_, rfl, p, _, dx, _, rfl, (by rw [upd_ne npq2]; exact hp1), T.c_RateBounds, T.n_RateBounds_high, rb_len, ?_⟩
            refine ⟨_, rfl, _, rfl, p, _, dx, _, rfl, upd_same, T.c_RateBounds, T.n_RateBounds_high_pair, (by rw [rb_put_high]; exact rb_len), ?_⟩
            rw [upd_upd, rb_put_high, rb_put_high_pair]
            exact go _ (Same.new hq) (fun z e => by cases e; exact hl) q2 hq2
          · have hl : ¬ less (room a b, dist a b) (zc, zd) := fun z => cl (decide_eq_true z)
            have kp : KeepP p H (upd H q (.tup [.int (room a b), .int (dist a b)])) := .of (Same.new hq)
            exact k _ lo (some (zc, zd)) (I.upN hd1 rfl hl) slo shi ⟨dx, lv, lp, .ref hq', hp, (by rw [upd_ne npq]; exact h1), kp.opt h1 hlo, hq', rfl, by rw [upd_ne nq']; exact g⟩ kp
      · have hd1 : dist a b < 0 := by
          have : ¬ 0 < dist a b := fun z => c2 (decide_eq_true z)
          omega
        have srn := neg_sm srm
        have sdn := neg_sm sds
        have go : ∀ (H2 : Hp), Same H H2 → (∀ z, lo = some z → less z (0 - room a b, 0 - dist a b)) → ∀ q, H2 q = none → Q .non (upd (upd H2 q (.tup [.int (0 - room a b), .int (0 - dist a b)])) p (.ins (cRB K) dx (rbF (.ref q) pr hv hp))) := fun H2 s2 hl q hq => by
          have npq : q ≠ p := fun z => by
            rw [z, s2 _ _ h1] at hq
            cases hq
          have s3 : Same H (upd H2 q (.tup [.int (0 - room a b), .int (0 - dist a b)])) := s2.trans (Same.new hq)
          have kp : KeepP p H (upd (upd H2 q (.tup [.int (0 - room a b), .int (0 - dist a b)])) p (.ins (cRB K) dx (rbF (.ref q) pr hv hp))) := (KeepP.of s3).trans KeepP.put
          exact k _ (some (0 - room a b, 0 - dist a b)) hi (I.dn hd1 hl) (szE_some srn sdn) shi ⟨dx, .ref q, pr, hv, hp, upd_same, ⟨q, rfl, by rw [upd_ne npq]; exact upd_same⟩, kp.opt h1 hhi⟩ kp
        -- elif self.low is None or is_less(self.low, (0 - room, 0 - distance))
        refine ⟨_, rfl, p, _, dx, _, _, rfl, h1, T.c_RateBounds, T.n_RateBounds_low, rb_low, rfl, _, rfl, ?_⟩
        cases lo with
        | none =>
          obtain rfl : lv = .non := hlo
          refine iteD rfl ?_
          refine iteT ?_
          refine ⟨_, rfl, _, _, rfl, rfl, _, rfl, _, _, rfl, rfl, (by show 2 ≤ sizeLine; decide), fun q hq => ?_⟩
          have npq : p ≠ q := ne_of_none h1 hq
          refine ⟨_, rfl, p, _, dx, _, rfl, (by rw [upd_ne npq]; exact h1), T.c_RateBounds, T.n_RateBounds_low, rb_len, ?_⟩
          refine ⟨_, rfl, _, rfl, p, _, dx, _, rfl, upd_same, T.c_RateBounds, T.n_RateBounds_low_pair, (by rw [rb_put_low]; exact rb_len), ?_⟩
          rw [upd_upd, rb_put_low, rb_put_low_pair]
          exact go H (Same.refl _) (fun z e => by cases e) q hq
        | some z =>
          obtain ⟨zc, zd⟩ := z
          obtain ⟨hq', rfl, g⟩ := hlo.at_
          obtain ⟨s1, s2⟩ := slo _ rfl
          refine iteDN (fun z => by cases z) ?_
          refine ⟨_, rfl, p, _, dx, _, _, rfl, h1, T.c_RateBounds, T.n_RateBounds_low, rb_low, _, rfl, _, _, rfl, rfl, _, rfl, _, _, rfl, rfl, (by show 2 ≤ sizeLine; decide), fun q hq => ?_⟩
          have npq : p ≠ q := ne_of_none h1 hq
          have nq' : hq' ≠ q := ne_of_none g hq
          refine ⟨hq', q, (zc, zd), (0 - room a b, 0 - dist a b), rfl, (by rw [upd_ne nq']; exact g), upd_same, upB s1, upB s2, upB srn, upB sdn, _, rfl, ?_⟩
          refine ite2 (fun cl => ?_) (fun cl => ?_)
          · have hl : less (zc, zd) (0 - room a b, 0 - dist a b) := of_decide_eq_true cl
            refine ⟨_, rfl, _, _, rfl, rfl, _, rfl, _, _, rfl, rfl, (by show 2 ≤ sizeLine; decide), fun q2 hq2 => ?_⟩
            have hp1 : (upd H q (.tup [.int (0 - room a b), .int (0 - dist a b)])) p = some (.ins (cRB K) dx (rbF (.ref hq') lp hv hp)) := by rw [upd_ne npq]; exact h1
            have npq2 : p ≠ q2 := ne_of_none hp1 hq2
            refine ⟨_, rfl, p, _, dx, _, rfl, (by rw [upd_ne npq2]; exact hp1), T.c_RateBounds, T.n_RateBounds_low, rb_len, ?_⟩
            refine ⟨_, rfl, _, rfl, p, _, dx, _, rfl, upd_same, T.c_RateBounds, T.n_RateBounds_low_pair, (by rw [rb_put_low]; exact rb_len), ?_⟩
            rw [upd_upd, rb_put_low, rb_put_low_pair]
            exact go _ (Same.new hq) (fun z e => by cases e; exact hl) q2 hq2
          · have hl : ¬ less (zc, zd) (0 - room a b, 0 - dist a b) := fun z => cl (decide_eq_true z)
            have kp : KeepP p H (upd H q (.tup [.int (0 - room a b), .int (0 - dist a b)])) := .of (Same.new hq)
            exact k _ (some (zc, zd)) hi (I.dnN hd1 rfl hl) slo shi ⟨dx, .ref hq', lp, hv, hp, (by rw [upd_ne npq]; exact h1), ⟨hq', rfl, by rw [upd_ne nq']; exact g⟩, kp.opt h1 hhi⟩ kp
end
end LF

namespace LF
open PySem PySem.Spec PyProof.Rows L2
section
variable {P : Program} {w : World} {K : PySem.W.Frag} {mg : Str → Option Value} {base : Heap}
theorem kind_low {b : Bool} : V.str (kindS b) = V.str "at least" ↔ b = true := by
  cases b with
  | true => exact ⟨fun _ => rfl, fun _ => rfl⟩
  | false => exact ⟨fun h => absurd h (by decide +kernel), fun h => by cases h⟩
theorem kind_high {b : Bool} : V.str (kindS b) = V.str "at most" ↔ b = false := by
  cases b with
  | true => exact ⟨fun h => absurd h (by decide +kernel), fun h => by cases h⟩
  | false => exact ⟨fun _ => rfl, fun _ => rfl⟩
/-! ### a comprehension over enumerate -/
theorem lc_enum {a : Addr} {xs : List V} {g : TG} {tt : TT} {te : TE} {vs : List Nat} {σ : L2.St} {H1 : Hp} {D : Addr} {Qd : Hp → Prop} (Pv : Nat → Hp → Prop) (h0 : Pv 0 (upd H1 D (.lst []))) (hl : ∀ i H, i ≤ xs.length → Pv i H → SqL K H a xs)
    (hs : ∀ i x H S, xs[i]? = some x → Pv i H → H S = none → g (.ref S) (wipe σ vs) (upd H S (.tup [.int (i : Nat), x])) fun σ2 H2 => wipe σ2 vs = wipe σ vs ∧ tt σ2 H2 fun b H3 =>
      if b = true then te σ2 H3 fun y H4 => ∃ acc, H4 D = some (.lst acc) ∧ acc.length < sizeLine ∧ Pv (i + 1) (upd H4 D (.lst (acc ++ [y]))) else Pv (i + 1) H3) (hd : ∀ H, Pv xs.length H → Qd H) :
    ∃ W : Nat → Nat → Hp → Prop, (∃ m, W 0 m (upd H1 D (.lst []))) ∧ ∀ i m H, W i m H →
      ((Ite K a).stop i H ∧ Qd H) ∨ ((Ite K a).go i H ∧ ∃ Nx : Hp → Prop, (∀ H', Nx H' → ∃ m', m' < m ∧ W (i + 1) m' H') ∧ ∀ x H', (Ite K a).yld i H x H' → g x (wipe σ vs) H' fun σ2 H2 => wipe σ2 vs = wipe σ vs ∧ tt σ2 H2 fun b H3 =>
        if b = true then te σ2 H3 fun y H4 => ∃ acc, H4 D = some (.lst acc) ∧ acc.length < sizeLine ∧ Nx (upd H4 D (.lst (acc ++ [y]))) else Nx H3) := by
  refine ⟨fun i m H => m = xs.length - i ∧ i ≤ xs.length ∧ Pv i H, ⟨xs.length, by simp, Nat.zero_le _, h0⟩, ?_⟩
  rintro i m H ⟨rfl, hi, p⟩
  have q := hl i H hi p
  by_cases hlt : i < xs.length
  · refine .inr ⟨⟨xs, xs[i], q, by simp [hlt]⟩, Pv (i + 1), fun H' p' => ⟨xs.length - (i + 1), by omega, rfl, hlt, p'⟩, ?_⟩
    rintro x H' ⟨S, y, rfl, hS, rfl, hy⟩
    exact hs i y H S (hy xs q) p hS
  · have e : i = xs.length := by omega
    subst e
    exact .inl ⟨⟨xs, q, Nat.le_refl _⟩, hd H p⟩
/-- pairs of an index and a record -/
def PairsP (H : Hp) : List Addr → List R → Prop
  | [], [] => True
  | t :: ts, r :: rs => (∃ (i : Int) (p : Addr), H t = some (.tup [.int i, .ref p]) ∧ H p = some (.tup (recT r))) ∧ PairsP H ts rs
  | _, _ => False
theorem PairsP.length {H : Hp} : ∀ {ts : List Addr} {rs : List R}, PairsP H ts rs → ts.length = rs.length
  | [], [], _ => rfl
  | _ :: _, _ :: _, h => congrArg Nat.succ (PairsP.length h.2)
  | [], _ :: _, h => h.elim
  | _ :: _, [], h => h.elim
theorem PairsP.get {H : Hp} : ∀ {ts : List Addr} {rs : List R} {i : Nat} {t : Addr}, PairsP H ts rs → ts[i]? = some t → ∃ r, rs[i]? = some r ∧ ∃ (j : Int) (p : Addr), H t = some (.tup [.int j, .ref p]) ∧ H p = some (.tup (recT r))
  | t :: ts, r :: rs, 0, q, h, e => ⟨r, rfl, by rw [← Option.some.inj e]; exact h.1⟩
  | t :: ts, r :: rs, i + 1, q, h, e => PairsP.get (ts := ts) (rs := rs) (i := i) h.2 e
  | [], [], _, _, _, e => by cases e
  | [], _ :: _, _, _, h, _ => h.elim
  | _ :: _, [], _, _, h, _ => h.elim
theorem PairsP.mono {H H' : Hp} (k : ∀ q xs, H q = some (.tup xs) → H' q = some (.tup xs)) : ∀ {ts : List Addr} {rs : List R}, PairsP H ts rs → PairsP H' ts rs
  | [], [], _ => True.intro
  | _ :: _, _ :: _, ⟨⟨i, p, h1, h2⟩, h⟩ => ⟨⟨i, p, k _ _ h1, k _ _ h2⟩, PairsP.mono k h⟩
  | [], _ :: _, h => h.elim
  | _ :: _, [], h => h.elim
theorem PairsP.same {H H' : Hp} (k : Same H H') {ts : List Addr} {rs : List R} (h : PairsP H ts rs) : PairsP H' ts rs := h.mono fun q xs e => k q _ e
theorem PairsP.snoc {H : Hp} : ∀ {ts : List Addr} {rs : List R} {t : Addr} {r : R}, PairsP H ts rs → (∃ (i : Int) (p : Addr), H t = some (.tup [.int i, .ref p]) ∧ H p = some (.tup (recT r))) → PairsP H (ts ++ [t]) (rs ++ [r])
  | [], [], _, _, _, k => ⟨k, True.intro⟩
  | _ :: _, _ :: _, _, _, h, k => ⟨h.1, PairsP.snoc h.2 k⟩
  | [], _ :: _, _, _, h, _ => h.elim
  | _ :: _, [], _, _, h, _ => h.elim
/-- [(index, record) for index, record in enumerate(records) if record[0] == s] -/
theorem lc_pairs {Q : VK} {σ : L2.St} {H1 : Hp} {a : Addr} {rs : List R} {s : Str} {sel : R → Bool} (hσ : σ.length = 10) (h3 : σ[3]? = some none) (h4 : σ[4]? = some none) (hr : σ[1]? = some (some (.ref a))) (hR : RecsAt H1 a rs) (hl : rs.length ≤ 200)
    (hsel : ∀ r : R, V.str (kindS r.low) = V.str s ↔ sel r = true) (k : ∀ (H' : Hp) (D : Addr) (ts : List Addr), Same H1 H' → H1 D = none → H' D = some (.lst (ts.map V.ref)) → PairsP H' ts (rs.filter sel) → Q (.ref D) H') :
    tLc (iEnum K (tCons (tVar 1) tNil)) (gTup K 2 (gCons (gName 3) (gCons (gName 4) gNil))) (tTest (tOp rEq (tOp (rIxT K) (tVar 4) (tC (.int 0))) (tC (.str s)))) (tTup (tCons (tVar 3) (tCons (tVar 4) tNil))) [3, 4] σ H1 Q := by
  obtain ⟨ps, ha, hp⟩ := hR
  refine ⟨_, hr, a, _, rfl, SqL.of ha, fun D hD => ?_⟩
  refine lc_enum (K := K) (a := a) (xs := ps.map V.ref) (fun i H' => Same H1 H' ∧ ∃ ts : List Addr, H' D = some (.lst (ts.map V.ref)) ∧ PairsP H' ts ((rs.take i).filter sel) ∧ ts.length ≤ i)
    ⟨Same.new hD, [], upd_same, True.intro, Nat.le_refl _⟩ (fun i H' _ ⟨s1, _⟩ => s1.seq (SqL.of ha)) ?_ ?_
  · rintro i x H' S hx ⟨s1, ts, hts, hP, hlen⟩ hS
    obtain ⟨p, r, rfl, hpi, hri, hpr⟩ := recs_item hp hx
    have hi : i < rs.length := (List.getElem?_eq_some_iff.mp hri).1
    have s2 : Same H1 (upd H' S (.tup [.int (i : Nat), .ref p])) := s1.trans (Same.new hS)
    have sS : Same H' (upd H' S (.tup [.int (i : Nat), .ref p])) := Same.new hS
    have nDS : D ≠ S := ne_of_none hts hS
    have nDS' : (upd H' S (.tup [.int (i : Nat), .ref p])) D = some (.lst (ts.map V.ref)) := sS _ _ hts
    have hpS := s2 _ _ hpr
    refine ⟨S, _, rfl, SqT.of upd_same, rfl, _, _, rfl, _, _, rfl, rfl, ?_⟩
    have w3 : ((wipe σ [3, 4]).set 3 (some (.int ((i : Nat) : Int)))).set 4 (some (V.ref p)) = (σ.set 3 (some (.int ((i : Nat) : Int)))).set 4 (some (V.ref p)) := by
      show (((σ.set 4 none).set 3 none).set 3 (some (.int ((i : Nat) : Int)))).set 4 (some (V.ref p)) = _
      rw [List.set_set, List.set_comm _ _ (show 4 ≠ 3 by decide), List.set_set]
    rw [w3]
    refine ⟨?_, ?_⟩
    · show ((((σ.set 3 (some (.int ((i : Nat) : Int)))).set 4 (some (V.ref p))).set 4 none).set 3 none) = ((σ.set 4 none).set 3 none)
      rw [List.set_set, List.set_comm _ _ (show 3 ≠ 4 by decide), List.set_set]
    have e4 : ((σ.set 3 (some (.int ((i : Nat) : Int)))).set 4 (some (V.ref p)))[4]? = some (some (V.ref p)) := by
      rw [List.getElem?_set_self (by rw [List.length_set, hσ]; decide)]
    have e3 : ((σ.set 3 (some (.int ((i : Nat) : Int)))).set 4 (some (V.ref p)))[3]? = some (some (.int ((i : Nat) : Int))) := by
      rw [List.getElem?_set_ne (by decide), List.getElem?_set_self (by rw [hσ]; decide)]
    have etake : rs.take (i + 1) = rs.take i ++ [r] := by
      rw [List.take_add_one, hri]
      rfl
    refine ⟨_, e4, p, _, 0, _, rfl, rfl, SqT.of hpS, at0, rfl, _, rfl, ?_⟩
    refine ite2 (fun c => ?_) (fun c => ?_)
    · have hs : sel r = true := (hsel r).mp (of_decide_eq_true c)
      refine ⟨_, e3, _, e4, (by show 2 ≤ sizeLine; decide), fun q hq => ?_⟩
      have nqD : D ≠ q := ne_of_none nDS' hq
      refine ⟨_, (by rw [upd_ne nqD]; exact nDS'), ?_, fun b o e => ?_, ts ++ [q], ?_, ?_, ?_⟩
      · rw [List.length_map]
        exact small1000 (by omega)
      · have nbD : b ≠ D := ne_of_none e hD
        rw [upd_ne nbD]
        exact (s2.trans (Same.new hq)) b o e
      · rw [upd_same, List.map_append]
        rfl
      · rw [etake, List.filter_append, List.filter_cons, if_pos hs]
        have keep : ∀ q' xs, (upd H' S (.tup [.int (i : Nat), .ref p])) q' = some (.tup xs) → (upd (upd (upd H' S (.tup [.int (i : Nat), .ref p])) q (.tup [.int ((i : Nat) : Int), .ref p])) D (.lst (ts.map V.ref ++ [V.ref q]))) q' = some (.tup xs) := fun q' xs e => by
          rw [upd_ne (ne_of e nDS' (by intro z; cases z)), upd_ne (ne_of_none e hq)]
          exact e
        refine PairsP.snoc ((hP.same sS).mono keep) ⟨((i : Nat) : Int), p, ?_, keep _ _ hpS⟩
        rw [upd_ne (fun z => nqD z.symm), upd_same]
      · rw [List.length_append, List.length_singleton]
        omega
    · have hs : ¬ sel r = true := fun z => c (decide_eq_true ((hsel r).mpr z))
      refine ⟨s2, ts, nDS', ?_, by omega⟩
      rw [etake, List.filter_append, List.filter_cons, if_neg hs]
      show PairsP _ ts (List.filter sel (List.take i rs) ++ [])
      rw [List.append_nil]
      exact hP.same sS
  · rintro H' ⟨s1, ts, hts, hP, _⟩
    rw [List.length_map, hp.length, List.take_of_length_le (Nat.le_refl _)] at hP
    exact k H' D ts s1 hD hts hP
theorem st_asg {te : TE} {g : TG} {u : TS} {D : Ends} {σ : L2.St} {H : Hp} (h : te σ H fun x H1 => g x σ H1 fun σ' H' => u D σ' H') : tSeq (tAsg te g) u D σ H := h
theorem mem_take_succ {l : List R} {j : Nat} {b x : R} (h : l[j]? = some b) : x ∈ l.take (j + 1) ↔ x ∈ l.take j ∨ x = b := by
  rw [List.take_add_one, h, List.mem_append]
  show x ∈ l.take j ∨ x ∈ [b] ↔ _
  rw [List.mem_singleton]
def sp_RateBounds (C : Addr) : Sp := fun vs H Q _ => ∃ (p dx a : Addr) (rs : List R) (P0 Q0 : Int), vs = [.ref p, .ref a] ∧ H p = some (.ins C dx []) ∧ RecsAt H a rs ∧ rs.length ≤ 200 ∧ okRs rs ∧ 0 ≤ P0 ∧ 0 < Q0 ∧ rateOk rs P0 Q0 ∧
  ∀ (H' : Hp) (lo hi : End), BInv (pairsOf rs) lo hi → szE lo → szE hi → RBAt C H' p lo hi → KeepP p H H' → Q .non H'
theorem sc_RateBounds_init : FnScope ["self", "records", "lower", "index", "record", "upper", "i", "one", "j", "other"] ["self", "records"] (defScope s_RateBounds_init) := ⟨rfl, rfl, rfl, by decide +kernel, rfl, by decide +kernel, by decide +kernel⟩
theorem ok_RateBounds_init {f : Addr} {fd : FuncData} (F : Fun K "__init__" "RateBounds.__init__" s_RateBounds_init f fd) (T : Txt K mg)
    (G_RateBounds_tighten : CalM P w K mg base 2 (cRB K) "tighten" ["self", "pair", "one", "other"] (sp_RateBounds_tighten (cRB K))) : FnOk P w K mg base CX0 3 f fd ["self", "records"] (sp_RateBounds (cRB K)) := by
  refine F.ok sc_RateBounds_init (fun vs H Q E h => ?_) (fun cdv A outer s H vs Q E hr h => ?_)
  · obtain ⟨p, dx, a, rs, P0, Q0, rfl, _⟩ := h
    rfl
  · obtain ⟨p, dx, a, rs, P0, Q0, rfl, hp, hR, hl, ok, hP0, hQ0, hw, k⟩ := h
    refine ⟨_, (pss_cons (ps_fld (pv 0) pe_non rfl)
      (pss_cons (ps_fld (pv 0) pe_non rfl)
      (pss_cons (ps_fld (pv 0) pe_non rfl)
      (pss_cons (ps_fld (pv 0) pe_non rfl)
      (pss_cons (ps_fld (pv 0) pe_non rfl)
      (pss_cons (ps_setLc (i := 2) (own := [("index", 3), ("record", 4)]) rfl sc_RateBounds_init.nd rfl rfl (sw_true rfl rfl rfl (by decide +kernel)) (pi_enum rfl T.b_enumerate (pa_cons (pv 1) pa_nil)) (blkOk_by (own := [("index", 3), ("record", 4)]) (N := ["self", "records", "lower", "index", "record", "upper", "i", "one", "j", "other"]) (sc := defScope s_RateBounds_init) (by decide +kernel)) (fun _ _ _ _ _ => (pg_tupK (K := K) (n := 2) rfl rfl (pgs_cons (pg_name (i := 3) sc_RateBounds_init.nd rfl (Or.inl rfl) (.inr rfl)) (pgs_cons (pg_name (i := 4) sc_RateBounds_init.nd rfl (Or.inl rfl) (.inr rfl)) pgs_nil)))) (fun _ _ _ _ _ => pts_one (pt_cmpR op_eq (pe_ix (ix_tupK (K := K) rfl) (pv 4) pe_int (fun _ _ => rfl)) pe_str (nomark _))) (fun _ _ _ _ _ => (pe_tup (pa_cons (pv 3) (pa_cons (pv 4) pa_nil)))))
      (pss_cons (ps_setLc (i := 5) (own := [("index", 3), ("record", 4)]) rfl sc_RateBounds_init.nd rfl rfl (sw_true rfl rfl rfl (by decide +kernel)) (pi_enum rfl T.b_enumerate (pa_cons (pv 1) pa_nil)) (blkOk_by (own := [("index", 3), ("record", 4)]) (N := ["self", "records", "lower", "index", "record", "upper", "i", "one", "j", "other"]) (sc := defScope s_RateBounds_init) (by decide +kernel)) (fun _ _ _ _ _ => (pg_tupK (K := K) (n := 2) rfl rfl (pgs_cons (pg_name (i := 3) sc_RateBounds_init.nd rfl (Or.inl rfl) (.inr rfl)) (pgs_cons (pg_name (i := 4) sc_RateBounds_init.nd rfl (Or.inl rfl) (.inr rfl)) pgs_nil)))) (fun _ _ _ _ _ => pts_one (pt_cmpR op_eq (pe_ix (ix_tupK (K := K) rfl) (pv 4) pe_int (fun _ _ => rfl)) pe_str (nomark _))) (fun _ _ _ _ _ => (pe_tup (pa_cons (pv 3) (pa_cons (pv 4) pa_nil)))))
      (pss_one (ps_for PassesOwn.never rfl (pi_list (pv 2)) (pg_tup rfl (pgs_cons (pg_name (i := 6) sc_RateBounds_init.nd rfl (Or.inl rfl)) (pgs_cons (pg_name (i := 7) sc_RateBounds_init.nd rfl (Or.inl rfl)) pgs_nil))) (pss_one (ps_for PassesOwn.never rfl (pi_list (pv 5)) (pg_tup rfl (pgs_cons (pg_name (i := 8) sc_RateBounds_init.nd rfl (Or.inl rfl)) (pgs_cons (pg_name (i := 9) sc_RateBounds_init.nd rfl (Or.inl rfl)) pgs_nil))) (pss_one (ps_expr (pe_me (pv 0) T.c_RateBounds G_RateBounds_tighten hr (pa_cons (pe_tup (pa_cons (pv 6) (pa_cons (pv 8) pa_nil))) (pa_cons (pv 7) (pa_cons (pv 9) pa_nil))))))))))))))))), ?_⟩
    -- the five attributes
    refine ⟨_, rfl, p, _, dx, [], rfl, hp, T.c_RateBounds, T.n_RateBounds_low, (by show 0 < 1000; decide), ?_⟩
    refine ⟨_, rfl, p, _, dx, _, rfl, upd_same, T.c_RateBounds, T.n_RateBounds_low_pair, (by show 1 < 1000; decide), ?_⟩
    rw [upd_upd]
    refine ⟨_, rfl, p, _, dx, _, rfl, upd_same, T.c_RateBounds, T.n_RateBounds_high, (by show 2 < 1000; decide), ?_⟩
    rw [upd_upd]
    refine ⟨_, rfl, p, _, dx, _, rfl, upd_same, T.c_RateBounds, T.n_RateBounds_high_pair, (by show 3 < 1000; decide), ?_⟩
    rw [upd_upd]
    refine ⟨_, rfl, p, _, dx, _, rfl, upd_same, T.c_RateBounds, T.n_RateBounds_clash, (by show 4 < 1000; decide), ?_⟩
    rw [upd_upd, rb_make]
    have k1 : KeepP p H (upd H p (.ins (cRB K) dx (rbF .non .non .non .non))) := KeepP.put
    have h1 : (upd H p (.ins (cRB K) dx (rbF .non .non .non .non))) p = some (.ins (cRB K) dx (rbF .non .non .non .non)) := upd_same
    have hR1 : RecsAt (upd H p (.ins (cRB K) dx (rbF .non .non .non .non))) a rs := by
      obtain ⟨ps, ha, hps⟩ := hR
      refine ⟨ps, k1.l hp ha, ?_⟩
      have gen : ∀ (ps : List Addr) (rs : List R), RecsP H ps rs → RecsP (upd H p (.ins (cRB K) dx (rbF .non .non .non .non))) ps rs := by
        intro ps
        induction ps with
        | nil =>
          intro rs h
          cases rs with
          | nil => exact True.intro
          | cons r rs => exact h.elim
        | cons q qs ih =>
          intro rs h
          cases rs with
          | nil => exact h.elim
          | cons r rs => exact ⟨k1.t hp h.1, ih rs h.2⟩
      exact gen ps rs hps
    generalize upd H p (.ins (cRB K) dx (rbF .non .non .non .non)) = H1 at k1 h1 hR1
    -- lower, upper
    refine st_asg (lc_pairs (K := K) (a := a) (rs := rs) (sel := fun r => r.low) (σ := [some (.ref p), some (.ref a), none, none, none, none, none, none, none, none]) (by rfl) (by rfl) (by rfl) (by rfl) hR1 hl (fun r => kind_low) (fun H2 D1 ts1 s2 hD1 hL1 hP1 => ?_))
    refine st_asg (lc_pairs (K := K) (a := a) (rs := rs) (sel := fun r => !r.low) (σ := [some (.ref p), some (.ref a), some (.ref D1), none, none, none, none, none, none, none]) (by rfl) (by rfl) (by rfl) (by rfl) (hR1.same s2) hl (fun r => kind_high.trans (by cases r.low <;> simp)) (fun H3 D2 ts2 s3 hD2 hL2 hP2 => ?_))
    have h3 : H3 p = some (.ins (cRB K) dx (rbF .non .non .non .non)) := s3 _ _ (s2 _ _ h1)
    have k3 : KeepP p H H3 := k1.trans (.of (s2.trans s3))
    have hL1' := s3 _ _ hL1
    have hP1' := hP1.same s3
    have mlow : ∀ x, x ∈ rs.filter (fun r => r.low) ↔ x ∈ rs ∧ x.low = true := fun x => List.mem_filter
    have mhigh : ∀ x, x ∈ rs.filter (fun r => !r.low) ↔ x ∈ rs ∧ x.low = false := fun x => by
      rw [List.mem_filter]
      cases x.low <;> simp
    have tup_ : ∀ {H' : Hp}, KeepP p H3 H' → ∀ q xs, H3 q = some (.tup xs) → H' q = some (.tup xs) := fun kk q xs e => kk.t h3 e
    -- for i, one in lower
    refine ⟨_, rfl, D1, rfl, ⟨_, SqL.of hL1'⟩, ?_⟩
    refine for_list (K := K) (a := D1) (xs := ts1.map V.ref) (fun i σ H' => ∃ (x6 x7 x8 x9 : Option V) (lo hi : End), σ = [some (.ref p), some (.ref a), some (.ref D1), none, none, some (.ref D2), x6, x7, x8, x9] ∧ KeepP p H3 H' ∧ RBAt (cRB K) H' p lo hi ∧ szE lo ∧ szE hi ∧
      BInv (fun x y => x ∈ (rs.filter (fun r => r.low)).take i ∧ y ∈ rs.filter (fun r => !r.low)) lo hi)
      ⟨_, _, _, _, none, none, rfl, KeepP.refl _ _, ⟨dx, .non, .non, .non, .non, h3, rfl, rfl⟩, szE_none, szE_none, BInv.init.iff fun x y => ⟨fun z => (by cases z.1), fun z => z.elim⟩⟩
      (fun i σ H' _ ⟨_, _, _, _, _, _, _, kk, _⟩ => SqL.of (kk.l h3 hL1')) ?_ ?_
    · rintro i x σ H' hx ⟨x6, x7, x8, x9, lo, hi, rfl, kk, rb, slo, shi, I⟩
      rw [List.getElem?_map] at hx
      cases e : ts1[i]? with
      | none => rw [e] at hx; cases hx
      | some t =>
        rw [e] at hx
        obtain rfl := Option.some.inj hx
        obtain ⟨r1, hr1, j1, p1, ht1, hp1⟩ := hP1'.get e
        have mr1 := (mlow r1).mp (List.mem_of_getElem? hr1)
        refine ⟨t, _, rfl, SqT.of (tup_ kk _ _ ht1), rfl, _, _, rfl, _, _, rfl, rfl, ?_⟩
        -- for j, other in upper
        have hL2' := kk.l h3 hL2
        refine ⟨_, rfl, D2, rfl, ⟨_, SqL.of hL2'⟩, ?_⟩
        refine for_list (K := K) (a := D2) (xs := ts2.map V.ref) (fun j σ H' => ∃ (x8 x9 : Option V) (lo hi : End), σ = [some (.ref p), some (.ref a), some (.ref D1), none, none, some (.ref D2), some (.int j1), some (.ref p1), x8, x9] ∧ KeepP p H3 H' ∧ RBAt (cRB K) H' p lo hi ∧ szE lo ∧ szE hi ∧
          BInv (fun x y => (x ∈ (rs.filter (fun r => r.low)).take i ∧ y ∈ rs.filter (fun r => !r.low)) ∨ (x = r1 ∧ y ∈ (rs.filter (fun r => !r.low)).take j)) lo hi)
          ⟨_, _, lo, hi, rfl, kk, rb, slo, shi, I.iff fun x y => ⟨fun z => z.elim id fun z => (by cases z.2), .inl⟩⟩
          (fun j σ H' _ ⟨_, _, _, _, _, kk, _⟩ => SqL.of (kk.l h3 hL2)) ?_ ?_
        · rintro j x σ H5 hx ⟨x8, x9, lo, hi, rfl, kk, rb, slo, shi, I⟩
          rw [List.getElem?_map] at hx
          cases e2 : ts2[j]? with
          | none => rw [e2] at hx; cases hx
          | some t2 =>
            rw [e2] at hx
            obtain rfl := Option.some.inj hx
            obtain ⟨r2, hr2, j2, p2, ht2, hp2⟩ := hP2.get e2
            have mr2 := (mhigh r2).mp (List.mem_of_getElem? hr2)
            refine ⟨t2, _, rfl, SqT.of (tup_ kk _ _ ht2), rfl, _, _, rfl, _, _, rfl, rfl, ?_⟩
            -- self.tighten((i, j), one, other)
            obtain ⟨dx', lv, lp, hv, hp', g, hlo, hhi⟩ := id rb
            refine ⟨_, rfl, p, dx', _, rfl, g, rb_tighten, _, rfl, _, rfl, (by show 2 ≤ sizeLine; decide), fun q hq => ?_⟩
            have sq : Same H5 (upd H5 q (.tup [.int j1, .int j2])) := Same.new hq
            refine ⟨_, rfl, _, rfl, ?_⟩
            refine ⟨p, .ref q, p1, p2, r1, r2, lo, hi, _, rfl, ⟨dx', lv, lp, hv, hp', sq _ _ g, hlo.same sq, hhi.same sq⟩, sq _ _ (tup_ kk _ _ hp1), sq _ _ (tup_ kk _ _ hp2), ok r1 mr1.1, ok r2 mr2.1, I, slo, shi, fun hd => ?_, fun H6 lo' hi' I' slo' shi' rb' k6 => ?_⟩
            · have q := pairOk_up.mp (hw r1 mr1.1 mr1.2 r2 mr2.1 mr2.2)
              rw [hd, Int.mul_zero] at q
              rcases Int.lt_or_le 0 (room r1 r2) with n | n
              · exact n
              · have := Int.mul_nonpos_of_nonpos_of_nonneg n (Int.le_of_lt hQ0)
                omega
            · refine ⟨_, _, lo', hi', rfl, (kk.trans (.of sq)).trans k6, rb', slo', shi', I'.iff fun x y => ?_⟩
              rw [mem_take_succ hr2]
              constructor
              · rintro (z | ⟨z1, z2 | z2⟩)
                · exact .inl (.inl z)
                · exact .inl (.inr ⟨z1, z2⟩)
                · exact .inr ⟨z1, z2⟩
              · rintro ((z | z) | z)
                · exact .inl z
                · exact .inr ⟨z.1, .inl z.2⟩
                · exact .inr ⟨z.1, .inr z.2⟩
        · rintro σ H5 ⟨x8, x9, lo, hi, rfl, kk, rb, slo, shi, I⟩
          refine ⟨_, _, _, _, lo, hi, rfl, kk, rb, slo, shi, I.iff fun x y => ?_⟩
          rw [List.length_map, hP2.length, List.take_of_length_le (l := rs.filter (fun r => !r.low)) (Nat.le_refl _), mem_take_succ hr1]
          constructor
          · rintro ⟨z1 | z1, z2⟩
            · exact .inl ⟨z1, z2⟩
            · exact .inr ⟨z1, z2⟩
          · rintro (z | z)
            · exact ⟨.inl z.1, z.2⟩
            · exact ⟨.inr z.1, z.2⟩
    · rintro σ H5 ⟨x6, x7, x8, x9, lo, hi, rfl, kk, rb, slo, shi, I⟩
      refine k H5 lo hi (I.iff fun x y => ?_) slo shi rb (k3.trans kk)
      rw [List.length_map, hP1'.length, List.take_of_length_le (l := rs.filter (fun r => r.low)) (Nat.le_refl _), mlow, mhigh]
      exact Iff.rfl
end
end LF

namespace LF
open PySem PySem.Spec PyProof.Rows L2
section
variable {P : Program} {w : World} {K : PySem.W.Frag} {mg : Str → Option Value} {base : Heap}
def sp_RateBounds_is_empty (C : Addr) : Sp := fun vs H Q _ => ∃ (p : Addr) (lo hi : End) (P0 Q0 : Int), vs = [.ref p] ∧ RBAt C H p lo hi ∧ szE lo ∧ szE hi ∧ 0 ≤ P0 ∧ 0 < Q0 ∧ inside lo hi P0 Q0 ∧ (∀ z, lo = some z → 0 < z.2) ∧ (∀ z, hi = some z → 0 < z.2) ∧ Q (.bl false) H
theorem sc_RateBounds_is_empty : FnScope ["self"] ["self"] (defScope s_RateBounds_is_empty) := ⟨rfl, rfl, rfl, by decide +kernel, rfl, by decide +kernel, by decide +kernel⟩
theorem ok_RateBounds_is_empty {f : Addr} {fd : FuncData} (F : Fun K "is_empty" "RateBounds.is_empty" s_RateBounds_is_empty f fd) (T : Txt K mg) (G_is_less : Cal P w K mg base 1 "is_less" ["one", "other"] sp_is_less) :
    FnOk P w K mg base CX0 2 f fd ["self"] (sp_RateBounds_is_empty (cRB K)) := by
  refine F.ok sc_RateBounds_is_empty (fun vs H Q E h => ?_) (fun cdv A outer s H vs Q E hr h => ?_)
  · obtain ⟨p, lo, hi, P0, Q0, rfl, _⟩ := h
    rfl
  · obtain ⟨p, lo, hi, P0, Q0, rfl, ⟨dx, lv, lp, hv, hp, h1, hlo, hhi⟩, slo, shi, hP, hQ, hin, zlo, zhi, k⟩ := h
    refine ⟨_, (pss_cons (ps_if (pt_cmpR op_notN (pe_fld (pv 0) rfl) pe_non (nomark _)) (pss_one (ps_ret pe_bl)) pss_nil)
      (pss_cons (ps_if (pt_cmpR op_isN (pe_fld (pv 0) rfl) pe_non (nomark _)) (pss_one (ps_ret pe_bl)) pss_nil)
      (pss_one (ps_ret (pe_or (pe_cmpR op_le (pe_ix ix_tup (pe_fld (pv 0) rfl) pe_int (fun _ _ => rfl)) pe_int (nomark _)) (pe_one (pe_and (pe_cmpR op_notN (pe_fld (pv 0) rfl) pe_non (nomark _)) (pe_one (pe_not (pe_fn G_is_less hr rfl (pa_cons (pe_fld (pv 0) rfl) (pa_cons (pe_fld (pv 0) rfl) pa_nil)))))))))))), ?_⟩
    refine ⟨_, rfl, p, _, dx, _, _, rfl, h1, T.c_RateBounds, T.n_RateBounds_clash, rb_clash, rfl, _, rfl, iteNS rfl ?_⟩
    refine ⟨_, rfl, p, _, dx, _, _, rfl, h1, T.c_RateBounds, T.n_RateBounds_high, rb_high, rfl, _, rfl, ?_⟩
    cases hi with
    | none =>
      obtain rfl : hv = .non := hhi
      exact iteD rfl k
    | some z =>
      obtain ⟨c, d⟩ := z
      obtain ⟨hq, rfl, g⟩ := hhi.at_
      have hd : 0 < d := zhi _ rfl
      have hc : 0 < c := by
        have := below_none_of hP hQ (fun x y e => by cases e; exact hd) hin.2 c d rfl
        omega
      refine iteDN (fun z => by cases z) ?_
      refine ⟨_, rfl, p, _, dx, _, _, rfl, h1, T.c_RateBounds, T.n_RateBounds_high, rb_high, _, _, 0, _, rfl, rfl, SqT.of g, at0, _, _, rfl, rfl, _, rfl, ?_⟩
      refine iteDN (show ¬ c ≤ 0 by omega) ?_
      refine ⟨_, rfl, p, _, dx, _, _, rfl, h1, T.c_RateBounds, T.n_RateBounds_low, rb_low, rfl, _, rfl, ?_⟩
      cases lo with
      | none =>
        obtain rfl : lv = .non := hlo
        exact iteNS rfl k
      | some z =>
        obtain ⟨a, b⟩ := z
        obtain ⟨lq, rfl, g2⟩ := hlo.at_
        have hb : 0 < b := zlo _ rfl
        obtain ⟨s1, s2⟩ := slo _ rfl
        obtain ⟨s3, s4⟩ := shi _ rfl
        refine iteND (fun z => by cases z) ?_
        refine ⟨_, rfl, p, _, dx, _, _, rfl, h1, T.c_RateBounds, T.n_RateBounds_low, rb_low, _, rfl, p, _, dx, _, _, rfl, h1, T.c_RateBounds, T.n_RateBounds_high, rb_high, lq, hq, (a, b), (c, d), rfl, g2, g, upB s1, upB s2, upB s3, upB s4, _, rfl, ?_⟩
        have hl : less (a, b) (c, d) := less_trans (u := (a, b)) (v := (P0, Q0)) (w := (c, d)) hb hQ hd (hin.1 a b rfl) (fun z => by
          have := hin.2 c d rfl
          unfold less at z
          simp only at z
          omega)
        rw [decide_eq_true hl]
        exact k
theorem lowT_sm {z : Int × Int} {k : Nat} (h : 0 < z.2) (h1 : sm k z.1) (h2 : sm k z.2) : sm k (lowT z).1 ∧ sm k (lowT z).2 := by
  obtain ⟨_, _, e1, e2, hg⟩ := lowT_spec h
  generalize ((Int.gcd z.1 z.2 : Nat) : Int) = g at e1 e2 hg
  have key : ∀ x y : Int, x = g * y → sm k x → sm k y := fun x y e hx => by
    unfold sm at *
    rw [e, Int.natAbs_mul] at hx
    have hg1 : 1 ≤ g.natAbs := by omega
    exact Nat.lt_of_le_of_lt (Nat.le_mul_of_pos_left _ hg1) hx
  exact ⟨key _ _ e1 h1, key _ _ e2 h2⟩
theorem endLo_sz {o : End} (hz : ∀ z, o = some z → 0 < z.2) (h : szE o) : szE (endLo o) := fun z e => by
  unfold endLo at e
  cases o with
  | none => cases e
  | some y =>
    simp only at e
    split at e
    · cases e
    · obtain rfl := Option.some.inj e
      exact lowT_sm (hz y rfl) (h y rfl).1 (h y rfl).2
theorem endHi_sz {o : End} (hz : ∀ z, o = some z → 0 < z.2) (h : szE o) : szE (endHi o) := fun z e => by
  unfold endHi at e
  cases o with
  | none => cases e
  | some y =>
    obtain rfl := Option.some.inj e
    exact lowT_sm (hz y rfl) (h y rfl).1 (h y rfl).2
def sp_RateBounds_ends (C : Addr) : Sp := fun vs H Q _ => ∃ (p : Addr) (lo hi : End), vs = [.ref p] ∧ RBAt C H p lo hi ∧ szE lo ∧ szE hi ∧ (∀ z, lo = some z → 0 < z.2) ∧ (∀ z, hi = some z → 0 < z.2) ∧
  ∀ (t : Addr) (H' : Hp) (lv hv : V), Same H H' → H' t = some (.tup [lv, hv]) → OptT H' lv (endLo lo) → OptT H' hv (endHi hi) → Q (.ref t) H'
theorem sc_RateBounds_ends : FnScope ["self", "low"] ["self"] (defScope s_RateBounds_ends) := ⟨rfl, rfl, rfl, by decide +kernel, rfl, by decide +kernel, by decide +kernel⟩
theorem ok_RateBounds_ends {f : Addr} {fd : FuncData} (F : Fun K "ends" "RateBounds.ends" s_RateBounds_ends f fd) (T : Txt K mg) (G_lowest_terms : Cal P w K mg base 2 "lowest_terms" ["top", "bottom"] sp_lowest_terms) :
    FnOk P w K mg base CX0 3 f fd ["self"] (sp_RateBounds_ends (cRB K)) := by
  refine F.ok sc_RateBounds_ends (fun vs H Q E h => ?_) (fun cdv A outer s H vs Q E hr h => ?_)
  · obtain ⟨p, lo, hi, rfl, _⟩ := h
    rfl
  · obtain ⟨p, lo, hi, rfl, ⟨dx, lv, lp, hv, hp, h1, hlo, hhi⟩, slo, shi, zlo, zhi, k⟩ := h
    refine ⟨_, (pss_cons (ps_set (i := 1) sc_RateBounds_ends.nd rfl (Or.inl rfl) (pe_ifExp (PW.pt (pw_or (pt_cmpR op_isN (pe_fld (pv 0) rfl) pe_non (nomark _)) (pw_or1 (pt_cmpR op_lt (pe_ix ix_tup (pe_fld (pv 0) rfl) pe_int (fun _ _ => rfl)) pe_int (nomark _))))) pe_non (pe_fn G_lowest_terms hr rfl (pa_cons (pe_ix ix_tup (pe_fld (pv 0) rfl) pe_int (fun _ _ => rfl)) (pa_cons (pe_ix ix_tup (pe_fld (pv 0) rfl) pe_int (fun _ _ => rfl)) pa_nil)))))
      (pss_one (ps_ret (pe_tup (pa_cons (pv 1) (pa_cons (pe_ifExp (pt_cmpR op_isN (pe_fld (pv 0) rfl) pe_non (nomark _)) pe_non (pe_fn G_lowest_terms hr rfl (pa_cons (pe_ix ix_tup (pe_fld (pv 0) rfl) pe_int (fun _ _ => rfl)) (pa_cons (pe_ix ix_tup (pe_fld (pv 0) rfl) pe_int (fun _ _ => rfl)) pa_nil)))) pa_nil)))))), ?_⟩
    -- the second half: from any heap that keeps, with slot 1 as it should be
    have fin : ∀ (H1 : Hp) (v : V), Same H H1 → OptT H1 v (endLo lo) → (tRet (tTup (tCons (tVar 1) (tCons (tIf (tTest (tOp (fun x y H Q => y = .non ∧ Q (.bl (decide (x = .non))) H) (tFld K (tVar 0) "high") (tC .non))) (tC .non)
        (tCall sp_lowest_terms [] E0 (tCons (tOp (rIxT K) (tFld K (tVar 0) "high") (tC (.int 0))) (tCons (tOp (rIxT K) (tFld K (tVar 0) "high") (tC (.int 1))) tNil)))) tNil)))) { nx := fun _ H' => Q .non H', rt := Q } [some (.ref p), some v] H1 := by
      intro H1 v s1 hv1
      have g1 := s1 _ _ h1
      refine ⟨_, rfl, _, rfl, p, _, dx, _, _, rfl, g1, T.c_RateBounds, T.n_RateBounds_high, rb_high, rfl, _, rfl, ?_⟩
      cases hi with
      | none =>
        obtain rfl : hv = .non := hhi
        refine iteD rfl ⟨by show 2 ≤ sizeLine; decide, fun t ht => ?_⟩
        exact k t _ v .non (s1.trans (Same.new ht)) upd_same (hv1.same (Same.new ht)) rfl
      | some z =>
        obtain ⟨c, d⟩ := z
        obtain ⟨hq, rfl, g⟩ := hhi.at_
        refine iteDN (fun z => by cases z) ?_
        have g' := s1 _ _ g
        refine ⟨_, rfl, p, _, dx, _, _, rfl, g1, T.c_RateBounds, T.n_RateBounds_high, rb_high, hq, _, 0, _, rfl, rfl, SqT.of g', at0, _, rfl, p, _, dx, _, _, rfl, g1, T.c_RateBounds, T.n_RateBounds_high, rb_high, hq, _, 1, _, rfl, rfl, SqT.of g', at1, ?_⟩
        refine ⟨c, d, rfl, zhi _ rfl, upB (shi _ rfl).2, fun q H2 s2 hq2 => ⟨by show 2 ≤ sizeLine; decide, fun t ht => ?_⟩⟩
        exact k t _ v (.ref q) ((s1.trans s2).trans (Same.new ht)) upd_same (hv1.same (s2.trans (Same.new ht))) ⟨q, rfl, Same.new ht _ _ hq2⟩
    refine ⟨_, rfl, p, _, dx, _, _, rfl, h1, T.c_RateBounds, T.n_RateBounds_low, rb_low, rfl, _, rfl, ?_⟩
    cases lo with
    | none =>
      obtain rfl : lv = .non := hlo
      refine iteD rfl ?_
      exact fin H .non (Same.refl _) rfl
    | some z =>
      obtain ⟨a, b⟩ := z
      obtain ⟨lq, rfl, g⟩ := hlo.at_
      refine iteDN (fun z => by cases z) ?_
      refine ⟨_, rfl, p, _, dx, _, _, rfl, h1, T.c_RateBounds, T.n_RateBounds_low, rb_low, lq, _, 0, _, rfl, rfl, SqT.of g, at0, _, _, rfl, rfl, _, rfl, ?_⟩
      refine ite2 (fun c => ?_) (fun c => ?_)
      · have hn : a < 0 := of_decide_eq_true c
        refine fin H .non (Same.refl _) ?_
        have e : endLo (some (a, b)) = none := by
          unfold endLo
          simp only
          rw [if_pos hn]
        rw [e]
        rfl
      · have hn : ¬ a < 0 := fun z => c (decide_eq_true z)
        refine ⟨_, rfl, p, _, dx, _, _, rfl, h1, T.c_RateBounds, T.n_RateBounds_low, rb_low, lq, _, 0, _, rfl, rfl, SqT.of g, at0, _, rfl, p, _, dx, _, _, rfl, h1, T.c_RateBounds, T.n_RateBounds_low, rb_low, lq, _, 1, _, rfl, rfl, SqT.of g, at1, ?_⟩
        refine ⟨a, b, rfl, zlo _ rfl, upB (slo _ rfl).2, fun q H2 s2 hq2 => ?_⟩
        refine fin H2 (.ref q) s2 ?_
        have e : endLo (some (a, b)) = some (lowT (a, b)) := by
          unfold endLo
          simp only
          rw [if_neg hn]
        rw [e]
        exact ⟨q, rfl, hq2⟩
/-- what is asked of records: they stand, some rule's rate fits -/
structure Fit (H : Hp) (a : Addr) (rs : List R) (P0 Q0 : Int) : Prop where
  at_ : RecsAt H a rs
  few : rs.length ≤ 200
  ok : okRs rs
  hP : 0 ≤ P0
  hQ : 0 < Q0
  sP : sm B P0
  sQ : sm B Q0
  fits : rateOk rs P0 Q0
theorem Fit.same {H H' : Hp} {a : Addr} {rs : List R} {P0 Q0 : Int} (h : Fit H a rs P0 Q0) (s : Same H H') : Fit H' a rs P0 Q0 := ⟨h.at_.same s, h.few, h.ok, h.hP, h.hQ, h.sP, h.sQ, h.fits⟩
theorem Fit.keep {H H' : Hp} {a : Addr} {rs : List R} {P0 Q0 : Int} (h : Fit H a rs P0 Q0) (s : Keep H H') : Fit H' a rs P0 Q0 := ⟨h.at_.keep s, h.few, h.ok, h.hP, h.hQ, h.sP, h.sQ, h.fits⟩
def sp_ends_of : Sp := fun vs H Q _ => ∃ (a : Addr) (rs : List R) (P0 Q0 : Int), vs = [.ref a] ∧ Fit H a rs P0 Q0 ∧
  ∀ (t : Addr) (H' : Hp) (lv hv : V) (lo hi : End), Same H H' → H' t = some (.tup [lv, hv]) → OptT H' lv lo → OptT H' hv hi → EndsFor rs lo hi → szE lo → szE hi → Q (.ref t) H'
theorem sc_ends_of : FnScope ["records", "bounds"] ["records"] (defScope s_ends_of) := ⟨rfl, rfl, rfl, by decide +kernel, rfl, by decide +kernel, by decide +kernel⟩
theorem ok_ends_of {f : Addr} {fd : FuncData} (F : Fun K "ends_of" "ends_of" s_ends_of f fd) (T : Txt K mg) (G_RateBounds : CalC P w K mg base 3 "RateBounds" (cRB K) ["self", "records"] (sp_RateBounds (cRB K)))
    (G_RateBounds_is_empty : CalM P w K mg base 2 (cRB K) "is_empty" ["self"] (sp_RateBounds_is_empty (cRB K))) (G_RateBounds_ends : CalM P w K mg base 3 (cRB K) "ends" ["self"] (sp_RateBounds_ends (cRB K))) :
    FnOk P w K mg base CX0 5 f fd ["records"] sp_ends_of := by
  refine F.ok sc_ends_of (fun vs H Q E h => ?_) (fun cdv A outer s H vs Q E hr h => ?_)
  · obtain ⟨a, rs, P0, Q0, rfl, _⟩ := h
    rfl
  · obtain ⟨a, rs, P0, Q0, rfl, fit, k⟩ := h
    refine ⟨_, (pss_cons (ps_set (i := 1) sc_ends_of.nd rfl (Or.inl rfl) (pe_mk G_RateBounds hr rfl (pa_cons (pv 0) pa_nil)))
      (pss_one (ps_ret (pe_ifExp (pt_val (pe_me0 (pv 1) T.c_RateBounds G_RateBounds_is_empty (hr.mono (by decide)))) pe_non (pe_me0 (pv 1) T.c_RateBounds G_RateBounds_ends (hr.mono (by decide))))))), ?_⟩
    refine ⟨_, rfl, fun x dx nx ndx nex => ?_⟩
    have s0 : Same H (upd (upd H dx (.own x)) x (.ins (cRB K) dx [])) := fun b o e => by
      rw [upd_ne (ne_of_none e nx), upd_ne (ne_of_none e ndx)]
      exact e
    refine ⟨x, dx, a, rs, P0, Q0, rfl, upd_same, fit.at_.same s0, fit.few, fit.ok, fit.hP, fit.hQ, fit.fits, fun H1 lo hi I slo shi rb kp => ⟨rfl, ?_⟩⟩
    have s1 : Same H H1 := fun b o e => kp b o (s0 b o e) (ne_of_none e nx)
    have zlo : ∀ z, lo = some z → 0 < z.2 := fun z e => by
      obtain ⟨⟨_, _, _, hd, ez⟩, _⟩ := I.loS _ e
      rw [ez]
      simp only
      omega
    have zhi : ∀ z, hi = some z → 0 < z.2 := fun z e => by
      obtain ⟨⟨_, _, _, hd, ez⟩, _⟩ := I.hiS _ e
      rw [ez]
      exact hd
    have h0 : ∀ a b, pairsOf rs a b → dist a b = 0 → 0 < room a b := fun a b pab hd => by
      have q := pairOk_up.mp (fit.fits a pab.1.1 pab.1.2 b pab.2.1 pab.2.2)
      rw [hd, Int.mul_zero] at q
      rcases Int.lt_or_le 0 (room a b) with n | n
      · exact n
      · have := Int.mul_nonpos_of_nonpos_of_nonneg n (Int.le_of_lt fit.hQ)
        omega
    have hin := (rates_inside fit.hQ I h0).mp fit.fits
    obtain ⟨dx', lv, lp, hv, hp, g, hlo, hhi⟩ := id rb
    refine ⟨_, rfl, x, dx', _, rfl, g, rb_is_empty, x, lo, hi, P0, Q0, rfl, rb, slo, shi, fit.hP, fit.hQ, hin, zlo, zhi, false, rfl, iteF ?_⟩
    refine ⟨_, rfl, x, dx', _, rfl, g, rb_ends, x, lo, hi, rfl, rb, slo, shi, zlo, zhi, fun t H2 lv2 hv2 s2 ht ol oh => ?_⟩
    exact k t H2 lv2 hv2 _ _ (s1.trans s2) ht ol oh (ends_for fit.hP fit.hQ fit.fits I h0) (endLo_sz zlo slo) (endHi_sz zhi shi)
theorem sc_rates : FnScope ["records"] ["records"] (defScope s_rates) := ⟨rfl, rfl, rfl, by decide +kernel, rfl, by decide +kernel, by decide +kernel⟩
theorem ok_rates {f : Addr} {fd : FuncData} (F : Fun K "rates" "rates" s_rates f fd) (T : Txt K mg) (G_need_records : Cal P w K mg base 3 "need_records" ["value"] sp_need_records) (G_ends_of : Cal P w K mg base 5 "ends_of" ["records"] sp_ends_of) :
    FnOk P w K mg base CX0 6 f fd ["records"] sp_ends_of := by
  refine F.ok sc_rates (fun vs H Q E h => ?_) (fun cdv A outer s H vs Q E hr h => ?_)
  · obtain ⟨a, rs, P0, Q0, rfl, _⟩ := h
    rfl
  · obtain ⟨a, rs, P0, Q0, rfl, fit, k⟩ := h
    refine ⟨_, (pss_cons (ps_expr (pe_fn G_need_records (hr.mono (by decide)) rfl (pa_cons (pv 0) pa_nil)))
      (pss_one (ps_ret (pe_fn G_ends_of hr rfl (pa_cons (pv 0) pa_nil))))), ?_⟩
    refine ⟨_, rfl, a, rs, rfl, fit.at_, fit.few, fun H1 s1 => ?_⟩
    refine ⟨_, rfl, a, rs, P0, Q0, rfl, fit.same s1, fun t H2 lv hv lo hi s2 => ?_⟩
    exact k t H2 lv hv lo hi (s1.trans s2)
end
end LF

namespace LF
open PySem PySem.Spec PyProof.Rows L2
section
variable {P : Program} {w : World} {K : PySem.W.Frag} {mg : Str → Option Value} {base : Heap}
/-! ### phase_range, some_rule, least_rule, least_cycle -/
/-- [f of the record for bound, time, number in records if bound == s] -/
theorem lc_ints {te : TE} {Q : VK} {H1 : Hp} {a b : Addr} {p q : Int} {x4 : Option V} {rs : List R} {s : Str} {sel : R → Bool} {f : R → Int} (hR : RecsAt H1 a rs) (hl : rs.length ≤ 200) (hsel : ∀ r : R, V.str (kindS r.low) = V.str s ↔ sel r = true)
    (hte : ∀ r ∈ rs, ∀ (H' : Hp) (Q' : VK), Q' (.int (f r)) H' → te [some (.ref a), some (.ref b), some (.int p), some (.int q), x4, some (.str (kindS r.low)), some (.int r.t), some (.int r.n), none] H' Q')
    (k : ∀ (H' : Hp) (D : Addr), Same H1 H' → H' D = some (.lst (((rs.filter sel).map f).map V.int)) → Q (.ref D) H') :
    tLc (iList K (tVar 0)) (gTup K 3 (gCons (gName 5) (gCons (gName 6) (gCons (gName 7) gNil)))) (tTest (tOp rEq (tVar 5) (tC (.str s)))) te [5, 6, 7] [some (.ref a), some (.ref b), some (.int p), some (.int q), x4, none, none, none, none] H1 Q := by
  obtain ⟨ps, ha, hp⟩ := hR
  refine ⟨_, rfl, a, rfl, ⟨_, SqL.of ha⟩, fun D hD => ?_⟩
  refine lc_list (K := K) (a := a) (xs := ps.map V.ref) (fun i H' => Same H1 H' ∧ ∃ zs : List V, H' D = some (.lst zs) ∧ zs = (((rs.take i).filter sel).map f).map V.int ∧ zs.length ≤ i)
    ⟨Same.new hD, [], upd_same, rfl, Nat.le_refl _⟩ (fun i H' _ ⟨s1, _⟩ => s1.seq (SqL.of ha)) ?_ ?_
  · rintro i x H' hx ⟨s1, zs, hzs, ez, hlen⟩
    obtain ⟨pp, r, rfl, hpi, hri, hpr⟩ := recs_item hp hx
    have hi : i < rs.length := (List.getElem?_eq_some_iff.mp hri).1
    have etake : rs.take (i + 1) = rs.take i ++ [r] := by
      rw [List.take_add_one, hri]
      rfl
    refine ⟨pp, _, rfl, SqT.of (s1 _ _ hpr), rfl, _, _, rfl, _, _, rfl, _, _, rfl, rfl, rfl, ?_⟩
    refine ⟨_, rfl, rfl, _, rfl, ?_⟩
    refine ite2 (fun c => ?_) (fun c => ?_)
    · have hs : sel r = true := (hsel r).mp (of_decide_eq_true c)
      refine hte r (List.mem_of_getElem? hri) _ _ ⟨zs, hzs, small1000 (by omega), fun x o e => ?_, _, upd_same, ?_, ?_⟩
      · rw [upd_ne (ne_of_none e hD)]
        exact s1 x o e
      · rw [etake, List.filter_append, List.filter_cons, if_pos hs, List.map_append, List.map_append, ← ez]
        rfl
      · rw [List.length_append, List.length_singleton]
        omega
    · have hs : ¬ sel r = true := fun z => c (decide_eq_true ((hsel r).mpr z))
      refine ⟨s1, zs, hzs, ?_, by omega⟩
      rw [etake, List.filter_append, List.filter_cons, if_neg hs]
      show zs = List.map V.int (List.map f (List.filter sel (List.take i rs) ++ []))
      rw [List.append_nil]
      exact ez
  · rintro H' ⟨s1, zs, hzs, ez, _⟩
    rw [List.length_map, hp.length, List.take_of_length_le (Nat.le_refl _)] at ez
    subst ez
    exact k H' D s1 hzs
def PhLo (rs : List R) (p q : Int) (v : V) : Prop := (v = .non ∧ ∀ r ∈ rs, r.low = false) ∨ ∃ a ∈ rs, a.low = true ∧ v = .int (loC p q a) ∧ ∀ a' ∈ rs, a'.low = true → loC p q a' ≤ loC p q a
def PhHi (rs : List R) (p q : Int) (v : V) : Prop := (v = .non ∧ ∀ r ∈ rs, r.low = true) ∨ ∃ b ∈ rs, b.low = false ∧ v = .int (hiC p q b) ∧ ∀ b' ∈ rs, b'.low = false → hiC p q b ≤ hiC p q b'
def sp_phase_range : Sp := fun vs H Q _ => ∃ (a b : Addr) (rs : List R) (p q : Int), vs = [.ref a, .ref b] ∧ RecsAt H a rs ∧ rs.length ≤ 200 ∧ okRs rs ∧ H b = some (.tup [.int p, .int q]) ∧ sm B p ∧ sm B q ∧
  ∀ (t : Addr) (H' : Hp) (lv gv : V), Same H H' → H' t = some (.tup [lv, gv]) → PhLo rs p q lv → PhHi rs p q gv → Q (.ref t) H'
theorem sc_phase_range : FnScope ["records", "rate", "p", "q", "lower", "bound", "time", "number", "upper"] ["records", "rate"] (defScope s_phase_range) := ⟨rfl, rfl, rfl, by decide +kernel, rfl, by decide +kernel, by decide +kernel⟩
theorem ok_phase_range {f : Addr} {fd : FuncData} (F : Fun K "phase_range" "phase_range" s_phase_range f fd) (T : Txt K mg) : FnOk P w K mg base CX0 1 f fd ["records", "rate"] sp_phase_range := by
  refine F.ok sc_phase_range (fun vs H Q E h => ?_) (fun cdv A outer s H vs Q E hr h => ?_)
  · obtain ⟨a, b, rs, p, q, rfl, _⟩ := h
    rfl
  · obtain ⟨a, b, rs, p, q, rfl, hR, hl, ok, hb, sp, sq, k⟩ := h
    refine ⟨_, (pss_cons (ps_asg (pv 1) (pg_tup rfl (pgs_cons (pg_name (i := 2) sc_phase_range.nd rfl (Or.inr rfl)) (pgs_cons (pg_name (i := 3) sc_phase_range.nd rfl (Or.inr rfl)) pgs_nil))))
      (pss_cons (ps_setLc (i := 4) (own := [("bound", 5), ("time", 6), ("number", 7)]) rfl sc_phase_range.nd rfl rfl (sw_true rfl rfl rfl (by decide +kernel)) (pi_list (pv 0)) (blkOk_by (own := [("bound", 5), ("time", 6), ("number", 7)]) (N := ["records", "rate", "p", "q", "lower", "bound", "time", "number", "upper"]) (sc := defScope s_phase_range) (by decide +kernel)) (fun _ _ _ _ _ => (pg_tupK (K := K) (n := 3) rfl rfl (pgs_cons (pg_name (i := 5) sc_phase_range.nd rfl (Or.inl rfl) (.inr rfl)) (pgs_cons (pg_name (i := 6) sc_phase_range.nd rfl (Or.inl rfl) (.inr rfl)) (pgs_cons (pg_name (i := 7) sc_phase_range.nd rfl (Or.inl rfl) (.inr rfl)) pgs_nil))))) (fun _ _ _ _ _ => pts_one (pt_cmpR op_eq (pv 5) pe_str (nomark _))) (fun _ _ _ _ _ => (pe_op op_sub (pe_op op_mulW (pv 7) (pv 3)) (pe_op op_mulW (pv 2) (pv 6)))))
      (pss_cons (ps_setLc (i := 8) (own := [("bound", 5), ("time", 6), ("number", 7)]) rfl sc_phase_range.nd rfl rfl (sw_true rfl rfl rfl (by decide +kernel)) (pi_list (pv 0)) (blkOk_by (own := [("bound", 5), ("time", 6), ("number", 7)]) (N := ["records", "rate", "p", "q", "lower", "bound", "time", "number", "upper"]) (sc := defScope s_phase_range) (by decide +kernel)) (fun _ _ _ _ _ => (pg_tupK (K := K) (n := 3) rfl rfl (pgs_cons (pg_name (i := 5) sc_phase_range.nd rfl (Or.inl rfl) (.inr rfl)) (pgs_cons (pg_name (i := 6) sc_phase_range.nd rfl (Or.inl rfl) (.inr rfl)) (pgs_cons (pg_name (i := 7) sc_phase_range.nd rfl (Or.inl rfl) (.inr rfl)) pgs_nil))))) (fun _ _ _ _ _ => pts_one (pt_cmpR op_eq (pv 5) pe_str (nomark _))) (fun _ _ _ _ _ => (pe_op op_sub (pe_op op_sub (pe_op op_mulW (pe_op op_add (pv 7) pe_int) (pv 3)) (pe_op op_mulW (pv 2) (pv 6))) pe_int)))
      (pss_one (ps_ret (pe_tup (pa_cons (pe_ifExp (pt_truth (pv 4) (by intro _; rfl)) (pe_callB (cr_max rfl) (by rfl) T.b_max (by decide +kernel) (pa_cons (pv 4) pa_nil)) pe_non) (pa_cons (pe_ifExp (pt_truth (pv 8) (by intro _; rfl)) (pe_callB (cr_min rfl) (by rfl) T.b_min (by decide +kernel) (pa_cons (pv 8) pa_nil)) pe_non) pa_nil)))))))), ?_⟩
    refine ⟨_, rfl, b, _, rfl, SqT.of hb, rfl, _, _, rfl, _, _, rfl, rfl, ?_⟩
    refine st_asg (lc_ints (K := K) (a := a) (b := b) (p := p) (q := q) (x4 := none) (rs := rs) (sel := fun r => r.low) (f := loC p q) hR hl (fun r => kind_low) (fun r hr H' Q' hq => ?_) (fun H1 D1 s1 hD1 => ?_))
    · obtain ⟨st, sn⟩ := ok r hr
      exact ⟨_, rfl, _, rfl, r.n, q, rfl, rfl, mulW sn sq (by decide), _, rfl, _, rfl, p, r.t, rfl, rfl, mulW sp st (by decide), _, _, rfl, rfl, hq⟩
    refine st_asg (lc_ints (K := K) (a := a) (b := b) (p := p) (q := q) (x4 := some (.ref D1)) (rs := rs) (sel := fun r => !r.low) (f := hiC p q) (hR.same s1) hl (fun r => kind_high.trans (by cases r.low <;> simp)) (fun r hr H' Q' hq => ?_) (fun H2 D2 s2 hD2 => ?_))
    · obtain ⟨st, sn⟩ := ok r hr
      exact ⟨_, rfl, _, _, rfl, rfl, _, rfl, r.n + 1, q, rfl, rfl, mulW (sm_add sn (sm_one (by decide))) sq (by decide), _, rfl, _, rfl, p, r.t, rfl, rfl, mulW sp st (by decide), _, _, rfl, rfl, _, _, rfl, rfl, hq⟩
    have hD1' := s2 _ _ hD1
    have sH := s1.trans s2
    -- the end, from the two values
    have fin : ∀ lv gv, PhLo rs p q lv → PhHi rs p q gv → ∀ t, H2 t = none → Q (.ref t) (upd H2 t (.tup [lv, gv])) := fun lv gv h1 h2 t ht =>
      k t _ lv gv (sH.trans (Same.new ht)) upd_same h1 h2
    have mlow : ∀ x, x ∈ rs.filter (fun r => r.low) ↔ x ∈ rs ∧ x.low = true := fun x => List.mem_filter
    have mhigh : ∀ x, x ∈ rs.filter (fun r => !r.low) ↔ x ∈ rs ∧ x.low = false := fun x => by
      rw [List.mem_filter]
      cases x.low <;> simp
    have up : ∀ lv, PhLo rs p q lv → (tCons (tIf (fun σ H Q => tVar 8 σ H fun x H' => ∃ k, TruV K x H' k ∧ Q k H') (tCB (rMin K) (tCons (tVar 8) tNil)) (tC .non)) tNil) [some (.ref a), some (.ref b), some (.int p), some (.int q), some (.ref D1), none, none, none, some (.ref D2)] H2
        (fun ws H3 => ws.length + 1 ≤ sizeLine ∧ ∀ t, H3 t = none → Q (.ref t) (upd H3 t (.tup (lv :: ws)))) := by
      intro lv hlv
      refine ⟨_, rfl, _, .inl ⟨_, SqL.of hD2, rfl⟩, ?_⟩
      cases e : rs.filter (fun r => !r.low) with
      | nil =>
        refine iteF ?_
        refine ⟨by show 2 ≤ sizeLine; decide, fun t ht => fin lv .non hlv (.inl ⟨rfl, fun r hr => ?_⟩) t ht⟩
        cases el : r.low with
        | true => rfl
        | false =>
          have := (mhigh r).mpr ⟨hr, el⟩
          rw [e] at this
          cases this
      | cons r0 rr =>
        rw [e] at hD2
        refine iteT ?_
        refine ⟨_, rfl, D2, (r0 :: rr).map (hiC p q), rfl, SqL.of hD2, Nat.succ_pos _, fun m hm hle => ?_⟩
        refine ⟨by show 2 ≤ sizeLine; decide, fun t ht => fin lv (.int m) hlv (.inr ?_) t ht⟩
        obtain ⟨b0, hb0, rfl⟩ := List.mem_map.mp hm
        rw [← e] at hb0
        obtain ⟨k1, k2⟩ := (mhigh b0).mp hb0
        refine ⟨b0, k1, k2, rfl, fun b' hb' lb' => hle _ (List.mem_map.mpr ⟨b', ?_, rfl⟩)⟩
        rw [← e]
        exact (mhigh b').mpr ⟨hb', lb'⟩
    refine ⟨_, rfl, _, .inl ⟨_, SqL.of hD1', rfl⟩, ?_⟩
    cases e : rs.filter (fun r => r.low) with
    | nil =>
      refine iteF ?_
      refine up .non (.inl ⟨rfl, fun r hr => ?_⟩)
      cases el : r.low with
      | false => rfl
      | true =>
        have := (mlow r).mpr ⟨hr, el⟩
        rw [e] at this
        cases this
    | cons r0 rr =>
      rw [e] at hD1'
      refine iteT ?_
      refine ⟨_, rfl, D1, (r0 :: rr).map (loC p q), rfl, SqL.of hD1', Nat.succ_pos _, fun m hm hle => ?_⟩
      refine up (.int m) (.inr ?_)
      obtain ⟨b0, hb0, rfl⟩ := List.mem_map.mp hm
      rw [← e] at hb0
      obtain ⟨k1, k2⟩ := (mlow b0).mp hb0
      refine ⟨b0, k1, k2, rfl, fun b' hb' lb' => hle _ (List.mem_map.mpr ⟨b', ?_, rfl⟩)⟩
      rw [← e]
      exact (mlow b').mpr ⟨hb', lb'⟩
def sp_some_rule : Sp := fun vs H Q _ => ∃ (a : Addr) (rs : List R) (P0 Q0 : Int), vs = [.ref a] ∧ Fit H a rs P0 Q0 ∧
  ∀ (t : Addr) (H' : Hp) (p q c : Int), Same H H' → H' t = some (.tup [.int p, .int q, .int c]) → isRule rs p q c → Q (.ref t) H'
theorem ends_betw {H : Hp} {a : Addr} {rs : List R} {P0 Q0 : Int} {lo hi : End} (fit : Fit H a rs P0 Q0) (h : EndsFor rs lo hi) (slo : szE lo) (shi : szE hi) : BetwPre lo hi :=
  ⟨fun x y e => let ⟨h1, h2, h3⟩ := h.lo0 x y e; ⟨h1, h2, h3, slo _ e⟩, fun x y e => let ⟨h1, h2, h3⟩ := h.hi0 x y e; ⟨h1, h2, h3, shi _ e⟩, P0, Q0, fit.hP, fit.hQ, (h.to P0 Q0 fit.hP fit.hQ).mp fit.fits⟩
theorem sc_some_rule : FnScope ["records", "ends", "rate", "least", "greatest"] ["records"] (defScope s_some_rule) := ⟨rfl, rfl, rfl, by decide +kernel, rfl, by decide +kernel, by decide +kernel⟩
theorem ok_some_rule {f : Addr} {fd : FuncData} (F : Fun K "some_rule" "some_rule" s_some_rule f fd) (T : Txt K mg) (G_ends_of : Cal P w K mg base 5 "ends_of" ["records"] sp_ends_of)
    (G_simplest_between : Cal P w K mg base 4 "simplest_between" ["low", "high"] sp_simplest_between) (G_phase_range : Cal P w K mg base 1 "phase_range" ["records", "rate"] sp_phase_range) :
    FnOk P w K mg base CX0 6 f fd ["records"] sp_some_rule := by
  refine F.ok sc_some_rule (fun vs H Q E h => ?_) (fun cdv A outer s H vs Q E hr h => ?_)
  · obtain ⟨a, rs, P0, Q0, rfl, _⟩ := h
    rfl
  · obtain ⟨a, rs, P0, Q0, rfl, fit, k⟩ := h
    refine ⟨_, (pss_cons (ps_set (i := 1) sc_some_rule.nd rfl (Or.inl rfl) (pe_fn G_ends_of hr rfl (pa_cons (pv 0) pa_nil)))
      (pss_cons (ps_if (pt_cmpR op_isN (pv 1) pe_non (nomark _)) (pss_one (ps_ret pe_non)) pss_nil)
      (pss_cons (ps_set (i := 2) sc_some_rule.nd rfl (Or.inl rfl) (pe_fn G_simplest_between (hr.mono (by decide)) rfl (pa_cons (pe_ix ix_tup (pv 1) pe_int (fun _ _ => rfl)) (pa_cons (pe_ix ix_tup (pv 1) pe_int (fun _ _ => rfl)) pa_nil))))
      (pss_cons (ps_asg (pe_fn G_phase_range (hr.mono (by decide)) rfl (pa_cons (pv 0) (pa_cons (pv 2) pa_nil))) (pg_tup rfl (pgs_cons (pg_name (i := 3) sc_some_rule.nd rfl (Or.inl rfl)) (pgs_cons (pg_name (i := 4) sc_some_rule.nd rfl (Or.inl rfl)) pgs_nil))))
      (pss_cons (ps_if (pt_cmpR op_isN (pv 3) pe_non (nomark _)) (pss_one (ps_set (i := 3) sc_some_rule.nd rfl (Or.inl rfl) (pe_ifExp (pt_cmpR op_isN (pv 4) pe_non (nomark _)) pe_int (pv 4)))) pss_nil)
      (pss_one (ps_ret (pe_tup (pa_cons (pe_ix ix_tup (pv 2) pe_int (fun _ _ => rfl)) (pa_cons (pe_ix ix_tup (pv 2) pe_int (fun _ _ => rfl)) (pa_cons (pv 3) pa_nil))))))))))), ?_⟩
    refine ⟨_, rfl, a, rs, P0, Q0, rfl, fit, fun t1 H1 lv hv lo hi s1 ht1 ol oh ends slo shi => ?_⟩
    refine ⟨_, rfl, rfl, _, rfl, iteDN (fun z => by cases z) ?_⟩
    -- rate = simplest_between(ends[0], ends[1])
    refine ⟨_, rfl, t1, _, 0, _, rfl, rfl, SqT.of ht1, at0, _, rfl, t1, _, 1, _, rfl, rfl, SqT.of ht1, at1, lv, hv, lo, hi, rfl, ol, oh, ends_betw fit ends slo shi, fun p q t2 H2 hs s2 ht2 => ?_⟩
    have hrate := ends.rate.mpr hs
    obtain ⟨hp0, hq0, _, hmin⟩ := id hrate
    obtain ⟨m1, m2⟩ := hmin P0 Q0 fit.hP fit.hQ fit.fits
    have sp : sm B p := sm_le fit.sP hp0 m1
    have sq : sm B q := sm_le fit.sQ (Int.le_of_lt hq0) m2
    have s12 := s1.trans s2
    -- least, greatest = phase_range(records, rate)
    refine ⟨_, rfl, _, rfl, a, t2, rs, p, q, rfl, fit.at_.same s12, fit.few, fit.ok, ht2, sp, sq, fun t3 H3 lv3 gv3 s3 ht3 plo phi => ?_⟩
    refine ⟨t3, _, rfl, SqT.of ht3, rfl, _, _, rfl, _, _, rfl, rfl, ?_⟩
    have s13 := s12.trans s3
    have ht2' := s3 _ _ ht2
    have fin : ∀ (c : Int), isC rs p q c → ∀ t, H3 t = none → Q (.ref t) (upd H3 t (.tup [.int p, .int q, .int c])) := fun c hc t ht =>
      k t _ p q c (s13.trans (Same.new ht)) upd_same ⟨hrate, hc⟩
    refine ⟨_, rfl, rfl, _, rfl, ?_⟩
    rcases plo with ⟨rfl, hno⟩ | ⟨a0, ha0, la0, rfl, hmax⟩
    · refine iteD rfl ?_
      refine ⟨_, rfl, rfl, _, rfl, ?_⟩
      rcases phi with ⟨rfl, hno2⟩ | ⟨b0, hb0, lb0, rfl, hmin2⟩
      · refine iteD rfl ?_
        refine ⟨_, rfl, t2, _, 0, _, rfl, rfl, SqT.of ht2', at0, _, rfl, t2, _, 1, _, rfl, rfl, SqT.of ht2', at1, _, rfl, (by show 3 ≤ sizeLine; decide), fun t ht => fin 0 (.inr (.inr ⟨?_, rfl⟩)) t ht⟩
        cases e : rs with
        | nil => rfl
        | cons r rr =>
          have h1 := hno r (by rw [e]; exact List.mem_cons_self)
          have h2 := hno2 r (by rw [e]; exact List.mem_cons_self)
          rw [h1] at h2
          cases h2
      · refine iteDN (fun z => by cases z) ?_
        refine ⟨_, rfl, ?_⟩
        exact ⟨_, rfl, t2, _, 0, _, rfl, rfl, SqT.of ht2', at0, _, rfl, t2, _, 1, _, rfl, rfl, SqT.of ht2', at1, _, rfl, (by show 3 ≤ sizeLine; decide), fun t ht => fin _ (.inr (.inl ⟨hno, b0, hb0, rfl, fun b' hb' => hmin2 b' hb' (hno b' hb')⟩)) t ht⟩
    · refine iteDN (fun z => by cases z) ?_
      exact ⟨_, rfl, t2, _, 0, _, rfl, rfl, SqT.of ht2', at0, _, rfl, t2, _, 1, _, rfl, rfl, SqT.of ht2', at1, _, rfl, (by show 3 ≤ sizeLine; decide), fun t ht => fin _ (.inl ⟨a0, ha0, la0, rfl, hmax⟩) t ht⟩
theorem sc_least_rule : FnScope ["records", "found"] ["records"] (defScope s_least_rule) := ⟨rfl, rfl, rfl, by decide +kernel, rfl, by decide +kernel, by decide +kernel⟩
theorem ok_least_rule {f : Addr} {fd : FuncData} (F : Fun K "least_rule" "least_rule" s_least_rule f fd) (T : Txt K mg) (G_need_records : Cal P w K mg base 3 "need_records" ["value"] sp_need_records)
    (G_some_rule : Cal P w K mg base 6 "some_rule" ["records"] sp_some_rule) : FnOk P w K mg base CX0 7 f fd ["records"] sp_some_rule := by
  refine F.ok sc_least_rule (fun vs H Q E h => ?_) (fun cdv A outer s H vs Q E hr h => ?_)
  · obtain ⟨a, rs, P0, Q0, rfl, _⟩ := h
    rfl
  · obtain ⟨a, rs, P0, Q0, rfl, fit, k⟩ := h
    refine ⟨_, (pss_cons (ps_expr (pe_fn G_need_records (hr.mono (by decide)) rfl (pa_cons (pv 0) pa_nil)))
      (pss_cons (ps_set (i := 1) sc_least_rule.nd rfl (Or.inl rfl) (pe_fn G_some_rule hr rfl (pa_cons (pv 0) pa_nil)))
      (pss_cons (ps_if (pt_cmpR op_isN (pv 1) pe_non (nomark _)) pss_never pss_nil)
      (pss_one (ps_ret (pv 1)))))), ?_⟩
    refine ⟨_, rfl, a, rs, rfl, fit.at_, fit.few, fun H1 s1 => ?_⟩
    refine ⟨_, rfl, a, rs, P0, Q0, rfl, fit.same s1, fun t H2 p q c s2 ht hru => ?_⟩
    exact ⟨_, rfl, rfl, _, rfl, iteDN (fun z => by cases z) ⟨_, rfl, k t H2 p q c (s1.trans s2) ht hru⟩⟩
def sp_least_cycle : Sp := fun vs H Q _ => ∃ (a : Addr) (rs : List R) (P0 Q0 : Int), vs = [.ref a] ∧ Fit H a rs P0 Q0 ∧ ∀ (H' : Hp) (p q c : Int), Same H H' → isRule rs p q c → Q (.int q) H'
theorem sc_least_cycle : FnScope ["records"] ["records"] (defScope s_least_cycle) := ⟨rfl, rfl, rfl, by decide +kernel, rfl, by decide +kernel, by decide +kernel⟩
theorem ok_least_cycle {f : Addr} {fd : FuncData} (F : Fun K "least_cycle" "least_cycle" s_least_cycle f fd) (T : Txt K mg) (G_least_rule : Cal P w K mg base 7 "least_rule" ["records"] sp_some_rule) :
    FnOk P w K mg base CX0 8 f fd ["records"] sp_least_cycle := by
  refine F.ok sc_least_cycle (fun vs H Q E h => ?_) (fun cdv A outer s H vs Q E hr h => ?_)
  · obtain ⟨a, rs, P0, Q0, rfl, _⟩ := h
    rfl
  · obtain ⟨a, rs, P0, Q0, rfl, fit, k⟩ := h
    refine ⟨_, (pss_one (ps_ret (pe_ix ix_tup (pe_fn G_least_rule hr rfl (pa_cons (pv 0) pa_nil)) pe_int (fun _ _ => rfl)))), ?_⟩
    exact ⟨_, rfl, a, rs, P0, Q0, rfl, fit, fun t H2 p q c s2 ht hru => ⟨t, _, 1, _, rfl, rfl, SqT.of ht, at1, k H2 p q c s2 hru⟩⟩
end
end LF

namespace LF
open PySem PySem.Spec PyProof.Rows L2
section
variable {P : Program} {w : World} {K : PySem.W.Frag} {mg : Str → Option Value} {base : Heap}
/-! ### leapfit.cycles: Line, lower_envelope, Pairs, count_pairs: a cycle that is less than the least one has no pairs -/
abbrev cLine_ (K : PySem.W.Frag) : Addr := He.ga K "Line"
abbrev cPa (K : PySem.W.Frag) : Addr := He.ga K "Pairs"
def sp_Line (C : Addr) : Sp := fun vs H Q _ => ∃ (x dx : Addr) (u v : V), vs = [.ref x, u, v] ∧ H x = some (.ins C dx []) ∧ ∀ H' : Hp, KeepP x H H' → Q .non H'
theorem sc_Line_init : FnScope ["self", "slope", "offset"] ["self", "slope", "offset"] (defScope s_Line_init) := ⟨rfl, rfl, rfl, by decide +kernel, rfl, by decide +kernel, by decide +kernel⟩
theorem ok_Line_init {f : Addr} {fd : FuncData} (F : Fun K "__init__" "Line.__init__" s_Line_init f fd) (T : Txt K mg) : FnOk P w K mg base CX0 1 f fd ["self", "slope", "offset"] (sp_Line (cLine_ K)) := by
  refine F.ok sc_Line_init (fun vs H Q E h => ?_) (fun cdv A outer s H vs Q E hr h => ?_)
  · obtain ⟨x, dx, u, v, rfl, _⟩ := h
    rfl
  · obtain ⟨x, dx, u, v, rfl, hx, k⟩ := h
    refine ⟨_, (pss_cons (ps_fld (pv 0) (pv 1) rfl)
      (pss_one (ps_fld (pv 0) (pv 2) rfl))), ?_⟩
    refine ⟨_, rfl, _, rfl, x, _, dx, [], rfl, hx, T.c_Line, T.n_Line_slope, (by show 0 < 1000; decide), ?_⟩
    refine ⟨_, rfl, _, rfl, x, _, dx, _, rfl, upd_same, T.c_Line, T.n_Line_offset, (by show 1 < 1000; decide), ?_⟩
    exact k _ (KeepP.put.trans KeepP.put)
def sp_lower_envelope : Sp := fun vs H Q _ => ∃ (v : V) (f l : Int), vs = [v, .int f, .int l] ∧ l < f ∧ ∀ (t : Addr) (H' : Hp), Same H H' → H t = none → H' t = some (.lst []) → Q (.ref t) H'
theorem sc_lower_envelope : FnScope ["lines", "first", "last", "found", "p", "line", "changes", "other", "stop", "change"] ["lines", "first", "last"] (defScope s_lower_envelope) := ⟨rfl, rfl, rfl, by decide +kernel, rfl, by decide +kernel, by decide +kernel⟩
theorem ok_lower_envelope {f : Addr} {fd : FuncData} (F : Fun K "lower_envelope" "lower_envelope" s_lower_envelope f fd) (T : Txt K mg) : FnOk P w K mg base CX0 1 f fd ["lines", "first", "last"] sp_lower_envelope := by
  refine F.ok sc_lower_envelope (fun vs H Q E h => ?_) (fun cdv A outer s H vs Q E hr h => ?_)
  · obtain ⟨v, f, l, rfl, _⟩ := h
    rfl
  · obtain ⟨v, f, l, rfl, hlt, k⟩ := h
    refine ⟨_, (pss_cons (ps_asg (pe_tup (pa_cons (pe_lst pa_nil) (pa_cons (pv 1) pa_nil))) (pg_tup rfl (pgs_cons (pg_name (i := 3) sc_lower_envelope.nd rfl (Or.inl rfl)) (pgs_cons (pg_name (i := 4) sc_lower_envelope.nd rfl (Or.inr rfl)) pgs_nil))))
      (pss_cons (ps_while PassesOwn.never (pt_cmpR op_le (pv 4) (pv 2) (nomark _)) pss_never)
      (pss_one (ps_ret (pv 3))))), ?_⟩
    refine ⟨Nat.zero_le _, fun t ht => ⟨_, rfl, (by show 2 ≤ sizeLine; decide), fun q hq => ?_⟩⟩
    have ntq : t ≠ q := ne_of_none upd_same hq
    refine ⟨q, _, rfl, SqT.of upd_same, rfl, _, _, rfl, _, _, rfl, rfl, ?_⟩
    refine ⟨fun m σ H' => H' = upd (upd H t (.lst [])) q (.tup [.ref t, .int f]) ∧ σ = [some v, some (.int f), some (.int l), some (.ref t), some (.int f), none, none, none, none, none], ⟨0, rfl, rfl⟩, ?_⟩
    rintro m σ H' ⟨rfl, rfl⟩
    refine ⟨_, rfl, _, rfl, f, l, rfl, rfl, _, rfl, iteDN (show ¬ f ≤ l by omega) ?_⟩
    exact ⟨_, rfl, k t _ ((Same.new ht).trans (Same.new hq)) ht (by rw [upd_ne ntq]; exact upd_same)⟩
/-- a cycle below the least one -/
theorem no_pairs {lo hi : End} {p q : Int} (h : isSimp lo hi p q) (hq : 1 < q) (zhi : ∀ x y, hi = some (x, y) → 0 < y) (zlo : ∀ x y, lo = some (x, y) → 0 ≤ x ∧ 0 < y) :
    ∃ x y c d, lo = some (x, y) ∧ hi = some (c, d) ∧ ∀ n : Int, 1 ≤ n → n < q → -(-c * n / d) - 1 < x * n / y + 1 := by
  obtain ⟨hp, hq0, hin, hm⟩ := id h
  cases lo with
  | none =>
    have h01 := below_none_of hp hq0 zhi hin.2
    have := (hm 0 1 (Int.le_refl _) (by decide) ⟨fun _ _ e => (by cases e), h01⟩).2
    omega
  | some z =>
    obtain ⟨x, y⟩ := z
    obtain ⟨hx, hy⟩ := zlo x y rfl
    cases hi with
    | none =>
      have := isSimp_unique h (simp_base (hi := none) ⟨hx, hy, fun _ _ e => by cases e⟩ (fun _ _ e => by cases e))
      omega
    | some z =>
      obtain ⟨c, d⟩ := z
      have hd := zhi c d rfl
      refine ⟨x, y, c, d, rfl, rfl, fun n hn hnq => ?_⟩
      rcases Int.lt_or_le (-(-c * n / d) - 1) (x * n / y + 1) with l | l
      · exact l
      · have h1 : x * n < (x * n / y + 1) * y := Int.lt_ediv_add_one_mul_self (x * n) hy
        have h2 : -c * n / d ≤ -(x * n / y + 1) - 1 := by omega
        have h3 : -c * n < (-(x * n / y + 1) - 1 + 1) * d := by
          have := (Int.ediv_lt_iff_lt_mul hd).mp (show -c * n / d < -(x * n / y + 1) - 1 + 1 by omega)
          exact this
        have h4 : (x * n / y + 1) * d < c * n := by
          have e1 : (-(x * n / y + 1) - 1 + 1) * d = -((x * n / y + 1) * d) := by
            rw [Int.sub_add_cancel, Int.neg_mul]
          have e2 : -c * n = -(c * n) := Int.neg_mul _ _
          omega
        have h5 : 0 ≤ x * n / y := Int.ediv_nonneg (Int.mul_nonneg hx (by omega)) (Int.le_of_lt hy)
        have := (hm (x * n / y + 1) n (by omega) (by omega) ⟨fun _ _ e => by cases e; exact h1, fun _ _ e => by cases e; exact h4⟩).2
        omega
theorem RecsP.mono {H H' : Hp} (k : ∀ q xs, H q = some (.tup xs) → H' q = some (.tup xs)) : ∀ {ps : List Addr} {rs : List R}, RecsP H ps rs → RecsP H' ps rs
  | [], [], _ => True.intro
  | _ :: _, _ :: _, h => ⟨k _ _ h.1, RecsP.mono k h.2⟩
  | [], _ :: _, h => h.elim
  | _ :: _, [], h => h.elim
theorem RecsAt.kp {p C dx : Addr} {fs : List (Str × V)} {H H' : Hp} {a : Addr} {rs : List R} (k : KeepP p H H') (hp : H p = some (.ins C dx fs)) (h : RecsAt H a rs) : RecsAt H' a rs := by
  obtain ⟨ps, h1, h2⟩ := h
  exact ⟨ps, k.l hp h1, h2.mono fun q xs e => k.t hp e⟩
def paF2 (f l : Int) : List (Str × V) := [("first", .int f), ("last", .int l)]
def paF3 (f l : Int) (t : Addr) : List (Str × V) := [("first", .int f), ("last", .int l), ("parts", .ref t)]
theorem pa_first {f l : Int} : (paF2 f l).lookup ("first" : Str) = some (.int f) := by kernel_rfl
theorem pa_last {f l : Int} : (paF2 f l).lookup ("last" : Str) = some (.int l) := by kernel_rfl
theorem pa3_last {f l : Int} {t : Addr} : (paF3 f l t).lookup ("last" : Str) = some (.int l) := by kernel_rfl
theorem pa3_parts {f l : Int} {t : Addr} : (paF3 f l t).lookup ("parts" : Str) = some (.ref t) := by kernel_rfl
theorem pa3_total {f l : Int} {t : Addr} : (paF3 f l t).lookup ("total" : Str) = none := by kernel_rfl
theorem pa_make2 {f l : Int} : putF "last" (V.int l) (putF "first" (V.int f) []) = paF2 f l := by kernel_rfl
theorem pa_make3 {f l : Int} {t : Addr} : putF "parts" (V.ref t) (paF2 f l) = paF3 f l t := by kernel_rfl
/-- what stands of a Pairs: the list of its parts is empty -/
def PaAt (C : Addr) (H : Hp) (p : Addr) : Prop := ∃ (dx t : Addr) (f l : Int), H p = some (.ins C dx (paF3 f l t)) ∧ H t = some (.lst [])
/-- [Line(..) for kind, time, number in records if kind == s] -/
theorem lc_lines {te : TE} {Q : VK} {H1 : Hp} {a : Addr} {x0 x2 x3 x4 x5 x6 : Option V} {rs : List R} {s : Str} (hR : RecsAt H1 a rs) (hl : rs.length ≤ 200)
    (hte : ∀ r ∈ rs, ∀ (H' : Hp) (Q' : VK), (∀ (x : Addr) (H2 : Hp), Same H' H2 → Q' (.ref x) H2) → te [x0, some (.ref a), x2, x3, x4, x5, x6, some (.str (kindS r.low)), some (.int r.t), some (.int r.n), none] H' Q')
    (k : ∀ (H' : Hp) (D : Addr), Same H1 H' → Q (.ref D) H') :
    tLc (iList K (tVar 1)) (gTup K 3 (gCons (gName 7) (gCons (gName 8) (gCons (gName 9) gNil)))) (tTest (tOp rEq (tVar 7) (tC (.str s)))) te [7, 8, 9] [x0, some (.ref a), x2, x3, x4, x5, x6, none, none, none, none] H1 Q := by
  obtain ⟨ps, ha, hp⟩ := hR
  refine ⟨_, rfl, a, rfl, ⟨_, SqL.of ha⟩, fun D hD => ?_⟩
  refine lc_list (K := K) (a := a) (xs := ps.map V.ref) (fun i H' => Same H1 H' ∧ ∃ zs : List V, H' D = some (.lst zs) ∧ zs.length ≤ i)
    ⟨Same.new hD, [], upd_same, Nat.le_refl _⟩ (fun i H' _ ⟨s1, _⟩ => s1.seq (SqL.of ha)) ?_ ?_
  · rintro i x H' hx ⟨s1, zs, hzs, hlen⟩
    obtain ⟨pp, r, rfl, hpi, hri, hpr⟩ := recs_item hp hx
    have hi : i < rs.length := (List.getElem?_eq_some_iff.mp hri).1
    refine ⟨pp, _, rfl, SqT.of (s1 _ _ hpr), rfl, _, _, rfl, _, _, rfl, _, _, rfl, rfl, rfl, ?_⟩
    refine ⟨_, rfl, rfl, _, rfl, ?_⟩
    refine ite2 (fun c => ?_) (fun c => ?_)
    · refine hte r (List.mem_of_getElem? hri) _ _ fun x H2 s2 => ⟨zs, s2 _ _ hzs, small1000 (by omega), fun b o e => ?_, _, upd_same, ?_⟩
      · rw [upd_ne (ne_of_none e hD)]
        exact s2 _ _ (s1 b o e)
      · rw [List.length_append, List.length_singleton]
        omega
    · exact ⟨s1, zs, hzs, by omega⟩
  · rintro H' ⟨s1, _⟩
    exact k H' D s1
/-- a Line is made -/
theorem line_made {H' : Hp} {Q' : VK} {u v : V} (h : ∀ (x : Addr) (H2 : Hp), Same H' H2 → Q' (.ref x) H2) : ∀ x dx, H' x = none → H' dx = none → dx ≠ x →
    sp_Line (cLine_ K) [.ref x, u, v] (upd (upd H' dx (.own x)) x (.ins (cLine_ K) dx [])) (fun v H2 => v = .non ∧ Q' (.ref x) H2) E0 := fun x dx nx ndx nex =>
  ⟨x, dx, u, v, rfl, upd_same, fun H2 kp => ⟨rfl, h x H2 (Same.made nx ndx kp)⟩⟩
def sp_Pairs (C : Addr) : Sp := fun vs H Q _ => ∃ (x dx a : Addr) (rs : List R) (P0 Q0 n p q : Int), vs = [.ref x, .ref a, .int n] ∧ H x = some (.ins C dx []) ∧ Fit H a rs P0 Q0 ∧ isRate rs p q ∧ 1 ≤ n ∧ n < q ∧
  ∀ H' : Hp, PaAt C H' x → KeepP x H H' → Q .non H'
theorem sc_Pairs_init : FnScope ["self", "records", "cycle", "interval", "low", "high", "upper", "kind", "time", "number", "lower"] ["self", "records", "cycle"] (defScope s_Pairs_init) := ⟨rfl, rfl, rfl, by decide +kernel, rfl, by decide +kernel, by decide +kernel⟩
theorem ok_Pairs_init {f : Addr} {fd : FuncData} (F : Fun K "__init__" "Pairs.__init__" s_Pairs_init f fd) (T : Txt K mg) (G_ends_of : Cal P w K mg base 5 "ends_of" ["records"] sp_ends_of)
    (G_Line : CalC P w K mg base 1 "Line" (cLine_ K) ["self", "slope", "offset"] (sp_Line (cLine_ K))) (G_lower_envelope : Cal P w K mg base 1 "lower_envelope" ["lines", "first", "last"] sp_lower_envelope) :
    FnOk P w K mg base CX0 6 f fd ["self", "records", "cycle"] (sp_Pairs (cPa K)) := by
  refine F.ok sc_Pairs_init (fun vs H Q E h => ?_) (fun cdv A outer s H vs Q E hr h => ?_)
  · obtain ⟨x, dx, a, rs, P0, Q0, n, p, q, rfl, _⟩ := h
    rfl
  · obtain ⟨x, dx, a, rs, P0, Q0, n, p, q, rfl, hx, fit, hrate, hn1, hnq, k⟩ := h
    refine ⟨_, (pss_cons (ps_set (i := 3) sc_Pairs_init.nd rfl (Or.inl rfl) (pe_fn G_ends_of hr rfl (pa_cons (pv 1) pa_nil)))
      (pss_cons (ps_if (pt_cmpR op_isN (pv 3) pe_non (nomark _)) pss_never pss_nil)
      (pss_cons (ps_asg (pv 3) (pg_tup rfl (pgs_cons (pg_name (i := 4) sc_Pairs_init.nd rfl (Or.inl rfl)) (pgs_cons (pg_name (i := 5) sc_Pairs_init.nd rfl (Or.inl rfl)) pgs_nil))))
      (pss_cons (ps_if (pt_cmpR op_isN (pv 5) pe_non (nomark _)) pss_never pss_nil)
      (pss_cons (ps_fld (pv 0) (pe_ifExp (pt_cmpR op_isN (pv 4) pe_non (nomark _)) pe_int (pe_op op_add (pe_op op_fdivW (pe_op op_mulW (pe_ix ix_tup (pv 4) pe_int (fun _ _ => rfl)) (pv 2)) (pe_ix ix_tup (pv 4) pe_int (fun _ _ => rfl))) pe_int)) rfl)
      (pss_cons (ps_fld (pv 0) (pe_op op_sub (pe_un un_neg (pe_op op_fdivW (pe_op op_mulW (pe_un un_neg (pe_ix ix_tup (pv 5) pe_int (fun _ _ => rfl))) (pv 2)) (pe_ix ix_tup (pv 5) pe_int (fun _ _ => rfl)))) pe_int) rfl)
      (pss_cons (ps_setLc (i := 6) (own := [("kind", 7), ("time", 8), ("number", 9)]) rfl sc_Pairs_init.nd rfl rfl (sw_true rfl rfl rfl (by decide +kernel)) (pi_list (pv 1)) (blkOk_by (own := [("kind", 7), ("time", 8), ("number", 9)]) (N := ["self", "records", "cycle", "interval", "low", "high", "upper", "kind", "time", "number", "lower"]) (sc := defScope s_Pairs_init) (by decide +kernel)) (fun _ _ _ _ _ => (pg_tupK (K := K) (n := 3) rfl rfl (pgs_cons (pg_name (i := 7) sc_Pairs_init.nd rfl (Or.inl rfl) (.inr rfl)) (pgs_cons (pg_name (i := 8) sc_Pairs_init.nd rfl (Or.inl rfl) (.inr rfl)) (pgs_cons (pg_name (i := 9) sc_Pairs_init.nd rfl (Or.inl rfl) (.inr rfl)) pgs_nil))))) (fun _ _ _ _ _ => pts_one (pt_cmpR op_eq (pv 7) pe_str (nomark _))) (fun _ _ _ _ _ => (pe_mk G_Line (hr.mono (by decide)) rfl (pa_cons (pe_un un_neg (pv 8)) (pa_cons (pe_op op_mulW (pe_op op_add (pv 9) pe_int) (pv 2)) pa_nil)))))
      (pss_cons (ps_setLc (i := 10) (own := [("kind", 7), ("time", 8), ("number", 9)]) rfl sc_Pairs_init.nd rfl rfl (sw_true rfl rfl rfl (by decide +kernel)) (pi_list (pv 1)) (blkOk_by (own := [("kind", 7), ("time", 8), ("number", 9)]) (N := ["self", "records", "cycle", "interval", "low", "high", "upper", "kind", "time", "number", "lower"]) (sc := defScope s_Pairs_init) (by decide +kernel)) (fun _ _ _ _ _ => (pg_tupK (K := K) (n := 3) rfl rfl (pgs_cons (pg_name (i := 7) sc_Pairs_init.nd rfl (Or.inl rfl) (.inr rfl)) (pgs_cons (pg_name (i := 8) sc_Pairs_init.nd rfl (Or.inl rfl) (.inr rfl)) (pgs_cons (pg_name (i := 9) sc_Pairs_init.nd rfl (Or.inl rfl) (.inr rfl)) pgs_nil))))) (fun _ _ _ _ _ => pts_one (pt_cmpR op_eq (pv 7) pe_str (nomark _))) (fun _ _ _ _ _ => (pe_mk G_Line (hr.mono (by decide)) rfl (pa_cons (pv 8) (pa_cons (pe_op op_mulW (pe_un un_neg (pv 9)) (pv 2)) pa_nil)))))
      (pss_one (ps_fld (pv 0) (pe_op op_cat (pe_fn G_lower_envelope (hr.mono (by decide)) rfl (pa_cons (pv 6) (pa_cons (pe_fld (pv 0) rfl) (pa_cons (pe_fld (pv 0) rfl) pa_nil)))) (pe_fn G_lower_envelope (hr.mono (by decide)) rfl (pa_cons (pv 10) (pa_cons (pe_fld (pv 0) rfl) (pa_cons (pe_fld (pv 0) rfl) pa_nil))))) rfl)))))))))), ?_⟩
    refine ⟨_, rfl, a, rs, P0, Q0, rfl, fit, fun t1 H1 lv hv lo hi s1 ht1 ol oh ends slo shi => ?_⟩
    refine ⟨_, rfl, rfl, _, rfl, iteDN (fun z => by cases z) ?_⟩
    refine ⟨_, rfl, t1, _, rfl, SqT.of ht1, rfl, _, _, rfl, _, _, rfl, rfl, ?_⟩
    have hs := ends.rate.mp hrate
    obtain ⟨lx, ly, hc, hd, elo, ehi, hno⟩ := no_pairs hs (by omega) (fun x y e => (ends.hi0 x y e).2.1) (fun x y e => let ⟨h1, h2, _⟩ := ends.lo0 x y e; ⟨h1, h2⟩)
    subst elo ehi
    obtain ⟨lp, rfl, gl⟩ := ol.at_
    obtain ⟨hp, rfl, gh⟩ := oh.at_
    obtain ⟨sl1, sl2⟩ := slo _ rfl
    obtain ⟨sh1, sh2⟩ := shi _ rfl
    obtain ⟨hlx, hly, _⟩ := ends.lo0 _ _ rfl
    obtain ⟨hhc, hhd, _⟩ := ends.hi0 _ _ rfl
    have hmin := (hrate.2.2.2 P0 Q0 fit.hP fit.hQ fit.fits).2
    have sn : sm B n := sm_le fit.sQ (by omega) (by omega)
    have lt := hno n hn1 hnq
    -- if high is None
    refine ⟨_, rfl, rfl, _, rfl, iteDN (fun z => by cases z) ?_⟩
    have hx1 := s1 _ _ hx
    -- self.first
    refine ⟨_, rfl, rfl, _, rfl, iteDN (fun z => by cases z) ?_⟩
    refine ⟨_, rfl, lp, _, 0, _, rfl, rfl, SqT.of gl, at0, _, rfl, _, _, rfl, rfl, mulW sl1 sn (by decide), _, rfl, lp, _, 1, _, rfl, rfl, SqT.of gl, at1, _, _, rfl, rfl, divW hly sl2 (by decide), _, _, rfl, rfl, _, rfl, x, _, dx, [], rfl, hx1, T.c_Pairs, T.n_Pairs_first, (by show 0 < 1000; decide), ?_⟩
    -- self.last
    have nhx : hp ≠ x := ne_of gh hx1 (by intro z; cases z)
    have gh' : ∀ o, (upd H1 x o) hp = some (.tup [.int hc, .int hd]) := fun o => by rw [upd_ne nhx]; exact gh
    refine ⟨_, rfl, hp, _, 0, _, rfl, rfl, SqT.of (gh' _), at0, hc, rfl, _, rfl, _, _, rfl, rfl, mulW (sm_neg sh1) sn (by decide), _, rfl, hp, _, 1, _, rfl, rfl, SqT.of (gh' _), at1, _, _, rfl, rfl, divW hhd sh2 (by decide), _, rfl, _, _, rfl, rfl, _, rfl, x, _, dx, _, rfl, upd_same, T.c_Pairs, T.n_Pairs_last, (by show 1 < 1000; decide), ?_⟩
    rw [upd_upd]
    show (tSeq _ _) _ _ (upd H1 x (.ins (cPa K) dx (putF "last" (V.int (-(-hc * n / hd) - 1)) (putF "first" (V.int (lx * n / ly + 1)) []))))
    rw [pa_make2]
    have kx : KeepP x H (upd H1 x (.ins (cPa K) dx (paF2 (lx * n / ly + 1) (-(-hc * n / hd) - 1)))) := (KeepP.of s1).trans KeepP.put
    have hx2 : (upd H1 x (.ins (cPa K) dx (paF2 (lx * n / ly + 1) (-(-hc * n / hd) - 1)))) x = some (.ins (cPa K) dx (paF2 (lx * n / ly + 1) (-(-hc * n / hd) - 1))) := upd_same
    have hR2 : RecsAt (upd H1 x (.ins (cPa K) dx (paF2 (lx * n / ly + 1) (-(-hc * n / hd) - 1)))) a rs := RecsAt.kp kx hx fit.at_
    generalize upd H1 x (.ins (cPa K) dx (paF2 (lx * n / ly + 1) (-(-hc * n / hd) - 1))) = H2 at kx hx2 hR2
    -- upper, lower
    refine st_asg (lc_lines (K := K) (a := a) (rs := rs) (x0 := some (.ref x)) (x2 := some (.int n)) (x3 := some (.ref t1)) (x4 := some (.ref lp)) (x5 := some (.ref hp)) (x6 := none) hR2 fit.few (fun r hr H' Q' hq => ?_) (fun H3 D1 s3 => ?_))
    · obtain ⟨st, snn⟩ := fit.ok r hr
      exact ⟨_, rfl, r.t, rfl, _, rfl, _, _, rfl, rfl, _, rfl, r.n + 1, n, rfl, rfl, mulW (sm_add snn (sm_one (by decide))) sn (by decide), line_made hq⟩
    refine st_asg (lc_lines (K := K) (a := a) (rs := rs) (x0 := some (.ref x)) (x2 := some (.int n)) (x3 := some (.ref t1)) (x4 := some (.ref lp)) (x5 := some (.ref hp)) (x6 := some (.ref D1)) (hR2.same s3) fit.few (fun r hr H' Q' hq => ?_) (fun H4 D2 s4 => ?_))
    · obtain ⟨st, snn⟩ := fit.ok r hr
      exact ⟨_, rfl, _, rfl, r.n, rfl, _, rfl, _, _, rfl, rfl, mulW (sm_neg snn) sn (by decide), line_made hq⟩
    have s24 := s3.trans s4
    have hx4 := s24 _ _ hx2
    -- self.parts
    refine ⟨_, rfl, _, rfl, x, _, dx, _, _, rfl, hx4, T.c_Pairs, T.n_Pairs_first, pa_first, _, rfl, x, _, dx, _, _, rfl, hx4, T.c_Pairs, T.n_Pairs_last, pa_last, _, _, _, rfl, lt, fun u1 H5 s5 nu1 hu1 => ?_⟩
    have hx5 := s5 _ _ hx4
    refine ⟨_, rfl, _, rfl, x, _, dx, _, _, rfl, hx5, T.c_Pairs, T.n_Pairs_first, pa_first, _, rfl, x, _, dx, _, _, rfl, hx5, T.c_Pairs, T.n_Pairs_last, pa_last, _, _, _, rfl, lt, fun u2 H6 s6 nu2 hu2 => ?_⟩
    have hx6 := s6 _ _ hx5
    refine ⟨u1, u2, [], [], rfl, rfl, s6 _ _ hu1, hu2, Nat.zero_le _, fun u3 nu3 => ?_⟩
    have hx7 := Same.new (o := HO.lst ([] ++ [])) nu3 _ _ hx6
    have nxu : x ≠ u3 := ne_of_none hx6 nu3
    refine ⟨_, rfl, x, _, dx, _, rfl, hx7, T.c_Pairs, T.n_Pairs_parts, (by show 2 < 1000; decide), ?_⟩
    rw [pa_make3]
    refine k _ ⟨dx, u3, _, _, upd_same, by rw [upd_ne (Ne.symm nxu)]; exact upd_same⟩ ?_
    exact ((kx.trans (.of s24)).trans (.of (((s5.trans s6).trans (Same.new nu3))))).trans KeepP.put
def sp_Pairs_total (C : Addr) : Sp := fun vs H Q _ => ∃ (x : Addr) (u v : V), vs = [.ref x, u, v] ∧ PaAt C H x ∧ Q (.int 0) H
theorem sc_Pairs_total : FnScope ["self", "last", "step", "result", "start", "stop", "line", "one", "two", "number"] ["self", "last", "step"] (defScope s_Pairs_total) := ⟨rfl, rfl, rfl, by decide +kernel, rfl, by decide +kernel, by decide +kernel⟩
theorem ok_Pairs_total {f : Addr} {fd : FuncData} (F : Fun K "total" "Pairs.total" s_Pairs_total f fd) (T : Txt K mg) : FnOk P w K mg base CX0 1 f fd ["self", "last", "step"] (sp_Pairs_total (cPa K)) := by
  refine F.ok sc_Pairs_total (fun vs H Q E h => ?_) (fun cdv A outer s H vs Q E hr h => ?_)
  · obtain ⟨x, u, v, rfl, _⟩ := h
    rfl
  · obtain ⟨x, u, v, rfl, ⟨dx, t, f, l, hx, ht⟩, k⟩ := h
    refine ⟨_, (pss_cons (ps_set (i := 3) sc_Pairs_total.nd rfl (Or.inl rfl) pe_int)
      (pss_cons (ps_for PassesOwn.never rfl (pi_list (pe_fld (pv 0) rfl)) (pg_tup rfl (pgs_cons (pg_name (i := 4) sc_Pairs_total.nd rfl (Or.inl rfl)) (pgs_cons (pg_name (i := 5) sc_Pairs_total.nd rfl (Or.inl rfl)) (pgs_cons (pg_name (i := 6) sc_Pairs_total.nd rfl (Or.inl rfl)) pgs_nil)))) pss_never)
      (pss_one (ps_ret (pv 3))))), ?_⟩
    refine ⟨_, rfl, x, _, dx, _, _, rfl, hx, T.c_Pairs, T.n_Pairs_parts, pa3_parts, t, rfl, ⟨_, SqL.of ht⟩, ?_⟩
    refine for_list (K := K) (a := t) (xs := []) (fun i σ H' => H' = H ∧ σ = [some (.ref x), some u, some v, some (.int 0), none, none, none, none, none, none]) ⟨rfl, rfl⟩ (fun i σ H' _ ⟨e, _⟩ => by rw [e]; exact SqL.of ht) ?_ ?_
    · intro i x σ H' hx _
      cases hx
    · rintro σ H' ⟨rfl, rfl⟩
      exact ⟨_, rfl, k⟩
def sp_count_pairs : Sp := fun vs H Q _ => ∃ (a : Addr) (rs : List R) (P0 Q0 n p q : Int), vs = [.ref a, .int n] ∧ Fit H a rs P0 Q0 ∧ isRate rs p q ∧ 1 ≤ n ∧ n < q ∧ n ≤ 10 ^ 60 ∧ ∀ H' : Hp, Same H H' → Q (.int 0) H'
theorem sc_count_pairs : FnScope ["records", "cycle", "pairs"] ["records", "cycle"] (defScope s_count_pairs) := ⟨rfl, rfl, rfl, by decide +kernel, rfl, by decide +kernel, by decide +kernel⟩
theorem ok_count_pairs {f : Addr} {fd : FuncData} (F : Fun K "count_pairs" "count_pairs" s_count_pairs f fd) (T : Txt K mg) (G_need_records : Cal P w K mg base 3 "need_records" ["value"] sp_need_records)
    (G_need_number : CalK P w K mg base 2 "need_number" ["value", "least", "most"] 1 ["least", "most"] sp_need_number) (G_Pairs : CalC P w K mg base 6 "Pairs" (cPa K) ["self", "records", "cycle"] (sp_Pairs (cPa K)))
    (G_Pairs_total : CalM P w K mg base 1 (cPa K) "total" ["self", "last", "step"] (sp_Pairs_total (cPa K))) : FnOk P w K mg base CX0 8 f fd ["records", "cycle"] sp_count_pairs := by
  refine F.ok sc_count_pairs (fun vs H Q E h => ?_) (fun cdv A outer s H vs Q E hr h => ?_)
  · obtain ⟨a, rs, P0, Q0, n, p, q, rfl, _⟩ := h
    rfl
  · obtain ⟨a, rs, P0, Q0, n, p, q, rfl, fit, hrate, hn1, hnq, hn60, k⟩ := h
    refine ⟨_, (pss_cons (ps_expr (pe_fn G_need_records (hr.mono (by decide)) rfl (pa_cons (pv 0) pa_nil)))
      (pss_cons (ps_expr (pe_fnK G_need_number (hr.mono (by decide)) rfl (pa_cons (pv 1) pa_nil) (pk_cons pe_int (pk_cons (pe_gint rfl T.MOST_CYCLE) pk_nil))))
      (pss_cons (ps_set (i := 2) sc_count_pairs.nd rfl (Or.inl rfl) (pe_mk G_Pairs hr rfl (pa_cons (pv 0) (pa_cons (pv 1) pa_nil))))
      (pss_one (ps_ret (pe_me (pv 2) T.c_Pairs G_Pairs_total (hr.mono (by decide)) (pa_cons (pe_fld (pv 2) rfl) (pa_cons pe_int pa_nil)))))))), ?_⟩
    refine ⟨_, rfl, a, rs, rfl, fit.at_, fit.few, fun H1 s1 => ?_⟩
    refine ⟨_, rfl, rfl, rfl, n, 1, 10 ^ 60, rfl, hn1, hn60, ?_⟩
    refine ⟨_, rfl, _, rfl, fun x dx nx ndx nex => ?_⟩
    have s0 : Same H1 (upd (upd H1 dx (.own x)) x (.ins (cPa K) dx [])) := fun b o e => by
      rw [upd_ne (ne_of_none e nx), upd_ne (ne_of_none e ndx)]
      exact e
    refine ⟨x, dx, a, rs, P0, Q0, n, p, q, rfl, upd_same, fit.same (s1.trans s0), hrate, hn1, hnq, fun H2 pa kp => ⟨rfl, ?_⟩⟩
    have s2 : Same H H2 := s1.trans (Same.made nx ndx kp)
    obtain ⟨dx', t, f, l, g, ht⟩ := id pa
    refine ⟨_, rfl, x, dx', _, rfl, g, pa3_total, _, rfl, x, _, dx', _, _, rfl, g, T.c_Pairs, T.n_Pairs_last, pa3_last, x, _, _, rfl, pa, k H2 s2⟩
end
end LF

namespace LF
open PySem PySem.Spec PyProof.Rows L2
section
variable {P : Program} {w : World} {K : PySem.W.Frag} {mg : Str → Option Value} {base : Heap}
/-! ### the law's own: the pen -/
def penK (a : Addr) (t l : Int) : List (Key × V) := [(Sum.inr "cells", .ref a), (Sum.inr "turn", .int t), (Sum.inr "left", .int l)]
theorem pen_left {a : Addr} {t l : Int} : valV (penK a t l) (Sum.inr ("left" : Str) : Key) = some (.int l) := by kernel_rfl
theorem pen_turn {a : Addr} {t l : Int} : valV (penK a t l) (Sum.inr ("turn" : Str) : Key) = some (.int t) := by kernel_rfl
theorem pen_cells {a : Addr} {t l : Int} : valV (penK a t l) (Sum.inr ("cells" : Str) : Key) = some (.ref a) := by kernel_rfl
theorem pen_put_left {a : Addr} {t l x : Int} : putK (penK a t l) (Sum.inr ("left" : Str) : Key) (.int x) = penK a t x := by kernel_rfl
theorem pen_put_turn {a : Addr} {t l x : Int} : putK (penK a t l) (Sum.inr ("turn" : Str) : Key) (.int x) = penK a x l := by kernel_rfl
theorem pen_make {a : Addr} : mergeK [] (penK a 0 0) = penK a 0 0 := by kernel_rfl
section
variable {H : Hp} {d a : Addr} {t l x : Int}
theorem pg_left (h : H d = some (.dK (penK a t l))) : DGet H d (.str "left") (some (.int l)) := by
  have q := DGet.k (k := Sum.inr ("left" : Str)) h
  rw [pen_left] at q
  exact q
theorem pg_turn (h : H d = some (.dK (penK a t l))) : DGet H d (.str "turn") (some (.int t)) := by
  have q := DGet.k (k := Sum.inr ("turn" : Str)) h
  rw [pen_turn] at q
  exact q
theorem pg_cells (h : H d = some (.dK (penK a t l))) : DGet H d (.str "cells") (some (.ref a)) := by
  have q := DGet.k (k := Sum.inr ("cells" : Str)) h
  rw [pen_cells] at q
  exact q
theorem pp_left (h : H d = some (.dK (penK a t l))) : DPut H d (.str "left") (.int x) (upd H d (.dK (penK a t x))) := by
  have q := DPut.k (k := Sum.inr ("left" : Str)) (v := .int x) h (by show 3 < sizeLine; decide)
  rw [pen_put_left] at q
  exact q
theorem pp_turn (h : H d = some (.dK (penK a t l))) : DPut H d (.str "turn") (.int x) (upd H d (.dK (penK a x l))) := by
  have q := DPut.k (k := Sum.inr ("turn" : Str)) (v := .int x) h (by show 3 < sizeLine; decide)
  rw [pen_put_turn] at q
  exact q
end
/-- the pen stands at d, its turn at most M -/
def PenAt (H : Hp) (d a : Addr) (M : Int) : Prop := ∃ (cs : List Int) (t l : Int), H d = some (.dK (penK a t l)) ∧ H a = some (.lst (cs.map V.int)) ∧ cs.length ≤ 63 ∧ 0 ≤ t ∧ t ≤ M ∧ 0 ≤ l
theorem PenAt.mono {H : Hp} {d a : Addr} {M N : Int} (h : PenAt H d a M) (l : M ≤ N) : PenAt H d a N := by
  obtain ⟨cs, t, le, h1, h2, h3, h4, h5, h6⟩ := h
  exact ⟨cs, t, le, h1, h2, h3, h4, by omega, h6⟩
theorem PenAt.same {H H' : Hp} {d a : Addr} {M : Int} (h : PenAt H d a M) (s : Same H H') : PenAt H' d a M := by
  obtain ⟨cs, t, le, h1, h2, h3⟩ := h
  exact ⟨cs, t, le, s _ _ h1, s _ _ h2, h3⟩
/-- a list of one's own changes -/
theorem PenAt.put {H : Hp} {d a l : Addr} {M : Int} {xs : List V} {o : HO} (h : PenAt H d a M) (hl : H l = some (.lst xs)) (n : a ≠ l) : PenAt (upd H l o) d a M := by
  obtain ⟨cs, t, le, h1, h2, h3⟩ := h
  exact ⟨cs, t, le, by rw [upd_ne (ne_of h1 hl (by intro z; cases z))]; exact h1, by rw [upd_ne n]; exact h2, h3⟩
theorem PenAt.cells {H : Hp} {d a : Addr} {M : Int} (h : PenAt H d a M) : ∃ xs, H a = some (.lst xs) := by
  obtain ⟨cs, t, le, h1, h2, h3⟩ := h
  exact ⟨_, h2⟩
theorem Keep.put {H : Hp} {d : Addr} {kvs : List (Key × V)} {o : HO} (h : H d = some (.dK kvs)) : Keep H (upd H d o) := fun c u e n => by
  rw [upd_ne fun z => ?_]
  · exact e
  · subst z
    rw [h] at e
    exact n kvs (Option.some.inj e).symm
def sp_law_pen (K : PySem.W.Frag) : Sp := fun vs H Q _ => ∃ (a : Addr) (ns : List Int), vs = [.ref a] ∧ SqL K H a (ns.map V.int) ∧ ∀ (H' : Hp) (d pa : Addr), Same H H' → PenAt H' d pa 0 → Q (.ref d) H'
theorem cut63 (ns : List Int) : cutV (ns.map V.int) none (some 63) = (ns.take 63).map V.int ∧ (ns.take 63).length ≤ 63 := by
  refine ⟨?_, by rw [List.length_take]; omega⟩
  have e0 : HT.sIx (ns.map V.int).length 0 none = 0 := by rfl
  unfold cutV
  rw [e0, List.drop_zero, List.map_take, Nat.sub_zero]
  have e1 : HT.sIx (ns.map V.int).length (ns.map V.int).length (some 63) = min 63 (ns.map V.int).length := by
    simp [HT.sIx]
    try omega
  rw [e1]
  rcases Nat.le_total 63 (ns.map V.int).length with l | l
  · rw [Nat.min_eq_left l]
  · rw [Nat.min_eq_right l, List.take_of_length_le (Nat.le_refl _), List.take_of_length_le l]
theorem sc__law_pen : FnScope ["_law_script"] ["_law_script"] (defScope s__law_pen) := ⟨rfl, rfl, rfl, by decide +kernel, rfl, by decide +kernel, by decide +kernel⟩
theorem ok_law_pen {f : Addr} {fd : FuncData} (F : Fun K "_law_pen" "_law_pen" s__law_pen f fd) (T : Txt K mg) : FnOk P w K mg base CX0 1 f fd ["_law_script"] (sp_law_pen K) := by
  refine F.ok sc__law_pen (fun vs H Q E h => ?_) (fun cdv A outer s H vs Q E hr h => ?_)
  · obtain ⟨a, ns, rfl, _⟩ := h
    rfl
  · obtain ⟨a, ns, rfl, hS, k⟩ := h
    refine ⟨_, (pss_one (ps_ret (pe_disp (pps_cons pe_str (pe_callTy call_list_of (by rfl) T.b_list (by decide +kernel) (pa_cons (pe_slice sl_list (pv 0) po_none (po_some pe_int)) pa_nil)) (pps_cons pe_str pe_int (pps_cons pe_str pe_int pps_nil))) (by rfl) (by rfl) (fun z => by cases z) (by decide)))), ?_⟩
    intro d hd
    obtain ⟨ec, lc⟩ := cut63 ns
    refine ⟨_, rfl, 63, rfl, a, _, rfl, (Same.new hd).seq hS, fun q hq => ?_⟩
    rw [ec]
    refine ⟨q, _, rfl, .inl (SqL.of upd_same), fun l hl => ?_⟩
    have ndq : d ≠ q := ne_of_none upd_same hq
    have hd2 : (upd (upd H d (.dK [])) q (.lst ((ns.take 63).map V.int))) d = some (.dK []) := by rw [upd_ne ndq]; exact upd_same
    have ndl : d ≠ l := ne_of_none hd2 hl
    refine ⟨(by rw [upd_ne ndl]; exact hd2), penK l 0 0, rfl, (by show 3 ≤ 15; decide), ?_⟩
    rw [pen_make]
    refine k _ d l (fun b o e => ?_) ⟨ns.take 63, 0, 0, upd_same, (by rw [upd_ne (Ne.symm ndl)]; exact upd_same), lc, Int.le_refl _, Int.le_refl _, Int.le_refl _⟩
    have nbd : b ≠ d := ne_of_none e hd
    have e1 : (upd H d (.dK [])) b = some o := by rw [upd_ne nbd]; exact e
    have nbq : b ≠ q := ne_of_none e1 hq
    have e2 : (upd (upd H d (.dK [])) q (.lst ((ns.take 63).map V.int))) b = some o := by rw [upd_ne nbq]; exact e1
    rw [upd_ne nbd, upd_ne (ne_of_none e2 hl)]
    exact e2
end
end LF

namespace LF
open PySem PySem.Spec PyProof.Rows L2
section
variable {P : Program} {w : World} {K : PySem.W.Frag} {mg : Str → Option Value} {base : Heap}
theorem iteTe {b : Bool} {A B : Prop} (e : b = true) (h : A) : if b = true then A else B := by
  rw [e]
  exact iteT h
theorem iteFe {b : Bool} {A B : Prop} (e : b = false) (h : B) : if b = true then A else B := by
  rw [e]
  exact iteF h
/-- two ways meet -/
theorem st_join {t u : TS} {D : Ends} {σ : L2.St} {H : Hp} (J : L2.St → Hp → Prop) (h : ∀ N : L2.St → Hp → Prop, (∀ σ' H', J σ' H' → N σ' H') → t { D with nx := N } σ H) (k : ∀ σ' H', J σ' H' → u D σ' H') : tSeq t u D σ H := h (u D) k
theorem st_setS {te : TE} {i : Nat} {u : TS} {D : Ends} {σ : L2.St} {H : Hp} (h : te σ H fun x H1 => u D (σ.set i (some x)) H1) : tSeq (tAsg te (gName i)) u D σ H := h
theorem st_joinIf {c : TT} {t1 t2 u : TS} {D : Ends} {σ : L2.St} {H : Hp} (J : L2.St → Hp → Prop) (h : ∀ N : L2.St → Hp → Prop, (∀ σ' H', J σ' H' → N σ' H') → tIfS c t1 t2 { D with nx := N } σ H) (k : ∀ σ' H', J σ' H' → u D σ' H') :
    tSeq (tIfS c t1 t2) u D σ H := h (u D) k
theorem eqv_nil : PyData.eqv (.list []) (.list []) = true := by simp [PyData.eqv, PyData.eqvAll]
theorem eqv_cons {x : PyData} {xs : List PyData} : PyData.eqv (.list (x :: xs)) (.list []) = false := by simp [PyData.eqv, PyData.eqvAll]
theorem dp_ints {H : Hp} : ∀ cs : List Int, DpAll K H (cs.map V.int) (cs.map PyData.int)
  | [] => .nil
  | c :: cs => .cons (.int c) (dp_ints cs)
theorem sm_abs {k : Nat} {x : Int} (h0 : 0 ≤ x) (h : x < 2 ^ k) : sm k x := sm_of_lt h0 h
theorem keep_new_put {H H1 : Hp} {q : Addr} {o : HO} (k : Keep H H1) (h : H1 q = none) : Keep H (upd H1 q o) := k.trans (Keep.new h)
def sp_law_draw : Sp := fun vs H Q _ => ∃ (d a : Addr) (m M : Int), vs = [.ref d, .int m] ∧ PenAt H d a M ∧ 0 < m ∧ m ≤ 1000000 ∧ M ≤ 100000 ∧ ∀ (H' : Hp) (r : Int), 0 ≤ r → r < m → PenAt H' d a (M + 1) → Keep H H' → Q (.int r) H'
theorem sc__law_draw : FnScope ["_law_pen_here", "_law_many", "_law_digit", "_law_turn", "_law_cell", "_law_mix"] ["_law_pen_here", "_law_many"] (defScope s__law_draw) := ⟨rfl, rfl, rfl, by decide +kernel, rfl, by decide +kernel, by decide +kernel⟩
theorem ok_law_draw {f : Addr} {fd : FuncData} (F : Fun K "_law_draw" "_law_draw" s__law_draw f fd) (T : Txt K mg) : FnOk P w K mg base CX0 1 f fd ["_law_pen_here", "_law_many"] sp_law_draw := by
  refine F.ok sc__law_draw (fun vs H Q E h => ?_) (fun cdv A outer s H vs Q E hr h => ?_)
  · obtain ⟨d, a, m, M, rfl, _⟩ := h
    rfl
  · obtain ⟨d, a, m, M, rfl, ⟨cs, t, l, hd, ha, hlen, ht0, htM, hl0⟩, hm0, hm1, hM, k⟩ := h
    refine ⟨_, (pss_cons (ps_if (pt_cmpR op_gt (pe_dget (hu_of hr) (pv 0) pe_str (fun _ _ => rfl)) pe_int (nomark _)) (pss_cons (ps_set (i := 2) sc__law_draw.nd rfl (Or.inl rfl) (pe_op op_mod (pe_dget (hu_of hr) (pv 0) pe_str (fun _ _ => rfl)) (pv 1)))
      (pss_cons (ps_dput (hu_of hr) (pv 0) pe_str (pe_op op_fdivW (pe_dget (hu_of hr) (pv 0) pe_str (fun _ _ => rfl)) (pv 1)) rfl)
      (pss_one (ps_ret (pv 2))))) pss_nil)
      (pss_cons (ps_set (i := 3) sc__law_draw.nd rfl (Or.inl rfl) (pe_dget (hu_of hr) (pv 0) pe_str (fun _ _ => rfl)))
      (pss_cons (ps_dput (hu_of hr) (pv 0) pe_str (pe_op op_add (pv 3) pe_int) rfl)
      (pss_cons (ps_set (i := 4) sc__law_draw.nd rfl (Or.inl rfl) (pe_op op_add (pe_op op_mulW pe_int (pv 3)) pe_int))
      (pss_cons (ps_if (pt_cmpR (op_neD hr.units) (pe_dget (hu_of hr) (pv 0) pe_str (fun _ _ => rfl)) (pe_lst pa_nil) (nomark _)) (pss_one (ps_set (i := 4) sc__law_draw.nd rfl (Or.inl rfl) (pe_ix ix_list (pe_dget (hu_of hr) (pv 0) pe_str (fun _ _ => rfl)) (pe_op op_mod (pv 3) (pe_callB call_len_seq (by rfl) T.b_len (by decide +kernel) (pa_cons (pe_dget (hu_of hr) (pv 0) pe_str (fun _ _ => rfl)) pa_nil))) (fun _ _ => rfl)))) pss_nil)
      (pss_cons (ps_if (PW.pt (pw_and (pt_cmpR op_lt (pv 3) (pe_callB call_len_seq (by rfl) T.b_len (by decide +kernel) (pa_cons (pe_dget (hu_of hr) (pv 0) pe_str (fun _ _ => rfl)) pa_nil)) (nomark _)) (pw_and1 (pt_cmpR op_ge (pe_callB call_abs (by rfl) T.b_abs (by decide +kernel) (pa_cons (pv 4) pa_nil)) (pe_op op_pow pe_int pe_int) (nomark _))))) (pss_cons (ps_dput (hu_of hr) (pv 0) pe_str (pe_op op_fdivW (pe_op op_sub (pe_callB call_abs (by rfl) T.b_abs (by decide +kernel) (pa_cons (pv 4) pa_nil)) (pe_op op_pow pe_int pe_int)) (pv 1)) rfl)
      (pss_one (ps_ret (pe_op op_mod (pe_op op_sub (pe_callB call_abs (by rfl) T.b_abs (by decide +kernel) (pa_cons (pv 4) pa_nil)) (pe_op op_pow pe_int pe_int)) (pv 1))))) pss_nil)
      (pss_cons (ps_set (i := 5) sc__law_draw.nd rfl (Or.inl rfl) (pe_op op_mod (pe_op op_add (pe_op op_add (pe_op op_add (pe_op op_mulW (pe_op op_mod (pv 4) pe_int) pe_int) (pe_op op_mulW (pe_op op_mulW pe_int (pv 3)) (pv 3))) (pe_op op_mulW pe_int (pv 3))) pe_int) pe_int))
      (pss_cons (ps_set (i := 5) sc__law_draw.nd rfl (Or.inl rfl) (pe_op op_mod (pe_op op_add (pe_op op_add (pe_op op_add (pe_op op_mulW (pv 5) (pv 5)) (pe_op op_mulW pe_int (pv 5))) (pe_op op_mulW pe_int (pv 3))) pe_int) pe_int))
      (pss_one (ps_ret (pe_op op_mod (pe_op op_fdivW (pe_op op_mod (pe_op op_mulW (pv 5) (pe_op op_add (pv 5) pe_int)) pe_int) pe_int) (pv 1)))))))))))), ?_⟩
    have had : a ≠ d := ne_of ha hd (by intro z; cases z)
    have smm : sm 20 m := sm_of_lt (Int.le_of_lt hm0) (by have : (2 : Int) ^ 20 = 1048576 := by decide
                                                          omega)
    have dm : CDivW l m := divW hm0 smm (by decide)
    -- if pen["left"] > 0
    refine ⟨_, rfl, d, _, rfl, pg_left hd, l, 0, rfl, rfl, _, rfl, ?_⟩
    refine ite2 (fun c => ?_) (fun c => ?_)
    · refine ⟨_, rfl, d, _, rfl, pg_left hd, _, rfl, l, m, rfl, rfl, hm0, ?_⟩
      refine ⟨_, rfl, d, _, rfl, pg_left hd, _, rfl, l, m, rfl, rfl, dm, _, rfl, d, _, rfl, pp_left hd, ?_⟩
      refine ⟨_, rfl, k _ (l % m) (Int.emod_nonneg l (by omega)) (Int.emod_lt_of_pos l hm0) ⟨cs, t, l / m, upd_same, by rw [upd_ne had]; exact ha, hlen, ht0, by omega, Int.ediv_nonneg hl0 (Int.le_of_lt hm0)⟩ (Keep.put hd)⟩
    · have hl : l = 0 := by
        have : ¬ 0 < l := fun z => c (decide_eq_true z)
        omega
      subst hl
      -- turn = pen["turn"]; pen["turn"] = turn + 1
      refine ⟨_, rfl, d, _, rfl, pg_turn hd, ?_⟩
      refine ⟨_, rfl, _, _, rfl, rfl, _, rfl, d, _, rfl, pp_turn hd, ?_⟩
      have k1 : Keep H (upd H d (.dK (penK a (t + 1) 0))) := Keep.put hd
      have hd1 : (upd H d (.dK (penK a (t + 1) 0))) d = some (.dK (penK a (t + 1) 0)) := upd_same
      have ha1 : (upd H d (.dK (penK a (t + 1) 0))) a = some (.lst (cs.map V.int)) := by rw [upd_ne had]; exact ha
      generalize upd H d (.dK (penK a (t + 1) 0)) = H1 at k1 hd1 ha1
      have smt : sm 20 t := sm_of_lt ht0 (by have : (2 : Int) ^ 20 = 1048576 := by decide
                                             omega)
      -- cell = 53 * turn + 19
      dsimp only
      refine st_setS ?_
      refine ⟨_, rfl, 53, t, rfl, rfl, mulW (a := 10) (b := 20) (by unfold sm; decide) smt (by decide), _, _, rfl, rfl, ?_⟩
      -- if pen["cells"] != []: ..
      refine st_joinIf (fun σ' H' => ∃ c : Int, σ' = [some (.ref d), some (.int m), none, some (.int t), some (.int c), none] ∧ Keep H H' ∧ H' d = some (.dK (penK a (t + 1) 0)) ∧ H' a = some (.lst (cs.map V.int))) (fun N hN => ?_) ?_
      · refine ⟨_, rfl, d, _, rfl, pg_cells hd1, Nat.zero_le _, fun q hq => ?_⟩
        have k2 := keep_new_put (o := .lst []) k1 hq
        have hd2 := Same.new (o := HO.lst []) hq _ _ hd1
        have ha2 := Same.new (o := HO.lst []) hq _ _ ha1
        refine ⟨.list (cs.map PyData.int), .list [], .lst (SqL.of ha2) (dp_ints cs), .lst (SqL.of upd_same) .nil, PySem.W.ke_shaped_ints cs, rfl, _, rfl, ?_⟩
        cases cs with
        | nil => exact iteFe (by rw [List.map_nil, eqv_nil]; rfl) (hN _ _ ⟨53 * t + 19, rfl, k2, hd2, ha2⟩)
        | cons c0 cr =>
          refine iteTe (by rw [List.map_cons, eqv_cons]; rfl) ?_
          have hL : (0 : Int) < (((c0 :: cr).map V.int).length : Int) := by
            rw [List.length_map, List.length_cons]
            omega
          have h1 := Int.emod_nonneg t (show (((c0 :: cr).map V.int).length : Int) ≠ 0 by omega)
          have h2 := Int.emod_lt_of_pos t hL
          obtain ⟨j, hj⟩ := Int.eq_ofNat_of_zero_le h1
          have hjl : j < ((c0 :: cr).map V.int).length := by omega
          have hjl' : j < (c0 :: cr).length := by rw [List.length_map] at hjl; exact hjl
          have e : ((c0 :: cr).map V.int)[j]? = some (V.int ((c0 :: cr)[j])) := by
            rw [List.getElem?_map, List.getElem?_eq_getElem hjl']
            rfl
          exact ⟨_, rfl, d, _, rfl, pg_cells hd2, _, rfl, _, rfl, d, _, rfl, pg_cells hd2, a, _, rfl, .inl (SqL.of ha2), t, _, rfl, rfl, hL, a, (c0 :: cr).map V.int, t % (((c0 :: cr).map V.int).length : Int), _, rfl, rfl, SqL.of ha2, at_of hj e, hN _ _ ⟨_, rfl, k2, hd2, ha2⟩⟩
      · rintro σ' H2 ⟨c, rfl, k2, hd2, ha2⟩
        have ep : (10 : Int) ^ (18 : Int).toNat = 1000000000000000000 := by decide
        have habs : 0 ≤ (if c < 0 then -c else c) := by split <;> omega
        -- if turn < len(pen["cells"]) and abs(cell) >= 10 ** 18
        refine st_joinIf (fun σ' H' => σ' = [some (.ref d), some (.int m), none, some (.int t), some (.int c), none] ∧ H' = H2) (fun N hN => ?_) ?_
        · refine ⟨_, rfl, _, rfl, d, _, rfl, pg_cells hd2, a, _, rfl, .inl (SqL.of ha2), t, _, rfl, rfl, _, rfl, ?_⟩
          refine ite2 (fun c1 => ?_) (fun c1 => ?_)
          · refine ⟨_, rfl, c, rfl, 10, 18, rfl, rfl, ⟨by decide, by decide, by decide⟩, _, _, rfl, rfl, _, rfl, ?_⟩
            refine ite2 (fun c2 => ?_) (fun c2 => ?_)
            · have h18 : (10 : Int) ^ (18 : Int).toNat ≤ (if c < 0 then -c else c) := of_decide_eq_true c2
              rw [ep] at h18
              refine ⟨_, rfl, c, rfl, 10, 18, rfl, rfl, ⟨by decide, by decide, by decide⟩, _, _, rfl, rfl, _, rfl, _, m, rfl, rfl, divW hm0 smm (by decide), _, rfl, d, _, rfl, pp_left hd2, ?_⟩
              refine ⟨_, rfl, c, rfl, 10, 18, rfl, rfl, ⟨by decide, by decide, by decide⟩, _, _, rfl, rfl, _, rfl, _, m, rfl, rfl, hm0, ?_⟩
              have had2 : a ≠ d := had
              rw [ep]
              exact k _ _ (Int.emod_nonneg _ (by omega)) (Int.emod_lt_of_pos _ hm0) ⟨cs, t + 1, _, upd_same, by rw [upd_ne had2]; exact ha2, hlen, by omega, by omega, Int.ediv_nonneg (by omega) (Int.le_of_lt hm0)⟩ (k2.trans (Keep.put hd2))
            · exact hN _ _ ⟨rfl, rfl⟩
          · exact hN _ _ ⟨rfl, rfl⟩
        · rintro σ' H' ⟨rfl, rfl⟩
          have b1 : sm 31 (c % 2147483647) := sm_of_lt (Int.emod_nonneg c (by decide)) (Int.lt_trans (Int.emod_lt_of_pos c (show (0 : Int) < 2147483647 by decide)) (by decide))
          have sc : ∀ x : Int, x.natAbs < 1048576 → sm 20 x := fun x h => h
          refine ⟨_, rfl, c, _, rfl, rfl, (by show (0 : Int) < 2147483647; decide), _, _, rfl, rfl, mulW b1 (sc 69621 (by decide)) (by decide), _, rfl, 48271, _, rfl, rfl, mulW (sc 48271 (by decide)) smt (by decide), _, rfl, _, _, rfl, rfl, mulW (sm_mul (sc 48271 (by decide)) smt) smt (by decide), _, _, rfl, rfl, _, rfl, 30011, _, rfl, rfl, mulW (sc 30011 (by decide)) smt (by decide), _, _, rfl, rfl, _, _, rfl, rfl, _, _, rfl, rfl, (by show (0 : Int) < 2147483629; decide), ?_⟩
          dsimp only
          generalize hx : (c % 2147483647 * 69621 + 48271 * t * t + 30011 * t + 23) % 2147483629 = x
          have b2 : sm 31 x := by
            rw [← hx]
            exact sm_of_lt (Int.emod_nonneg _ (by decide)) (Int.lt_trans (Int.emod_lt_of_pos _ (show (0 : Int) < 2147483629 by decide)) (by decide))
          refine ⟨_, rfl, _, rfl, x, x, rfl, rfl, mulW b2 b2 (by decide), _, rfl, 40692, _, rfl, rfl, mulW (sc 40692 (by decide)) b2 (by decide), _, _, rfl, rfl, _, rfl, 11, _, rfl, rfl, mulW (sc 11 (by decide)) smt (by decide), _, _, rfl, rfl, _, _, rfl, rfl, _, _, rfl, rfl, (by show (0 : Int) < 2147483587; decide), ?_⟩
          dsimp only
          generalize hy : (x * x + 40692 * x + 11 * t + 5) % 2147483587 = y
          have b3 : sm 31 y := by
            rw [← hy]
            exact sm_of_lt (Int.emod_nonneg _ (by decide)) (Int.lt_trans (Int.emod_lt_of_pos _ (show (0 : Int) < 2147483587 by decide)) (by decide))
          refine ⟨_, rfl, _, rfl, _, _, rfl, rfl, y, _, rfl, rfl, mulW b3 (sm_add b3 (sm_mono (sc 16807 (by decide)) (by decide))) (by decide), _, _, rfl, rfl, (by show (0 : Int) < 2147483579; decide), _, _, rfl, rfl, divW (by decide) (sc 32 (by decide)) (by decide), _, rfl, _, _, rfl, rfl, hm0, ?_⟩
          exact k _ _ (Int.emod_nonneg _ (by omega)) (Int.emod_lt_of_pos _ hm0) ⟨cs, t + 1, 0, hd2, ha2, hlen, by omega, by omega, Int.le_refl _⟩ k2
end
end LF

namespace LF
open PySem PySem.Spec PyProof.Rows L2
section
variable {P : Program} {w : World} {K : PySem.W.Frag} {mg : Str → Option Value} {base : Heap}
def sp_law_pick : Sp := fun vs H Q _ => ∃ (d pa o : Addr) (xs : List V) (M : Int), vs = [.ref d, .ref o] ∧ PenAt H d pa M ∧ M ≤ 100000 ∧ H o = some (.lst xs) ∧ 0 < xs.length ∧ xs.length ≤ 1000 ∧ ∀ (H' : Hp) (x : V), x ∈ xs → PenAt H' d pa (M + 1) → Keep H H' → Q x H'
theorem sc__law_pick : FnScope ["_law_pen_here", "_law_options"] ["_law_pen_here", "_law_options"] (defScope s__law_pick) := ⟨rfl, rfl, rfl, by decide +kernel, rfl, by decide +kernel, by decide +kernel⟩
theorem ok_law_pick {f : Addr} {fd : FuncData} (F : Fun K "_law_pick" "_law_pick" s__law_pick f fd) (T : Txt K mg) (G__law_draw : Cal P w K mg base 1 "_law_draw" ["_law_pen_here", "_law_many"] sp_law_draw) :
    FnOk P w K mg base CX0 2 f fd ["_law_pen_here", "_law_options"] sp_law_pick := by
  refine F.ok sc__law_pick (fun vs H Q E h => ?_) (fun cdv A outer s H vs Q E hr h => ?_)
  · obtain ⟨d, pa, o, xs, M, rfl, _⟩ := h
    rfl
  · obtain ⟨d, pa, o, xs, M, rfl, pen, hM, ho, h0, h1, k⟩ := h
    refine ⟨_, (pss_one (ps_ret (pe_ix ix_list (pv 1) (pe_fn G__law_draw hr rfl (pa_cons (pv 0) (pa_cons (pe_callB call_len_seq (by rfl) T.b_len (by decide +kernel) (pa_cons (pv 1) pa_nil)) pa_nil))) (fun _ _ => rfl)))), ?_⟩
    refine ⟨_, rfl, _, rfl, _, rfl, o, xs, rfl, .inl (SqL.of ho), d, pa, xs.length, M, rfl, pen, by omega, by omega, hM, fun H1 r hr0 hr1 pen1 k1 => ?_⟩
    obtain ⟨j, rfl⟩ := Int.eq_ofNat_of_zero_le hr0
    have hj : j < xs.length := by omega
    exact ⟨o, xs, (j : Int), xs[j], rfl, rfl, SqL.of (k1.l ho), atI_nat (List.getElem?_eq_getElem hj), k H1 _ (List.getElem_mem hj) pen1 k1⟩
theorem pow10_le {a b : Nat} (h : a ≤ b) : (10 : Int) ^ a ≤ 10 ^ b := by
  have : ((10 ^ a : Nat) : Int) ≤ ((10 ^ b : Nat) : Int) := Int.ofNat_le.mpr (Nat.pow_le_pow_right (by decide) h)
  simpa using this
theorem sm10 {x : Int} {a : Nat} (h0 : 0 ≤ x) (h : x < 10 ^ a) (ha : a ≤ 40) : sm 140 x :=
  sm_of_lt h0 (Int.lt_of_lt_of_le h (Int.le_trans (pow10_le ha) (by decide)))
theorem sm20 {x : Int} {a : Nat} (h0 : 0 ≤ x) (h : x < 10 ^ a) (ha : a ≤ 20) : sm 68 x :=
  sm_of_lt h0 (Int.lt_of_lt_of_le h (Int.le_trans (pow10_le ha) (by decide)))
def sp_law_natural : Sp := fun vs H Q _ => ∃ (d pa : Addr) (f M : Int), vs = [.ref d, .int f] ∧ PenAt H d pa M ∧ 0 ≤ f ∧ f ≤ 40 ∧ M + 20 ≤ 100000 ∧ ∀ (H' : Hp) (r : Int), 0 ≤ r → r < 10 ^ f.toNat → PenAt H' d pa (M + 20) → Keep H H' → Q (.int r) H'
theorem sc__law_natural : FnScope ["_law_pen_here", "_law_figures", "_law_result", "_law_k"] ["_law_pen_here", "_law_figures"] (defScope s__law_natural) := ⟨rfl, rfl, rfl, by decide +kernel, rfl, by decide +kernel, by decide +kernel⟩
theorem ok_law_natural {f : Addr} {fd : FuncData} (F : Fun K "_law_natural" "_law_natural" s__law_natural f fd) (T : Txt K mg) (G__law_draw : Cal P w K mg base 1 "_law_draw" ["_law_pen_here", "_law_many"] sp_law_draw) :
    FnOk P w K mg base CX0 2 f fd ["_law_pen_here", "_law_figures"] sp_law_natural := by
  refine F.ok sc__law_natural (fun vs H Q E h => ?_) (fun cdv A outer s H vs Q E hr h => ?_)
  · obtain ⟨d, pa, f, M, rfl, _⟩ := h
    rfl
  · obtain ⟨d, pa, f, M, rfl, pen, hf0, hf1, hM, k⟩ := h
    refine ⟨_, (pss_cons (ps_set (i := 2) sc__law_natural.nd rfl (Or.inl rfl) pe_int)
      (pss_cons (ps_for PassesOwn.never rfl (pi_range1 rfl T.b_range (pa_cons (pe_op op_fdivW (pv 1) pe_int) pa_nil)) (pg_name (i := 3) sc__law_natural.nd rfl (Or.inl rfl)) (pss_one (ps_set (i := 2) sc__law_natural.nd rfl (Or.inl rfl) (pe_op op_add (pe_op op_mulW pe_int (pv 2)) (pe_fn G__law_draw hr rfl (pa_cons (pv 0) (pa_cons pe_int pa_nil)))))))
      (pss_one (ps_ret (pe_ifExp (pt_cmpR op_eq (pe_op op_mod (pv 1) pe_int) pe_int (nomark _)) (pv 2) (pe_op op_add (pe_op op_mulW pe_int (pv 2)) (pe_fn G__law_draw hr rfl (pa_cons (pv 0) (pa_cons pe_int pa_nil))))))))), ?_⟩
    have h3 : 0 ≤ f / 3 := Int.ediv_nonneg hf0 (by decide)
    refine ⟨_, rfl, f, 3, rfl, rfl, divW (by decide) (show sm 20 3 by unfold sm; decide) (by decide), f / 3, rfl, (by omega), (by omega), ?_⟩
    refine for_range (lo := 0) (n := (f / 3).toNat) (fun i σ H' => ∃ (r : Int) (x : Option V), σ = [some (.ref d), some (.int f), some (.int r), x] ∧ 0 ≤ r ∧ r < 10 ^ (3 * i) ∧ PenAt H' d pa (M + i) ∧ Keep H H')
      ⟨0, none, rfl, Int.le_refl _, (by show (0 : Int) < 10 ^ (3 * 0); decide), pen.mono (by omega), Keep.refl _⟩ ?_ ?_
    · rintro i σ H' hi ⟨r, x, rfl, hr0, hr1, pen1, k1⟩
      have sr := sm10 hr0 hr1 (by omega)
      refine ⟨_, rfl, 1000, r, rfl, rfl, mulW (a := 20) (by unfold sm; decide) sr (by decide), _, rfl, d, pa, 1000, M + i, rfl, pen1, by decide, by decide, by omega, fun H2 z hz0 hz1 pen2 k2 => ?_⟩
      refine ⟨_, _, rfl, rfl, 1000 * r + z, _, rfl, by omega, ?_, pen2.mono (by omega), k1.trans k2⟩
      have e : (10 : Int) ^ (3 * (i + 1)) = 1000 * 10 ^ (3 * i) := by
        rw [Nat.mul_succ, Int.pow_add, Int.mul_comm]
        rfl
      omega
    · rintro σ H' ⟨r, x, rfl, hr0, hr1, pen1, k1⟩
      have hn : 3 * (f / 3).toNat ≤ f.toNat := by omega
      refine ⟨_, rfl, f, 3, rfl, rfl, (by show (0 : Int) < 3; decide), rfl, _, rfl, ?_⟩
      refine ite2 (fun c => ?_) (fun c => ?_)
      · exact ⟨_, rfl, k H' r hr0 (Int.lt_of_lt_of_le hr1 (pow10_le hn)) (pen1.mono (by omega)) k1⟩
      · have hc : f % 3 ≠ 0 := fun z => c (decide_eq_true (congrArg V.int z))
        have hn2 : 3 * (f / 3).toNat + 1 ≤ f.toNat := by omega
        have sr := sm10 hr0 hr1 (by omega)
        refine ⟨_, rfl, 10, r, rfl, rfl, mulW (a := 20) (by unfold sm; decide) sr (by decide), _, rfl, d, pa, 10, _, rfl, pen1, by decide, by decide, by omega, fun H2 z hz0 hz1 pen2 k2 => ?_⟩
        refine ⟨_, _, rfl, rfl, k H2 (10 * r + z) (by omega) (Int.lt_of_lt_of_le ?_ (pow10_le hn2)) (pen2.mono (by omega)) (k1.trans k2)⟩
        rw [Int.pow_succ]
        omega
def sp_law_integer : Sp := fun vs H Q _ => ∃ (d pa : Addr) (f M : Int), vs = [.ref d, .int f] ∧ PenAt H d pa M ∧ 0 ≤ f ∧ f ≤ 40 ∧ M + 30 ≤ 100000 ∧ ∀ (H' : Hp) (r : Int), -(10 ^ f.toNat) < r → r < 10 ^ f.toNat → PenAt H' d pa (M + 30) → Keep H H' → Q (.int r) H'
theorem sc__law_integer : FnScope ["_law_pen_here", "_law_figures"] ["_law_pen_here", "_law_figures"] (defScope s__law_integer) := ⟨rfl, rfl, rfl, by decide +kernel, rfl, by decide +kernel, by decide +kernel⟩
theorem ok_law_integer {f : Addr} {fd : FuncData} (F : Fun K "_law_integer" "_law_integer" s__law_integer f fd) (T : Txt K mg) (G__law_natural : Cal P w K mg base 2 "_law_natural" ["_law_pen_here", "_law_figures"] sp_law_natural)
    (G__law_pick : Cal P w K mg base 2 "_law_pick" ["_law_pen_here", "_law_options"] sp_law_pick) : FnOk P w K mg base CX0 3 f fd ["_law_pen_here", "_law_figures"] sp_law_integer := by
  refine F.ok sc__law_integer (fun vs H Q E h => ?_) (fun cdv A outer s H vs Q E hr h => ?_)
  · obtain ⟨d, pa, f, M, rfl, _⟩ := h
    rfl
  · obtain ⟨d, pa, f, M, rfl, pen, hf0, hf1, hM, k⟩ := h
    refine ⟨_, (pss_one (ps_ret (pe_op op_mulW (pe_fn G__law_natural hr rfl (pa_cons (pv 0) (pa_cons (pv 1) pa_nil))) (pe_fn G__law_pick hr rfl (pa_cons (pv 0) (pa_cons (pe_lst (pa_cons pe_int (pa_cons (pe_un un_neg pe_int) pa_nil))) pa_nil)))))), ?_⟩
    refine ⟨_, rfl, _, rfl, d, pa, f, M, rfl, pen, hf0, hf1, by omega, fun H1 r hr0 hr1 pen1 k1 => ?_⟩
    have sr := sm10 hr0 hr1 (by omega)
    refine ⟨_, rfl, 1, rfl, (by show 2 ≤ sizeLine; decide), fun o ho => ?_⟩
    have k2 := keep_new_put (o := .lst [.int 1, .int (-1)]) k1 ho
    refine ⟨d, pa, o, _, M + 20, rfl, pen1.same (Same.new ho), by omega, upd_same, by decide, by decide, fun H2 x hx pen2 k3 => ?_⟩
    have k4 := k2.trans k3
    have p10 : (0 : Int) < 10 ^ f.toNat := Int.pow_pos (by decide)
    rcases List.mem_cons.mp hx with rfl | hx
    · refine ⟨r, 1, rfl, rfl, mulW sr (sm_one (a := 1) (by decide)) (by decide), ?_⟩
      exact k H2 (r * 1) (by omega) (by omega) (pen2.mono (by omega)) k4
    · obtain rfl := List.mem_singleton.mp hx
      refine ⟨r, -1, rfl, rfl, mulW sr (b := 1) (by unfold sm; decide) (by decide), ?_⟩
      exact k H2 (r * (-1)) (by omega) (by omega) (pen2.mono (by omega)) k4
def sp_law_gcd : Sp := fun vs H Q _ => ∃ m n : Int, vs = [.int m, .int n] ∧ Q (.int (Int.gcd m n : Nat)) H
theorem abs_gcd {m n : Int} : Int.gcd (if m < 0 then -m else m) (if n < 0 then -n else n) = Int.gcd m n := by
  rw [gcd_abs]
  split
  · exact Int.gcd_neg
  · rfl
theorem sc__law_gcd : FnScope ["_law_one", "_law_two"] ["_law_one", "_law_two"] (defScope s__law_gcd) := ⟨rfl, rfl, rfl, by decide +kernel, rfl, by decide +kernel, by decide +kernel⟩
theorem ok_law_gcd {f : Addr} {fd : FuncData} (F : Fun K "_law_gcd" "_law_gcd" s__law_gcd f fd) (T : Txt K mg) : FnOk P w K mg base CX0 1 f fd ["_law_one", "_law_two"] sp_law_gcd := by
  refine F.ok sc__law_gcd (fun vs H Q E h => ?_) (fun cdv A outer s H vs Q E hr h => ?_)
  · obtain ⟨m, n, rfl, _⟩ := h
    rfl
  · obtain ⟨m, n, rfl, k⟩ := h
    refine ⟨_, (pss_cons (ps_par (i := 0) (j := 1) rfl sc__law_gcd.nd rfl rfl (by decide) rfl rfl (pa_cons (pe_callB call_abs (by rfl) T.b_abs (by decide +kernel) (pa_cons (pv 0) pa_nil)) (pa_cons (pe_callB call_abs (by rfl) T.b_abs (by decide +kernel) (pa_cons (pv 1) pa_nil)) pa_nil)) (by rfl))
      (pss_cons (ps_while PassesOwn.never (pt_cmpR op_gt (pv 1) pe_int (nomark _)) (pss_one (ps_par (i := 0) (j := 1) rfl sc__law_gcd.nd rfl rfl (by decide) rfl rfl (pa_cons (pv 1) (pa_cons (pe_op op_mod (pv 0) (pv 1)) pa_nil)) (by rfl))))
      (pss_one (ps_ret (pv 0))))), ?_⟩
    refine ⟨_, rfl, m, rfl, _, rfl, n, rfl, _, _, rfl, ?_⟩
    refine ⟨fun l σ H' => H' = H ∧ ∃ a b : Int, σ = [some (.int a), some (.int b)] ∧ l = b.toNat ∧ 0 ≤ a ∧ 0 ≤ b ∧ Int.gcd a b = Int.gcd m n, ⟨_, rfl, _, _, rfl, rfl, (by split <;> omega), (by split <;> omega), abs_gcd⟩, ?_⟩
    rintro l σ H' ⟨rfl, a, b, rfl, rfl, ha, hb, e⟩
    refine ⟨_, rfl, _, _, rfl, rfl, _, rfl, ?_⟩
    refine ite2 (fun c => ?_) (fun c => ?_)
    · have hb0 : 0 < b := of_decide_eq_true c
      refine ⟨_, fun σ' H'' n => n, ?_⟩
      refine ⟨_, rfl, _, rfl, _, rfl, a, b, rfl, rfl, hb0, _, _, rfl, ?_⟩
      have h1 := Int.emod_nonneg a (show b ≠ 0 by omega)
      have h2 := Int.emod_lt_of_pos a hb0
      exact ⟨(a % b).toNat, by omega, rfl, b, a % b, rfl, rfl, hb, h1, by rw [gcd_step ha hb0, e]⟩
    · have hb0 : b = 0 := by
        have : ¬ 0 < b := fun z => c (decide_eq_true z)
        omega
      subst hb0
      refine ⟨_, rfl, ?_⟩
      rw [← e, gcd_done ha] at k
      exact k
def sp_law_count_at : Sp := fun vs H Q _ => ∃ (r : Addr) (t p q c : Int), vs = [.ref r, .int t] ∧ H r = some (.tup [.int p, .int q, .int c]) ∧ sm B p ∧ sm B t ∧ 0 < q ∧ sm B q ∧ Q (.int (cnt p q c t)) H
theorem sc__law_count_at : FnScope ["_law_rule", "_law_t"] ["_law_rule", "_law_t"] (defScope s__law_count_at) := ⟨rfl, rfl, rfl, by decide +kernel, rfl, by decide +kernel, by decide +kernel⟩
theorem ok_law_count_at {f : Addr} {fd : FuncData} (F : Fun K "_law_count_at" "_law_count_at" s__law_count_at f fd) (T : Txt K mg) : FnOk P w K mg base CX0 1 f fd ["_law_rule", "_law_t"] sp_law_count_at := by
  refine F.ok sc__law_count_at (fun vs H Q E h => ?_) (fun cdv A outer s H vs Q E hr h => ?_)
  · obtain ⟨r, t, p, q, c, rfl, _⟩ := h
    rfl
  · obtain ⟨r, t, p, q, c, rfl, hr', sp, st, hq, sq, k⟩ := h
    refine ⟨_, (pss_one (ps_ret (pe_op op_fdivW (pe_op op_add (pe_op op_mulW (pe_ix ix_tup (pv 0) pe_int (fun _ _ => rfl)) (pv 1)) (pe_ix ix_tup (pv 0) pe_int (fun _ _ => rfl))) (pe_ix ix_tup (pv 0) pe_int (fun _ _ => rfl))))), ?_⟩
    have hs : SqT K H r [.int p, .int q, .int c] := SqT.of hr'
    exact ⟨_, rfl, r, _, 0, _, rfl, rfl, hs, at0, _, rfl, p, t, rfl, rfl, mulW sp st (by decide), _, rfl, r, _, 2, _, rfl, rfl, hs, at2, _, _, rfl, rfl, _, rfl, r, _, 1, _, rfl, rfl, hs, at1, _, q, rfl, rfl, divW hq sq (by decide), k⟩
def sp_law_hidden : Sp := fun vs H Q _ => ∃ (d pa : Addr) (f M : Int), vs = [.ref d, .int f] ∧ PenAt H d pa M ∧ 0 ≤ f ∧ f ≤ 20 ∧ M + 100 ≤ 100000 ∧ ∀ (H' : Hp) (t : Addr) (p q c : Int), H' t = some (.tup [.int p, .int q, .int c]) → 0 ≤ p → 0 < q → sm 70 p → sm 70 q → sm 70 c → PenAt H' d pa (M + 100) → Keep H H' → Q (.ref t) H'
theorem sc__law_hidden : FnScope ["_law_pen_here", "_law_figures", "_law_road", "_law_p", "_law_q", "_law_c", "_law_both"] ["_law_pen_here", "_law_figures"] (defScope s__law_hidden) := ⟨rfl, rfl, rfl, by decide +kernel, rfl, by decide +kernel, by decide +kernel⟩
theorem ok_law_hidden {f : Addr} {fd : FuncData} (F : Fun K "_law_hidden" "_law_hidden" s__law_hidden f fd) (T : Txt K mg) (G__law_draw : Cal P w K mg base 1 "_law_draw" ["_law_pen_here", "_law_many"] sp_law_draw)
    (G__law_natural : Cal P w K mg base 2 "_law_natural" ["_law_pen_here", "_law_figures"] sp_law_natural) (G__law_integer : Cal P w K mg base 3 "_law_integer" ["_law_pen_here", "_law_figures"] sp_law_integer)
    (G__law_gcd : Cal P w K mg base 1 "_law_gcd" ["_law_one", "_law_two"] sp_law_gcd) : FnOk P w K mg base CX0 4 f fd ["_law_pen_here", "_law_figures"] sp_law_hidden := by
  refine F.ok sc__law_hidden (fun vs H Q E h => ?_) (fun cdv A outer s H vs Q E hr h => ?_)
  · obtain ⟨d, pa, f, M, rfl, _⟩ := h
    rfl
  · obtain ⟨d, pa, f, M, rfl, pen, hf0, hf1, hM, k⟩ := h
    refine ⟨_, (pss_cons (ps_set (i := 2) sc__law_hidden.nd rfl (Or.inl rfl) (pe_fn G__law_draw (hr.mono (by decide)) rfl (pa_cons (pv 0) (pa_cons pe_int pa_nil))))
      (pss_cons (ps_par3 (i := 3) (j := 4) (l := 5) rfl sc__law_hidden.nd rfl rfl rfl (by decide) (by decide) (by decide) rfl rfl rfl (pa_cons (pe_fn G__law_draw (hr.mono (by decide)) rfl (pa_cons (pv 0) (pa_cons pe_int pa_nil))) (pa_cons (pe_op op_add pe_int (pe_fn G__law_draw (hr.mono (by decide)) rfl (pa_cons (pv 0) (pa_cons pe_int pa_nil)))) (pa_cons (pe_op op_sub (pe_fn G__law_draw (hr.mono (by decide)) rfl (pa_cons (pv 0) (pa_cons pe_int pa_nil))) pe_int) pa_nil))) (by rfl))
      (pss_cons (ps_if (pt_cmpR op_eq (pv 2) pe_int (nomark _)) (pss_one (ps_ret (pe_tup (pa_cons pe_int (pa_cons pe_int (pa_cons (pv 5) pa_nil)))))) pss_nil)
      (pss_cons (ps_if (PW.pt (pw_and (pt_cmpR op_gt (pv 2) pe_int (nomark _)) (pw_and1 (pt_cmpR op_gt (pv 1) pe_int (nomark _))))) (pss_one (ps_par3 (i := 3) (j := 4) (l := 5) rfl sc__law_hidden.nd rfl rfl rfl (by decide) (by decide) (by decide) rfl rfl rfl (pa_cons (pe_fn G__law_natural (hr.mono (by decide)) rfl (pa_cons (pv 0) (pa_cons (pv 1) pa_nil))) (pa_cons (pe_op op_add pe_int (pe_fn G__law_natural (hr.mono (by decide)) rfl (pa_cons (pv 0) (pa_cons (pv 1) pa_nil)))) (pa_cons (pe_fn G__law_integer hr rfl (pa_cons (pv 0) (pa_cons (pv 1) pa_nil))) pa_nil))) (by rfl))) pss_nil)
      (pss_cons (ps_set (i := 6) sc__law_hidden.nd rfl (Or.inl rfl) (pe_fn G__law_gcd (hr.mono (by decide)) rfl (pa_cons (pv 3) (pa_cons (pv 4) pa_nil))))
      (pss_one (ps_ret (pe_tup (pa_cons (pe_op op_fdivW (pv 3) (pv 6)) (pa_cons (pe_op op_fdivW (pv 4) (pv 6)) (pa_cons (pv 5) pa_nil))))))))))), ?_⟩
    refine ⟨_, rfl, d, pa, 6, M, rfl, pen, by decide, by decide, by omega, fun H1 road hr0 hr1 pen1 k1 => ?_⟩
    refine ⟨_, rfl, d, pa, 14, _, rfl, pen1, by decide, by decide, by omega, fun H2 p hp0 hp1 pen2 k2 => ?_⟩
    refine ⟨_, rfl, d, pa, 14, _, rfl, pen2, by decide, by decide, by omega, fun H3 q hq0 hq1 pen3 k3 => ⟨_, _, rfl, rfl, ?_⟩⟩
    refine ⟨_, rfl, d, pa, 41, _, rfl, pen3, by decide, by decide, by omega, fun H4 c hc0 hc1 pen4 k4 => ⟨_, _, rfl, rfl, _, _, _, rfl, ?_⟩⟩
    have kk := ((k1.trans k2).trans k3).trans k4
    have small : ∀ x : Int, x.natAbs < 1048576 → sm 70 x := fun x h => sm_mono (a := 20) h (by decide)
    -- if road == 0
    refine ⟨_, rfl, rfl, _, rfl, ?_⟩
    refine ite2 (fun c1 => ?_) (fun c1 => ?_)
    · refine ⟨_, rfl, (by show 3 ≤ sizeLine; decide), fun t ht => ?_⟩
      exact k _ t 0 1 (c - 20) upd_same (by decide) (by decide) (small 0 (by decide)) (small 1 (by decide)) (small _ (by omega)) ((pen4.same (Same.new ht)).mono (by omega)) (keep_new_put kk ht)
    -- if road > 3 and figures > 3
    dsimp only [tNext]
    refine st_joinIf (fun σ' H' => ∃ p q c : Int, σ' = [some (.ref d), some (.int f), some (.int road), some (.int p), some (.int q), some (.int c), none] ∧ 0 ≤ p ∧ 0 < q ∧ sm 70 p ∧ sm 70 q ∧ sm 70 c ∧ PenAt H' d pa (M + 100) ∧ Keep H H') (fun N hN => ?_) ?_
    · have no : N [some (.ref d), some (.int f), some (.int road), some (.int p), some (.int (1 + q)), some (.int (c - 20)), none] H4 :=
        hN _ _ ⟨p, 1 + q, c - 20, rfl, hp0, by omega, small _ (by omega), small _ (by omega), small _ (by omega), pen4.mono (by omega), kk⟩
      refine ⟨_, rfl, road, 3, rfl, rfl, _, rfl, ?_⟩
      refine ite2 (fun c2 => ?_) (fun c2 => no)
      refine ⟨_, rfl, f, 3, rfl, rfl, _, rfl, ?_⟩
      refine ite2 (fun c3 => ?_) (fun c3 => no)
      refine ⟨_, rfl, _, rfl, d, pa, f, _, rfl, pen4, hf0, by omega, by omega, fun H5 p' hp0' hp1' pen5 k5 => ?_⟩
      refine ⟨_, rfl, _, rfl, d, pa, f, _, rfl, pen5, hf0, by omega, by omega, fun H6 q' hq0' hq1' pen6 k6 => ⟨_, _, rfl, rfl, ?_⟩⟩
      refine ⟨_, rfl, _, rfl, d, pa, f, _, rfl, pen6, hf0, by omega, by omega, fun H7 c' hc0' hc1' pen7 k7 => ⟨_, _, _, rfl, ?_⟩⟩
      have hf20 : f.toNat ≤ 20 := by omega
      have sc' : sm 70 c' := by
        have e1 : (10 : Int) ^ f.toNat ≤ 10 ^ 20 := pow10_le hf20
        have e2 : (10 : Int) ^ 20 = 100000000000000000000 := by decide
        unfold sm
        have e3 : (2 : Nat) ^ 70 = 1180591620717411303424 := by decide
        omega
      exact hN _ _ ⟨p', 1 + q', c', rfl, hp0', by omega, sm_mono (sm20 hp0' hp1' hf20) (by decide), sm_mono (sm_add (sm_one (a := 68) (by decide)) (sm20 hq0' hq1' hf20)) (by decide), sc', pen7.mono (by omega), ((kk.trans k5).trans k6).trans k7⟩
    · rintro σ' H' ⟨p, q, c, rfl, hp, hq, sp, sq, sc, pen5, k5⟩
      have hg : (0 : Int) < (Int.gcd p q : Nat) := by
        have := Int.gcd_pos_of_ne_zero_right p (show q ≠ 0 by omega)
        omega
      have hgq : ((Int.gcd p q : Nat) : Int) ≤ q := Int.le_of_dvd hq (Int.gcd_dvd_right ..)
      have sg : sm 70 (Int.gcd p q : Nat) := sm_le sq (Int.le_of_lt hg) hgq
      refine ⟨_, rfl, _, rfl, p, q, rfl, ?_⟩
      refine ⟨_, rfl, _, rfl, p, _, rfl, rfl, divW hg sg (by decide), _, rfl, _, rfl, q, _, rfl, rfl, divW hg sg (by decide), _, rfl, (by show 3 ≤ sizeLine; decide), fun t ht => ?_⟩
      have hp2 : 0 ≤ p / (Int.gcd p q : Nat) := Int.ediv_nonneg hp (Int.le_of_lt hg)
      have hq2 : 0 < q / (Int.gcd p q : Nat) := Int.ediv_pos_of_pos_of_dvd hq (Int.le_of_lt hg) (Int.gcd_dvd_right ..)
      exact k _ t _ _ c upd_same hp2 hq2 (sm_le sp hp2 (Int.ediv_le_self _ hp)) (sm_le sq (Int.le_of_lt hq2) (Int.ediv_le_self _ (Int.le_of_lt hq))) sc (pen5.same (Same.new ht)) (keep_new_put k5 ht)
end
end LF

namespace LF
open PySem PySem.Spec PyProof.Rows L2
section
variable {P : Program} {w : World} {K : PySem.W.Frag} {mg : Str → Option Value} {base : Heap}
theorem Keep.own {H H1 : Hp} {l : Addr} {o : HO} (k : Keep H H1) (h : H l = none) : Keep H (upd H1 l o) := fun b u e n => by
  rw [upd_ne (ne_of_none e h)]
  exact k b u e n
theorem map_eraseIdx_ {α β : Type} (f : α → β) : ∀ (l : List α) (j : Nat), (l.eraseIdx j).map f = (l.map f).eraseIdx j
  | [], _ => rfl
  | _ :: _, 0 => rfl
  | x :: xs, j + 1 => congrArg (f x :: ·) (map_eraseIdx_ f xs j)
theorem perm_eraseIdx_ {α : Type} : ∀ {l : List α} {j : Nat} (h : j < l.length), (l[j] :: l.eraseIdx j).Perm l
  | _ :: _, 0, _ => List.Perm.refl _
  | x :: xs, j + 1, h => by
    have h' : j < xs.length := by
      rw [List.length_cons] at h
      omega
    exact (List.Perm.swap x xs[j] (xs.eraseIdx j)).trans ((perm_eraseIdx_ h').cons x)
/-- records as data -/
def datR (r : R) : PyData := .tuple [.str (kindS r.low), .int r.t, .int r.n]
theorem dp_recs {H : Hp} : ∀ {ps : List Addr} {rs : List R}, RecsP H ps rs → DpAll K H (ps.map V.ref) (rs.map datR)
  | [], [], _ => .nil
  | _ :: _, _ :: _, h => .cons (.tup (SqT.of h.1) (.cons (.str _) (.cons (.int _) (.cons (.int _) .nil)))) (dp_recs h.2)
  | [], _ :: _, h => h.elim
  | _ :: _, [], h => h.elim
theorem kind_ok (b : Bool) : PyData.strOk (kindS b) = true := by cases b <;> decide +kernel
theorem lay_recs : ∀ rs : List R, PyData.canLayAll0 (rs.map datR) = true
  | [] => by simp [PyData.canLayAll0]
  | r :: rs => by
    have h := kind_ok r.low
    simp only [List.map_cons, datR, PyData.canLayAll0, PyData.canLay0, Bool.and_true, Bool.and_eq_true]
    exact ⟨h, lay_recs rs⟩
theorem depth_recs : ∀ rs : List R, PyData.depthAll (rs.map datR) ≤ 1
  | [] => by simp [PyData.depthAll]
  | r :: rs => by
    have h := depth_recs rs
    simp only [List.map_cons, datR, PyData.depthAll, PyData.depth] at *
    omega
theorem shaped_recs (rs : List R) : SeqAt.shaped (.list (rs.map datR)) = true := by
  have h := depth_recs rs
  have e1 : PyData.canLay0 (.list (rs.map datR)) = true := by
    rw [PyData.canLay0]
    exact lay_recs rs
  have e2 : PyData.depth (.list (rs.map datR)) ≤ 64 := by
    rw [PyData.depth]
    omega
  unfold SeqAt.shaped
  rw [e1, decide_eq_true e2]
  rfl
def sp_law_fits_all : Sp := fun vs H Q _ => ∃ (r a : Addr) (rs : List R) (p q c : Int), vs = [.ref r, .ref a] ∧ H r = some (.tup [.int p, .int q, .int c]) ∧ RecsAt H a rs ∧ okRs rs ∧ 0 ≤ p ∧ 0 < q ∧ Int.gcd p q = 1 ∧ sm B p ∧ sm B q ∧
  (LF.fits p q c rs → Q (.bl true) H) ∧ (¬ LF.fits p q c rs → Q (.bl false) H)
theorem sc__law_fits_all : FnScope ["_law_rule", "_law_records_here", "_law_kind", "_law_t", "_law_n", "_law_here"] ["_law_rule", "_law_records_here"] (defScope s__law_fits_all) := ⟨rfl, rfl, rfl, by decide +kernel, rfl, by decide +kernel, by decide +kernel⟩
theorem ok_law_fits_all {f : Addr} {fd : FuncData} (F : Fun K "_law_fits_all" "_law_fits_all" s__law_fits_all f fd) (T : Txt K mg) (G__law_gcd : Cal P w K mg base 1 "_law_gcd" ["_law_one", "_law_two"] sp_law_gcd)
    (G__law_count_at : Cal P w K mg base 1 "_law_count_at" ["_law_rule", "_law_t"] sp_law_count_at) : FnOk P w K mg base CX0 2 f fd ["_law_rule", "_law_records_here"] sp_law_fits_all := by
  refine F.ok sc__law_fits_all (fun vs H Q E h => ?_) (fun cdv A outer s H vs Q E hr h => ?_)
  · obtain ⟨r, a, rs, p, q, c, rfl, _⟩ := h
    rfl
  · obtain ⟨r, a, rs, p, q, c, rfl, hr', ⟨ps, ha, hp⟩, ok, hp0, hq0, hg, sp, sq, kt, kf⟩ := h
    refine ⟨_, (pss_cons (ps_if (PW.pt (pw_or (pt_not (pt_val (pe_callB call_isi (by rfl) T.b_isinstance (by decide +kernel) (pa_cons (pv 0) (pa_cons (pe_bltn (v := .ty "tuple") (by rfl) T.b_tuple (by decide +kernel) rfl) pa_nil))))) (pw_or (pt_cmpR op_ne (pe_callB call_len_seq (by rfl) T.b_len (by decide +kernel) (pa_cons (pv 0) pa_nil)) pe_int (nomark _)) (pw_or (pt_cmpR op_lt (pe_ix ix_tup (pv 0) pe_int (fun _ _ => rfl)) pe_int (nomark _)) (pw_or1 (pt_cmpR op_lt (pe_ix ix_tup (pv 0) pe_int (fun _ _ => rfl)) pe_int (nomark _))))))) (pss_one (ps_ret pe_bl)) pss_nil)
      (pss_cons (ps_if (pt_cmpR op_ne (pe_fn G__law_gcd hr rfl (pa_cons (pe_ix ix_tup (pv 0) pe_int (fun _ _ => rfl)) (pa_cons (pe_ix ix_tup (pv 0) pe_int (fun _ _ => rfl)) pa_nil))) pe_int (nomark _)) (pss_one (ps_ret pe_bl)) pss_nil)
      (pss_cons (ps_for PassesOwn.never rfl (pi_list (pv 1)) (pg_tup rfl (pgs_cons (pg_name (i := 2) sc__law_fits_all.nd rfl (Or.inl rfl)) (pgs_cons (pg_name (i := 3) sc__law_fits_all.nd rfl (Or.inl rfl)) (pgs_cons (pg_name (i := 4) sc__law_fits_all.nd rfl (Or.inl rfl)) pgs_nil)))) (pss_cons (ps_set (i := 5) sc__law_fits_all.nd rfl (Or.inl rfl) (pe_fn G__law_count_at hr rfl (pa_cons (pv 0) (pa_cons (pv 3) pa_nil))))
      (pss_one (ps_if (PW.pt (pw_or (PW.pt (pw_and (pt_cmpR op_eq (pv 2) pe_str (nomark _)) (pw_and1 (pt_cmpR op_lt (pv 5) (pv 4) (nomark _))))) (pw_or1 (PW.pt (pw_and (pt_cmpR op_eq (pv 2) pe_str (nomark _)) (pw_and1 (pt_cmpR op_gt (pv 5) (pv 4) (nomark _)))))))) (pss_one (ps_ret pe_bl)) pss_nil))))
      (pss_one (ps_ret pe_bl))))), ?_⟩
    have hs : SqT K H r [.int p, .int q, .int c] := SqT.of hr'
    refine ⟨_, rfl, .ref r, _, _, _, true, rfl, .ty "tuple", .base (.tup hr'), k_tup_tup, true, rfl, iteF ?_⟩
    refine ⟨_, rfl, r, _, rfl, .inr hs, rfl, _, rfl, iteNS rfl ?_⟩
    refine ⟨_, rfl, r, _, 0, _, rfl, rfl, hs, at0, p, 0, rfl, rfl, _, rfl, iteDN (by omega) ?_⟩
    refine ⟨_, rfl, r, _, 1, _, rfl, rfl, hs, at1, q, 1, rfl, rfl, _, rfl, iteDN (by omega) ?_⟩
    refine ⟨_, rfl, r, _, 0, _, rfl, rfl, hs, at0, _, rfl, r, _, 1, _, rfl, rfl, hs, at1, p, q, rfl, ?_⟩
    rw [hg]
    refine ⟨rfl, _, rfl, iteNS rfl ?_⟩
    -- for kind, t, n in records
    refine ⟨_, rfl, a, rfl, ⟨_, SqL.of ha⟩, ?_⟩
    refine for_list (K := K) (a := a) (xs := ps.map V.ref) (fun i σ H' => H' = H ∧ (∃ x2 x3 x4 x5, σ = [some (.ref r), some (.ref a), x2, x3, x4, x5]) ∧ ∀ x ∈ rs.take i, fit1 p q c x) ⟨rfl, ⟨_, _, _, _, rfl⟩, fun x z => by cases z⟩ (fun i σ H' _ ⟨e, _⟩ => by rw [e]; exact SqL.of ha) ?_ ?_
    · rintro i x σ H' hx ⟨rfl, ⟨x2, x3, x4, x5, rfl⟩, hfit⟩
      obtain ⟨pp, y, rfl, hpi, hri, hpr⟩ := recs_item hp hx
      obtain ⟨st, sn⟩ := ok y (List.mem_of_getElem? hri)
      refine ⟨pp, _, rfl, SqT.of hpr, rfl, _, _, rfl, _, _, rfl, _, _, rfl, rfl, ?_⟩
      refine ⟨_, rfl, _, rfl, r, y.t, p, q, c, rfl, hr', sp, sm_mono st (by decide), hq0, sq, ?_⟩
      have etake : rs.take (i + 1) = rs.take i ++ [y] := by
        rw [List.take_add_one, hri]
        rfl
      have good : fit1 p q c y → ∀ x ∈ rs.take (i + 1), fit1 p q c x := fun hy x hx => by
        rw [etake] at hx
        rcases List.mem_append.mp hx with z | z
        · exact hfit x z
        · rw [List.mem_singleton.mp z]
          exact hy
      have bad : ¬ fit1 p q c y → ¬ LF.fits p q c rs := fun hy hall => hy (hall y (List.mem_of_getElem? hri))
      refine ⟨_, rfl, rfl, _, rfl, ?_⟩
      cases hl : y.low with
      | true =>
        refine iteD (kind_low.mpr rfl) ?_
        refine ⟨_, rfl, _, rfl, cnt p q c y.t, y.n, rfl, rfl, _, rfl, ?_⟩
        refine ite2 (fun cc => ?_) (fun cc => ?_)
        · have hlt : cnt p q c y.t < y.n := of_decide_eq_true cc
          refine kf (bad fun z => ?_)
          unfold fit1 at z
          rw [if_pos hl] at z
          omega
        · have hge : ¬ cnt p q c y.t < y.n := fun z => cc (decide_eq_true z)
          refine ⟨_, rfl, rfl, _, rfl, iteDN (fun z => by cases kind_high.mp z) ?_⟩
          refine ⟨rfl, ⟨_, _, _, _, rfl⟩, good ?_⟩
          unfold fit1
          rw [if_pos hl]
          omega
      | false =>
        refine iteDN (fun z => by cases kind_low.mp z) ?_
        refine ⟨_, rfl, rfl, _, rfl, iteD (kind_high.mpr rfl) ?_⟩
        refine ⟨_, rfl, _, rfl, cnt p q c y.t, y.n, rfl, rfl, _, rfl, ?_⟩
        refine ite2 (fun cc => ?_) (fun cc => ?_)
        · have hgt : y.n < cnt p q c y.t := of_decide_eq_true cc
          refine kf (bad fun z => ?_)
          unfold fit1 at z
          rw [if_neg (by rw [hl]; exact Bool.false_ne_true)] at z
          omega
        · have hle : ¬ y.n < cnt p q c y.t := fun z => cc (decide_eq_true z)
          refine ⟨rfl, ⟨_, _, _, _, rfl⟩, good ?_⟩
          unfold fit1
          rw [if_neg (by rw [hl]; exact Bool.false_ne_true)]
          omega
    · rintro σ H' ⟨rfl, ⟨x2, x3, x4, x5, rfl⟩, hfit⟩
      refine kt fun x hx => hfit x ?_
      rw [List.length_map, hp.length, List.take_of_length_le (Nat.le_refl _)]
      exact hx
def sp_law_no_pairs : Sp := fun vs H Q _ => ∃ (a : Addr) (rs : List R) (P0 Q0 n p q : Int), vs = [.ref a, .int n] ∧ Fit H a rs P0 Q0 ∧ isRate rs p q ∧ 1 ≤ n ∧ n < q ∧ n ≤ 10 ^ 60 ∧ ∀ H' : Hp, Same H H' → Q (.bl true) H'
theorem sc__law_no_pairs : FnScope ["_law_records_here", "_law_q"] ["_law_records_here", "_law_q"] (defScope s__law_no_pairs) := ⟨rfl, rfl, rfl, by decide +kernel, rfl, by decide +kernel, by decide +kernel⟩
theorem ok_law_no_pairs {f : Addr} {fd : FuncData} (F : Fun K "_law_no_pairs" "_law_no_pairs" s__law_no_pairs f fd) (T : Txt K mg) (G_count_pairs : Cal P w K mg base 8 "count_pairs" ["records", "cycle"] sp_count_pairs) :
    FnOk P w K mg base CX0 9 f fd ["_law_records_here", "_law_q"] sp_law_no_pairs := by
  refine F.ok sc__law_no_pairs (fun vs H Q E h => ?_) (fun cdv A outer s H vs Q E hr h => ?_)
  · obtain ⟨a, rs, P0, Q0, n, p, q, rfl, _⟩ := h
    rfl
  · obtain ⟨a, rs, P0, Q0, n, p, q, rfl, fit, hrate, h1, h2, h3, k⟩ := h
    refine ⟨_, (pss_one (ps_try_only rfl rfl ⟨rfl, by decide, .inl T.exUnbounded⟩ takes0 (fun W pn xe tk _ => (pss_one (ps_ret (pe_cmpR op_eq (pe_fn G_count_pairs hr rfl (pa_cons (pv 0) (pa_cons (pv 1) pa_nil))) pe_int (nomark _))))) (fun a oe cls d pn _ _ => (pss_one (ps_ret pe_bl))))), ?_⟩
    refine ⟨_, rfl, _, rfl, a, rs, P0, Q0, n, p, q, rfl, fit, hrate, h1, h2, h3, fun H1 s1 => ⟨rfl, ?_⟩⟩
    exact k H1 s1
def sp_law_shuffled : Sp := fun vs H Q _ => ∃ (d pa o : Addr) (rs : List R) (M : Int), vs = [.ref d, .ref o] ∧ PenAt H d pa M ∧ RecsAt H o rs ∧ rs.length ≤ 90 ∧ M + 100 ≤ 100000 ∧ ∀ (H' : Hp) (a : Addr) (rs' : List R), RecsAt H' a rs' → rs'.Perm rs → PenAt H' d pa (M + 100) → Keep H H' → Q (.ref a) H'
theorem eqv_recs_cons {r : R} {rs : List R} : PyData.eqv (.list ((r :: rs).map datR)) (.list []) = false := eqv_cons
theorem sc__law_shuffled : FnScope ["_law_pen_here", "_law_items", "_law_rest", "_law_result"] ["_law_pen_here", "_law_items"] (defScope s__law_shuffled) := ⟨rfl, rfl, rfl, by decide +kernel, rfl, by decide +kernel, by decide +kernel⟩
theorem ok_law_shuffled {f : Addr} {fd : FuncData} (F : Fun K "_law_shuffled" "_law_shuffled" s__law_shuffled f fd) (T : Txt K mg) (G__law_draw : Cal P w K mg base 1 "_law_draw" ["_law_pen_here", "_law_many"] sp_law_draw) :
    FnOk P w K mg base CX0 2 f fd ["_law_pen_here", "_law_items"] sp_law_shuffled := by
  refine F.ok sc__law_shuffled (fun vs H Q E h => ?_) (fun cdv A outer s H vs Q E hr h => ?_)
  · obtain ⟨d, pa, o, rs, M, rfl, _⟩ := h
    rfl
  · obtain ⟨d, pa, o, rs, M, rfl, pen, ⟨ps, ho, hp⟩, hlen, hM, k⟩ := h
    refine ⟨_, (pss_cons (ps_par (i := 2) (j := 3) rfl sc__law_shuffled.nd rfl rfl (by decide) rfl rfl (pa_cons (pe_callTy call_list_of (by rfl) T.b_list (by decide +kernel) (pa_cons (pv 1) pa_nil)) (pa_cons (pe_lst pa_nil) pa_nil)) (by rfl))
      (pss_cons (ps_while PassesOwn.never (pt_cmpR (op_neD hr.units) (pv 2) (pe_lst pa_nil) (nomark _)) (pss_one (ps_expr (pe_bm PySem.F.plainAttrs_list PySem.F.slot_list_append PySem.F.type_list_append mt_append (pv 3) (pa_cons (pe_bm PySem.F.plainAttrs_list PySem.F.slot_list_pop PySem.F.type_list_pop mt_popAt (pv 2) (pa_cons (pe_fn G__law_draw hr rfl (pa_cons (pv 0) (pa_cons (pe_callB call_len_seq (by rfl) T.b_len (by decide +kernel) (pa_cons (pv 2) pa_nil)) pa_nil))) pa_nil)) pa_nil)))))
      (pss_one (ps_ret (pv 3))))), ?_⟩
    refine ⟨_, rfl, o, _, rfl, .inl (SqL.of ho), fun l1 hl1 => ⟨Nat.zero_le _, fun l2 hl2 => ⟨_, _, rfl, ?_⟩⟩⟩
    have s1 : Same H (upd H l1 (.lst (ps.map V.ref))) := Same.new hl1
    have s2 : Same H (upd (upd H l1 (.lst (ps.map V.ref))) l2 (.lst [])) := s1.trans (Same.new hl2)
    have hl2' : H l2 = none := Same.free s1 hl2
    have n12 : l1 ≠ l2 := ne_of_none upd_same hl2
    obtain ⟨cxs, hcells⟩ := pen.cells
    have npa1 : pa ≠ l1 := ne_of_none hcells hl1
    have npa2 : pa ≠ l2 := ne_of_none hcells hl2'
    refine ⟨fun m σ H' => ∃ (ps1 ps2 : List Addr) (rs1 rs2 : List R), σ = [some (.ref d), some (.ref o), some (.ref l1), some (.ref l2)] ∧ m = rs1.length ∧ H' l1 = some (.lst (ps1.map V.ref)) ∧ RecsP H' ps1 rs1 ∧ H' l2 = some (.lst (ps2.map V.ref)) ∧ RecsP H' ps2 rs2 ∧ (rs1 ++ rs2).Perm rs ∧
      PenAt H' d pa (M + rs2.length) ∧ Keep H H', ⟨_, ps, [], rs, [], rfl, rfl, by rw [upd_ne n12]; exact upd_same, hp.keep (.of s2), upd_same, True.intro, by rw [List.append_nil], (pen.same s2).mono (by omega), .of s2⟩, ?_⟩
    rintro m σ H' ⟨ps1, ps2, rs1, rs2, rfl, rfl, h1, r1, h2, r2, perm, pen1, k1⟩
    have hsum : rs1.length + rs2.length = rs.length := by rw [← perm.length_eq, List.length_append]
    -- rest != []
    refine ⟨_, rfl, Nat.zero_le _, fun q hq => ?_⟩
    have sq : Same H' (upd H' q (.lst [])) := Same.new hq
    refine ⟨.list (rs1.map datR), .list [], .lst (SqL.of (sq _ _ h1)) (dp_recs (r1.keep (.of sq))), .lst (SqL.of upd_same) .nil, shaped_recs rs1, rfl, _, rfl, ?_⟩
    have k2 := k1.trans (.of sq)
    cases rs1 with
    | nil =>
      refine iteFe (by rw [List.map_nil, eqv_nil]; rfl) ?_
      refine ⟨_, rfl, ?_⟩
      have e : rs2.Perm rs := by
        rw [List.nil_append] at perm
        exact perm
      refine k _ l2 rs2 ⟨ps2, sq _ _ h2, r2.keep (.of sq)⟩ e ((pen1.same sq).mono ?_) k2
      rw [List.length_nil] at hsum
      omega
    | cons x0 xr =>
      refine iteTe (by rw [eqv_recs_cons]; rfl) ?_
      refine ⟨_, fun σ' H'' n => n, ?_⟩
      have g1 := sq _ _ h1
      have g2 := sq _ _ h2
      rw [List.length_cons] at hsum
      have hl1len : ps1.length = xr.length + 1 := r1.length
      -- result.append(rest.pop(draw(pen, len(rest))))
      refine ⟨_, rfl, .inl ⟨rfl, _, SqL.of g2⟩, _, rfl, .inl ⟨rfl, _, SqL.of g1⟩, _, rfl, _, rfl, l1, _, rfl, .inl (SqL.of g1), d, pa, _, _, rfl, pen1.same sq, ?_, ?_, ?_, fun H3 z hz0 hz1 pen3 k3 => ?_⟩
      · rw [List.length_map]
        omega
      · rw [List.length_map]
        omega
      · omega
      · have g1' := k3.l g1
        have g2' := k3.l g2
        rw [List.length_map] at hz1
        obtain ⟨j, rfl⟩ := Int.eq_ofNat_of_zero_le hz0
        have hj : j < ps1.length := by omega
        have hjr : j < (x0 :: xr).length := by rw [List.length_cons]; omega
        have e1 : (ps1.map V.ref)[j]? = some (V.ref ps1[j]) := by
          rw [List.getElem?_map, List.getElem?_eq_getElem hj]
          rfl
        have eix : seqIndex? (j : Int) (ps1.map V.ref).length = some j := by
          have h := (ixN_seq (n := (ps1.map V.ref).length) (i := (j : Int)) (j := j) (by
            unfold ixN
            rw [if_pos (by omega), if_pos (by rw [List.length_map]; omega)]
            rw [Int.toNat_natCast])).1
          exact h
        have k3' := k2.trans k3
        refine ⟨l1, _, (j : Int), j, V.ref ps1[j], rfl, rfl, g1', by omega, by omega, eix, e1, ?_⟩
        have r1' := (r1.keep (.of sq)).keep k3
        have r2' := (r2.keep (.of sq)).keep k3
        -- behind the pop
        have kp1 : ∀ q xs, H3 q = some (.tup xs) → (upd H3 l1 (.lst ((ps1.map V.ref).eraseIdx j))) q = some (.tup xs) := fun q xs e => by
          rw [upd_ne (ne_of e g1' (by intro z; cases z))]
          exact e
        have g2p : (upd H3 l1 (.lst ((ps1.map V.ref).eraseIdx j))) l2 = some (.lst (ps2.map V.ref)) := by rw [upd_ne (Ne.symm n12)]; exact g2'
        have hl2len : ps2.length = rs2.length := r2.length
        refine ⟨l2, _, _, rfl, rfl, g2p, small1000 (by rw [List.length_map]; omega), ?_⟩
        have kp2 : ∀ q xs, H3 q = some (.tup xs) → (upd (upd H3 l1 (.lst ((ps1.map V.ref).eraseIdx j))) l2 (.lst (ps2.map V.ref ++ [V.ref ps1[j]]))) q = some (.tup xs) := fun q xs e => by
          have e' := kp1 q xs e
          rw [upd_ne (ne_of e' g2p (by intro z; cases z))]
          exact e'
        obtain ⟨y, hy, hyt⟩ := r1'.get (List.getElem?_eq_getElem hj)
        have ey : (x0 :: xr)[j] = y := by
          rw [List.getElem?_eq_getElem hjr] at hy
          exact Option.some.inj hy
        refine ⟨((x0 :: xr).eraseIdx j).length, ?_, ps1.eraseIdx j, ps2 ++ [ps1[j]], (x0 :: xr).eraseIdx j, rs2 ++ [y], rfl, rfl, ?_, (r1'.erase j).mono kp2, ?_, (r2'.mono kp2).app ⟨kp2 _ _ hyt, True.intro⟩, ?_, ?_, ?_⟩
        · rw [List.length_eraseIdx_of_lt hjr, List.length_cons]
          omega
        · rw [upd_ne n12, upd_same]
          congr 2
          exact (map_eraseIdx_ ..).symm
        · rw [upd_same, List.map_append]
          rfl
        · refine List.Perm.trans ?_ perm
          have e2 : (y :: (x0 :: xr).eraseIdx j).Perm (x0 :: xr) := by
            rw [← ey]
            exact perm_eraseIdx_ hjr
          have e3 : ((x0 :: xr).eraseIdx j ++ (rs2 ++ [y])).Perm ((y :: (x0 :: xr).eraseIdx j) ++ rs2) := by
            rw [← List.append_assoc]
            exact (List.perm_append_singleton y _).trans (List.Perm.refl _)
          exact e3.trans (List.Perm.append_right rs2 e2)
        · rw [List.length_append, List.length_singleton]
          refine PenAt.mono (((pen3.put g1' npa1).put g2p npa2)) ?_
          omega
        · exact (k3'.own hl1).own hl2'
end
end LF

namespace LF
open PySem PySem.Spec PyProof.Rows L2
section
variable {P : Program} {w : World} {K : PySem.W.Frag} {mg : Str → Option Value} {base : Heap}
theorem cnt_sm {p q c t : Int} {a b m : Nat} (hq : 0 < q) (sp : sm a p) (st : sm b t) (sc : sm (a + b) c) (hm : a + b + 1 ≤ m) : sm m (cnt p q c t) := by
  have h1 := sm_add (sm_mul sp st) sc
  have h2 : (cnt p q c t).natAbs ≤ (p * t + c).natAbs := Int.natAbs_ediv_le_natAbs _ _
  exact sm_mono (Nat.lt_of_le_of_lt h2 h1) hm
theorem small20 {x : Int} {a : Nat} (h : x.natAbs < 1048576) (ha : 20 ≤ a) : sm a x := sm_mono (a := 20) h ha
/-- drawn records are small -/
def okDs (rs : List R) : Prop := ∀ r ∈ rs, sm 140 r.t ∧ sm 222 r.n
theorem okDs.ok {rs : List R} (h : okDs rs) : okRs rs := fun r hr => ⟨sm_mono (h r hr).1 (by decide), sm_mono (h r hr).2 (by decide)⟩
/-- between two turns of the drawn records' loop -/
def RecInv (H : Hp) (d pa r l : Addr) (f srt p q c M : Int) (i : Nat) (σ : L2.St) (H' : Hp) : Prop :=
  ∃ (ps : List Addr) (rs : List R) (x6 x7 x8 x9 x10 : Option V), σ = [some (.ref d), some (.ref r), some (.int 12), some (.int f), some (.ref l), some (.int srt), x6, x7, x8, x9, x10] ∧
    H' l = some (.lst (ps.map V.ref)) ∧ RecsP H' ps rs ∧ rs.length = i ∧ okDs rs ∧ LF.fits p q c rs ∧ PenAt H' d pa (M + 2 + 60 * i) ∧ Keep H H'
def sp_law_records : Sp := fun vs H Q _ => ∃ (d pa r : Addr) (p q c f M : Int), vs = [.ref d, .ref r, .int 12, .int f] ∧ PenAt H d pa M ∧ H r = some (.tup [.int p, .int q, .int c]) ∧ 0 ≤ p ∧ 0 < q ∧ sm 70 p ∧ sm 70 q ∧ sm 70 c ∧ 4 ≤ f ∧ f ≤ 40 ∧ M + 2000 ≤ 100000 ∧
  ∀ (H' : Hp) (a : Addr) (rs : List R), RecsAt H' a rs → rs.length ≤ 12 → okDs rs → LF.fits p q c rs → PenAt H' d pa (M + 2000) → Keep H H' → Q (.ref a) H'
theorem sc__law_records : FnScope ["_law_pen_here", "_law_rule", "_law_most", "_law_figures", "_law_result", "_law_sort", "_law_k", "_law_t", "_law_slack", "_law_kind", "_law_n"] ["_law_pen_here", "_law_rule", "_law_most", "_law_figures"] (defScope s__law_records) := ⟨rfl, rfl, rfl, by decide +kernel, rfl, by decide +kernel, by decide +kernel⟩
theorem ok_law_records {f : Addr} {fd : FuncData} (F : Fun K "_law_records" "_law_records" s__law_records f fd) (T : Txt K mg) (G__law_draw : Cal P w K mg base 1 "_law_draw" ["_law_pen_here", "_law_many"] sp_law_draw)
    (G__law_natural : Cal P w K mg base 2 "_law_natural" ["_law_pen_here", "_law_figures"] sp_law_natural) (G__law_integer : Cal P w K mg base 3 "_law_integer" ["_law_pen_here", "_law_figures"] sp_law_integer)
    (G__law_pick : Cal P w K mg base 2 "_law_pick" ["_law_pen_here", "_law_options"] sp_law_pick) (G__law_count_at : Cal P w K mg base 1 "_law_count_at" ["_law_rule", "_law_t"] sp_law_count_at) :
    FnOk P w K mg base CX0 4 f fd ["_law_pen_here", "_law_rule", "_law_most", "_law_figures"] sp_law_records := by
  refine F.ok sc__law_records (fun vs H Q E h => ?_) (fun cdv A outer s H vs Q E hr h => ?_)
  · obtain ⟨d, pa, r, p, q, c, f, M, rfl, _⟩ := h
    rfl
  · obtain ⟨d, pa, r, p, q, c, f, M, rfl, pen, hrr, hp, hq, sp, sq, sc, hf4, hf40, hM, k⟩ := h
    refine ⟨_, (pss_cons (ps_par (i := 4) (j := 5) rfl sc__law_records.nd rfl rfl (by decide) rfl rfl (pa_cons (pe_lst pa_nil) (pa_cons (pe_fn G__law_draw (hr.mono (by decide)) rfl (pa_cons (pv 0) (pa_cons pe_int pa_nil))) pa_nil)) (by rfl))
      (pss_cons (ps_for PassesOwn.never rfl (pi_range1 rfl T.b_range (pa_cons (pe_fn G__law_draw (hr.mono (by decide)) rfl (pa_cons (pv 0) (pa_cons (pe_op op_add (pv 2) pe_int) pa_nil))) pa_nil)) (pg_name (i := 6) sc__law_records.nd rfl (Or.inl rfl)) (pss_cons (ps_set (i := 7) sc__law_records.nd rfl (Or.inl rfl) (pe_ifExp (PW.pt (pw_or (pt_cmpR op_lt (pv 3) pe_int (nomark _)) (pw_or1 (pt_cmpR op_eq (pe_fn G__law_draw (hr.mono (by decide)) rfl (pa_cons (pv 0) (pa_cons pe_int pa_nil))) pe_int (nomark _))))) (pe_op op_sub (pe_fn G__law_draw (hr.mono (by decide)) rfl (pa_cons (pv 0) (pa_cons pe_int pa_nil))) pe_int) (pe_fn G__law_integer hr rfl (pa_cons (pv 0) (pa_cons (pv 3) pa_nil)))))
      (pss_cons (ps_set (i := 8) sc__law_records.nd rfl (Or.inl rfl) (pe_fn G__law_pick (hr.mono (by decide)) rfl (pa_cons (pv 0) (pa_cons (pe_lst (pa_cons pe_int (pa_cons pe_int (pa_cons pe_int (pa_cons pe_int (pa_cons pe_int (pa_cons (pe_fn G__law_draw (hr.mono (by decide)) rfl (pa_cons (pv 0) (pa_cons pe_int pa_nil))) (pa_cons (pe_fn G__law_natural (hr.mono (by decide)) rfl (pa_cons (pv 0) (pa_cons (pe_callB (call_min2 rfl) (by rfl) T.b_min (by decide +kernel) (pa_cons (pv 3) (pa_cons (pe_op op_add pe_int (pe_op op_fdivW (pv 3) pe_int)) pa_nil))) pa_nil))) pa_nil)))))))) pa_nil))))
      (pss_cons (ps_set (i := 9) sc__law_records.nd rfl (Or.inl rfl) (pe_ifExp (pt_cmpR op_lt (pv 5) pe_int (nomark _)) (pe_ix ix_list (pe_lst (pa_cons pe_str (pa_cons pe_str pa_nil))) (pv 5) (fun _ _ => rfl)) (pe_fn G__law_pick (hr.mono (by decide)) rfl (pa_cons (pv 0) (pa_cons (pe_lst (pa_cons pe_str (pa_cons pe_str pa_nil))) pa_nil)))))
      (pss_cons (ps_set (i := 10) sc__law_records.nd rfl (Or.inl rfl) (pe_fn G__law_count_at (hr.mono (by decide)) rfl (pa_cons (pv 1) (pa_cons (pv 7) pa_nil))))
      (pss_one (ps_expr (pe_bm PySem.F.plainAttrs_list PySem.F.slot_list_append PySem.F.type_list_append mt_append (pv 4) (pa_cons (pe_tup (pa_cons (pv 9) (pa_cons (pv 7) (pa_cons (pe_ifExp (pt_cmpR op_eq (pv 9) pe_str (nomark _)) (pe_op op_sub (pv 10) (pv 8)) (pe_op op_add (pv 10) (pv 8))) pa_nil)))) pa_nil)))))))))
      (pss_one (ps_ret (pv 4))))), ?_⟩
    have hsr : SqT K H r [.int p, .int q, .int c] := SqT.of hrr
    obtain ⟨cxs, hcells⟩ := pen.cells
    -- result, sort = [], draw(pen, 8)
    refine ⟨Nat.zero_le _, fun l hl => ?_⟩
    have npl : pa ≠ l := ne_of_none hcells hl
    refine ⟨_, rfl, d, pa, 8, M, rfl, pen.same (Same.new hl), by decide, by decide, by omega, fun H1 srt hs0 hs1 pen1 k1 => ⟨_, _, rfl, ?_⟩⟩
    have kk1 : Keep H H1 := (Keep.new hl).trans k1
    have hl1 : H1 l = some (.lst []) := k1.l upd_same
    -- for k in range(draw(pen, most + 1))
    refine ⟨_, rfl, _, rfl, _, _, rfl, rfl, d, pa, 13, _, rfl, pen1, by decide, by decide, by omega, fun H2 nn hn0 hn1 pen2 k2 => ?_⟩
    refine ⟨nn, rfl, by omega, by omega, ?_⟩
    refine for_range (lo := 0) (n := nn.toNat) (RecInv H d pa r l f srt p q c M)
      ⟨[], [], none, none, none, none, none, rfl, k2.l hl1, True.intro, rfl, (fun x z => by cases z), (fun x z => by cases z), pen2.mono (by omega), kk1.trans k2⟩ ?_ ?_
    · rintro i σ H3 hi ⟨ps, rs, x6, x7, x8, x9, x10, rfl, hl3, r3, hlen, ok3, fit3, pen3, kk3⟩
      have hi13 : i < 13 := by omega
      -- t
      refine st_setS ?_
      have afterT : ∀ R' : VK, (∀ (H4 : Hp) (t : Int), sm 140 t → PenAt H4 d pa (M + 2 + 60 * i + 31) → Keep H3 H4 → R' (.int t) H4) →
          tIf (tOr (tTest (tOp (rI0 fun i j => .bl (decide (i < j))) (tVar 3) (tC (.int 4)))) (tTest (tOp rEq (tCall sp_law_draw [] E0 (tCons (tVar 0) (tCons (tC (.int 2)) tNil))) (tC (.int 0)))))
            (tOp (rI0 fun i j => .int (i - j)) (tCall sp_law_draw [] E0 (tCons (tVar 0) (tCons (tC (.int 41)) tNil))) (tC (.int 20))) (tCall sp_law_integer [] E0 (tCons (tVar 0) (tCons (tVar 3) tNil)))
            [some (.ref d), some (.ref r), some (.int 12), some (.int f), some (.ref l), some (.int srt), some (.int (0 + (i : Nat))), x7, x8, x9, x10] H3 R' := by
        intro R' hR
        refine ⟨_, rfl, f, 4, rfl, rfl, _, rfl, iteDN (by omega) ?_⟩
        refine ⟨_, rfl, d, pa, 2, _, rfl, pen3, by decide, by decide, by omega, fun H4 b hb0 hb1 pen4 k4 => ⟨rfl, _, rfl, ?_⟩⟩
        refine ite2 (fun cc => ?_) (fun cc => ?_)
        · refine ⟨_, rfl, d, pa, 41, _, rfl, pen4, by decide, by decide, by omega, fun H5 t ht0 ht1 pen5 k5 => ⟨_, _, rfl, rfl, ?_⟩⟩
          exact hR H5 (t - 20) (small20 (by omega) (by decide)) (pen5.mono (by omega)) (k4.trans k5)
        · refine ⟨_, rfl, _, rfl, d, pa, f, _, rfl, pen4, by omega, hf40, by omega, fun H5 t ht0 ht1 pen5 k5 => ?_⟩
          refine hR H5 t ?_ (pen5.mono (by omega)) (k4.trans k5)
          have e1 : (10 : Int) ^ f.toNat ≤ 10 ^ 40 := pow10_le (by omega)
          have e2 : (10 : Int) ^ 40 = 10000000000000000000000000000000000000000 := by decide
          unfold sm
          have e3 : (2 : Nat) ^ 140 = 1393796574908163946345982392040522594123776 := by decide
          omega
      refine afterT _ fun H4 t st pen4 k4 => ?_
      have kk4 := kk3.trans k4
      -- slack
      dsimp only
      refine st_setS ?_
      refine ⟨_, rfl, _, rfl, d, pa, 9, _, rfl, pen4, by decide, by decide, by omega, fun H5 z5 hz50 hz51 pen5 k5 => ?_⟩
      refine ⟨_, rfl, _, rfl, _, rfl, f, 2, rfl, rfl, divW (by decide) (show sm 20 2 by unfold sm; decide) (by decide), 3, _, rfl, rfl, f, 3 + f / 2, rfl, ?_⟩
      have hmin0 : 0 ≤ (if 3 + f / 2 < f then 3 + f / 2 else f) := by split <;> omega
      have hmin1 : (if 3 + f / 2 < f then 3 + f / 2 else f) ≤ 40 := by split <;> omega
      refine ⟨d, pa, _, _, rfl, pen5, hmin0, hmin1, by omega, fun H6 z6 hz60 hz61 pen6 k6 => ?_⟩
      refine ⟨by show 7 ≤ sizeLine; decide, fun o ho => ?_⟩
      refine ⟨d, pa, o, _, _, rfl, pen6.same (Same.new ho), by omega, upd_same, (by show 0 < 7; decide), (by show 7 ≤ 1000; decide), fun H7 sv hsv pen7 k7 => ?_⟩
      have kk7 : Keep H H7 := ((kk4.trans k5).trans k6).trans ((Keep.new ho).trans k7)
      have k37 : Keep H3 H7 := ((k4.trans k5).trans k6).trans ((Keep.new ho).trans k7)
      obtain ⟨sl, rfl, hsl0, ssl⟩ : ∃ sl : Int, sv = .int sl ∧ 0 ≤ sl ∧ sm 140 sl := by
        have s6 : sm 140 z6 := sm10 hz60 hz61 (by omega)
        have small : ∀ x : Int, x.natAbs < 1048576 → sm 140 x := fun x h => sm_mono (a := 20) h (by decide)
        simp only [List.mem_cons, List.not_mem_nil, or_false] at hsv
        rcases hsv with rfl | rfl | rfl | rfl | rfl | rfl | rfl
        · exact ⟨0, rfl, by decide, small 0 (by decide)⟩
        · exact ⟨0, rfl, by decide, small 0 (by decide)⟩
        · exact ⟨0, rfl, by decide, small 0 (by decide)⟩
        · exact ⟨1, rfl, by decide, small 1 (by decide)⟩
        · exact ⟨2, rfl, by decide, small 2 (by decide)⟩
        · exact ⟨z5, rfl, hz50, small _ (by omega)⟩
        · exact ⟨z6, rfl, hz60, s6⟩
      -- kind
      dsimp only
      refine st_setS ?_
      have afterK : ∀ R' : VK, (∀ (H8 : Hp) (b : Bool), PenAt H8 d pa (M + 2 + 60 * i + 58) → Keep H7 H8 → R' (.str (kindS b)) H8) →
          tIf (tTest (tOp (rI0 fun i j => .bl (decide (i < j))) (tVar 5) (tC (.int 2)))) (tOp (rIxL K) (tLst (tCons (tC (.str "at least")) (tCons (tC (.str "at most")) tNil))) (tVar 5))
            (tCall sp_law_pick [] E0 (tCons (tVar 0) (tCons (tLst (tCons (tC (.str "at least")) (tCons (tC (.str "at most")) tNil))) tNil)))
            [some (.ref d), some (.ref r), some (.int 12), some (.int f), some (.ref l), some (.int srt), some (.int (0 + (i : Nat))), some (.int t), some (.int sl), x9, x10] H7 R' := by
        intro R' hR
        refine ⟨_, rfl, srt, 2, rfl, rfl, _, rfl, ?_⟩
        refine ite2 (fun cc => ?_) (fun cc => ?_)
        · have hs2 : srt < 2 := of_decide_eq_true cc
          refine ⟨by show 2 ≤ sizeLine; decide, fun o2 ho2 => ⟨_, rfl, o2, _, srt, .str (kindS (decide (srt = 0))), rfl, rfl, SqL.of upd_same, ?_, hR _ _ ((pen7.same (Same.new ho2)).mono (by omega)) (Keep.new ho2)⟩⟩
          rcases (show srt = 0 ∨ srt = 1 by omega) with rfl | rfl
          · exact at0
          · exact at1
        · refine ⟨_, rfl, by show 2 ≤ sizeLine; decide, fun o2 ho2 => ?_⟩
          refine ⟨d, pa, o2, _, _, rfl, pen7.same (Same.new ho2), by omega, upd_same, by decide, by decide, fun H8 kv hkv pen8 k8 => ?_⟩
          rcases List.mem_cons.mp hkv with rfl | hkv
          · exact hR H8 true (pen8.mono (by omega)) ((Keep.new ho2).trans k8)
          · obtain rfl := List.mem_singleton.mp hkv
            exact hR H8 false (pen8.mono (by omega)) ((Keep.new ho2).trans k8)
      refine afterK _ fun H8 b pen8 k8 => ?_
      have kk8 := kk7.trans k8
      have k38 := k37.trans k8
      -- n = count_at(rule, t)
      have stB : sm B t := sm_mono st (by decide)
      refine ⟨_, rfl, _, rfl, r, t, p, q, c, rfl, kk8.t hrr, sm_mono sp (by decide), stB, hq, sm_mono sq (by decide), ?_⟩
      have scn : sm 220 (cnt p q c t) := cnt_sm hq sp st (sm_mono sc (by decide)) (by decide)
      -- result.append(..)
      have hl8 := k38.l hl3
      have r8 := r3.keep k38
      have fin : ∀ n' : Int, sm 222 n' → fit1 p q c ⟨b, t, n'⟩ → ∀ tp, H8 tp = none → ∀ x10', RecInv H d pa r l f srt p q c M (i + 1) [some (.ref d), some (.ref r), some (.int 12), some (.int f), some (.ref l), some (.int srt), some (.int (0 + (i : Nat))), some (.int t), some (.int sl), some (.str (kindS b)), some x10']
          (upd (upd H8 tp (.tup [.str (kindS b), .int t, .int n'])) l (.lst (ps.map V.ref ++ [V.ref tp]))) := by
        intro n' sn' hfit tp htp x10'
        have sT : Same H8 (upd H8 tp (.tup [.str (kindS b), .int t, .int n'])) := Same.new htp
        have hlT := sT _ _ hl8
        have kp : ∀ q xs, (upd H8 tp (.tup [.str (kindS b), .int t, .int n'])) q = some (.tup xs) → (upd (upd H8 tp (.tup [.str (kindS b), .int t, .int n'])) l (.lst (ps.map V.ref ++ [V.ref tp]))) q = some (.tup xs) := fun q xs e => by
          rw [upd_ne (ne_of e hlT (by intro z; cases z))]
          exact e
        refine ⟨ps ++ [tp], rs ++ [⟨b, t, n'⟩], _, _, _, _, _, rfl, ?_, ((r8.keep (.of sT)).mono kp).app ⟨kp _ _ upd_same, True.intro⟩, ?_, ?_, ?_, ?_, (kk8.trans (.of sT)).own hl⟩
        · rw [upd_same, List.map_append]
          rfl
        · rw [List.length_append, List.length_singleton, hlen]
        · intro x hx
          rcases List.mem_append.mp hx with z | z
          · exact ok3 x z
          · rw [List.mem_singleton.mp z]
            exact ⟨st, sn'⟩
        · intro x hx
          rcases List.mem_append.mp hx with z | z
          · exact fit3 x z
          · rw [List.mem_singleton.mp z]
            exact hfit
        · refine PenAt.mono ((pen8.same sT).put hlT npl) (by omega)
      have hlen8 : (ps.map V.ref).length < sizeLine := by
        rw [List.length_map, r8.length]
        exact small1000 (by omega)
      refine ⟨_, rfl, .inl ⟨rfl, _, SqL.of hl8⟩, _, rfl, _, rfl, _, rfl, rfl, _, rfl, ?_⟩
      have s400 : sm 219 (cnt p q c t) := cnt_sm hq sp st (sm_mono sc (by decide)) (by decide)
      cases b with
      | true =>
        refine iteD (kind_low.mpr rfl) ?_
        refine ⟨_, rfl, _, rfl, _, sl, rfl, rfl, (by show 3 ≤ sizeLine; decide), fun tp htp => ?_⟩
        refine ⟨l, _, _, rfl, rfl, Same.new htp _ _ hl8, hlen8, ?_⟩
        refine fin (cnt p q c t - sl) (sm_mono (sm_sub s400 (sm_mono ssl (by decide))) (by decide)) ?_ tp htp _
        unfold fit1
        rw [if_pos rfl]
        show cnt p q c t - sl ≤ cnt p q c t
        omega
      | false =>
        refine iteDN (fun z => by cases kind_low.mp z) ?_
        refine ⟨_, rfl, _, rfl, _, sl, rfl, rfl, (by show 3 ≤ sizeLine; decide), fun tp htp => ?_⟩
        refine ⟨l, _, _, rfl, rfl, Same.new htp _ _ hl8, hlen8, ?_⟩
        refine fin (cnt p q c t + sl) (sm_mono (sm_add s400 (sm_mono ssl (by decide))) (by decide)) ?_ tp htp _
        unfold fit1
        rw [if_neg Bool.false_ne_true]
        show cnt p q c t ≤ cnt p q c t + sl
        omega
    · rintro σ H3 ⟨ps, rs, x6, x7, x8, x9, x10, rfl, hl3, r3, hlen, ok3, fit3, pen3, kk3⟩
      refine ⟨_, rfl, k H3 l rs ⟨ps, hl3, r3⟩ (by omega) ok3 fit3 (pen3.mono (by omega)) kk3⟩
end
end LF

namespace LF
open PySem PySem.Spec PyProof.Rows L2
section
variable {P : Program} {w : World} {K : PySem.W.Frag} {mg : Str → Option Value} {base : Heap}
theorem cb1 {r : List V → Hp → VK → Prop} {te : TE} {σ : L2.St} {H : Hp} {Q : VK} (h : te σ H fun x H1 => r [x] H1 Q) : tCB r (tCons te tNil) σ H Q := h
theorem opC {r : R2} {v : V} {te : TE} {σ : L2.St} {H : Hp} {Q : VK} (h : te σ H fun y H1 => r v y H1 Q) : tOp r (tC v) te σ H Q := h
/-- [one[0] for one in records] -/
theorem lc_kinds {Q : VK} {σ : L2.St} {H1 : Hp} {a : Addr} {rs : List R} (hσ : σ.length = 9) (h5 : σ[5]? = some none) (hr : σ[1]? = some (some (.ref a))) (hR : RecsAt H1 a rs) (hl : rs.length ≤ 200)
    (k : ∀ (H' : Hp) (D : Addr), Same H1 H' → H' D = some (.lst (rs.map fun r => V.str (kindS r.low))) → Q (.ref D) H') :
    tLc (iList K (tVar 1)) (gName 5) tYes (tOp (rIxT K) (tVar 5) (tC (.int 0))) [5] σ H1 Q := by
  obtain ⟨ps, ha, hp⟩ := hR
  refine ⟨_, hr, a, rfl, ⟨_, SqL.of ha⟩, fun D hD => ?_⟩
  refine lc_list (K := K) (a := a) (xs := ps.map V.ref) (σ := σ) (vs := [5]) (g := gName 5) (tt := tYes) (te := tOp (rIxT K) (tVar 5) (tC (.int 0))) (fun i H' => Same H1 H' ∧ H' D = some (.lst ((rs.take i).map fun r => V.str (kindS r.low))))
    ⟨Same.new hD, upd_same⟩ (fun i H' _ ⟨s1, _⟩ => s1.seq (SqL.of ha)) ?_ ?_
  · rintro i x H' hx ⟨s1, hzs⟩
    obtain ⟨pp, r, rfl, hpi, hri, hpr⟩ := recs_item hp hx
    have hi : i < rs.length := (List.getElem?_eq_some_iff.mp hri).1
    have etake : rs.take (i + 1) = rs.take i ++ [r] := by
      rw [List.take_add_one, hri]
      rfl
    have e5 : ((wipe σ [5]).set 5 (some (V.ref pp))) = σ.set 5 (some (V.ref pp)) := by
      show ((σ.set 5 none).set 5 (some (V.ref pp))) = _
      rw [List.set_set]
    have g5 : (σ.set 5 (some (V.ref pp)))[5]? = some (some (V.ref pp)) := List.getElem?_set_self (by rw [hσ]; decide)
    show gName 5 (V.ref pp) (wipe σ [5]) H' _
    unfold gName
    rw [e5]
    refine ⟨?_, ?_⟩
    · show ((σ.set 5 (some (V.ref pp))).set 5 none) = (σ.set 5 none)
      rw [List.set_set]
    refine ⟨_, g5, pp, _, 0, _, rfl, rfl, SqT.of (s1 _ _ hpr), at0, _, hzs, ?_, ?_, ?_⟩
    · rw [List.length_map, List.length_take]
      exact small1000 (by omega)
    · intro x o e
      rw [upd_ne (ne_of_none e hD)]
      exact s1 x o e
    · rw [upd_same, etake, List.map_append]
      rfl
  · rintro H' ⟨s1, hzs⟩
    rw [List.length_map, hp.length, List.take_of_length_le (Nat.le_refl _)] at hzs
    exact k H' D s1 hzs
theorem inV_low {rs : List R} : inV (.str "at least") (rs.map fun r => V.str (kindS r.low)) = rs.any (·.low) := by
  unfold inV
  rw [List.any_map]
  congr 1
  funext r
  show eqV (.str (kindS r.low)) (.str "at least") = r.low
  cases r.low <;> decide +kernel
theorem flat_kinds : ∀ rs : List R, (rs.map fun r => V.str (kindS r.low)).all flatV = true
  | [] => rfl
  | r :: rs => by
    rw [List.map_cons, List.all_cons, flat_kinds rs]
    rfl
def sp_law_more : Sp := fun vs H Q _ => ∃ (d pa a r : Addr) (rs : List R) (p q c f M : Int), vs = [.ref d, .ref a, .ref r, .int f] ∧ PenAt H d pa M ∧ RecsAt H a rs ∧ rs.length ≤ 12 ∧ H r = some (.tup [.int p, .int q, .int c]) ∧ 0 < q ∧ sm 70 p ∧ sm 70 q ∧ sm 300 c ∧ 0 ≤ f ∧ f ≤ 40 ∧ M + 50 ≤ 100000 ∧
  ∀ (H' : Hp) (t : Addr) (x : R), H' t = some (.tup (recT x)) → okR x → fit1 p q c x → ((∀ y ∈ rs, y.low = false) → x.low = false) → PenAt H' d pa (M + 50) → Keep H H' → Q (.ref t) H'
theorem sc__law_more : FnScope ["_law_pen_here", "_law_records_here", "_law_rule", "_law_figures", "_law_kinds", "_law_one", "_law_kind", "_law_t", "_law_n"] ["_law_pen_here", "_law_records_here", "_law_rule", "_law_figures"] (defScope s__law_more) := ⟨rfl, rfl, rfl, by decide +kernel, rfl, by decide +kernel, by decide +kernel⟩
theorem ok_law_more {f : Addr} {fd : FuncData} (F : Fun K "_law_more" "_law_more" s__law_more f fd) (T : Txt K mg) (G__law_draw : Cal P w K mg base 1 "_law_draw" ["_law_pen_here", "_law_many"] sp_law_draw)
    (G__law_integer : Cal P w K mg base 3 "_law_integer" ["_law_pen_here", "_law_figures"] sp_law_integer) (G__law_pick : Cal P w K mg base 2 "_law_pick" ["_law_pen_here", "_law_options"] sp_law_pick)
    (G__law_count_at : Cal P w K mg base 1 "_law_count_at" ["_law_rule", "_law_t"] sp_law_count_at) :
    FnOk P w K mg base CX0 4 f fd ["_law_pen_here", "_law_records_here", "_law_rule", "_law_figures"] sp_law_more := by
  refine F.ok sc__law_more (fun vs H Q E h => ?_) (fun cdv A outer s H vs Q E hr h => ?_)
  · obtain ⟨d, pa, a, r, rs, p, q, c, f, M, rfl, _⟩ := h
    rfl
  · obtain ⟨d, pa, a, r, rs, p, q, c, f, M, rfl, pen, hR, hlen, hrr, hq, sp, sq, sc, hf0, hf40, hM, k⟩ := h
    refine ⟨_, (pss_cons (ps_set (i := 4) sc__law_more.nd rfl (Or.inl rfl) (pe_op op_cat (pe_op op_rep (pe_lst (pa_cons pe_str pa_nil)) (pe_callTy call_int1 (by rfl) T.b_int (by decide +kernel) (pa_cons (pe_cmpR op_notIn_seq pe_str (pe_lc (own := [("_law_one", 5)]) rfl sc__law_more.nd (pi_list (pv 1)) (blkOk_by (own := [("_law_one", 5)]) (N := ["_law_pen_here", "_law_records_here", "_law_rule", "_law_figures", "_law_kinds", "_law_one", "_law_kind", "_law_t", "_law_n"]) (sc := defScope s__law_more) (by decide +kernel)) (fun _ _ _ _ _ => (pg_name (i := 5) sc__law_more.nd rfl (Or.inl rfl) (.inr rfl))) (fun _ _ _ _ _ => pts_nil) (fun _ _ _ _ _ => (pe_ix (ix_tupK (K := K) rfl) (pv 5) pe_int (fun _ _ => rfl)))) (by rfl)) pa_nil))) (pe_lst (pa_cons pe_str pa_nil))))
      (pss_cons (ps_par (i := 6) (j := 7) rfl sc__law_more.nd rfl rfl (by decide) rfl rfl (pa_cons (pe_ifExp (pt_cmpR op_gt (pe_callB call_len_seq (by rfl) T.b_len (by decide +kernel) (pa_cons (pv 4) pa_nil)) pe_int (nomark _)) (pe_ix ix_list (pv 4) pe_int (fun _ _ => rfl)) (pe_fn G__law_pick (hr.mono (by decide)) rfl (pa_cons (pv 0) (pa_cons (pe_lst (pa_cons pe_str (pa_cons pe_str pa_nil))) pa_nil)))) (pa_cons (pe_fn G__law_integer hr rfl (pa_cons (pv 0) (pa_cons (pv 3) pa_nil))) pa_nil)) (by rfl))
      (pss_cons (ps_set (i := 8) sc__law_more.nd rfl (Or.inl rfl) (pe_fn G__law_count_at (hr.mono (by decide)) rfl (pa_cons (pv 2) (pa_cons (pv 7) pa_nil))))
      (pss_one (ps_ret (pe_tup (pa_cons (pv 6) (pa_cons (pv 7) (pa_cons (pe_op op_add (pv 8) (pe_op op_mulW (pe_fn G__law_draw (hr.mono (by decide)) rfl (pa_cons (pv 0) (pa_cons pe_int pa_nil))) (pe_ifExp (pt_cmpR op_eq (pv 6) pe_str (nomark _)) pe_int (pe_un un_neg pe_int)))) pa_nil))))))))), ?_⟩
    -- kinds
    refine ⟨by show 1 ≤ sizeLine; decide, fun l1 hl1 => ?_⟩
    have s1 : Same H (upd H l1 (.lst [.str "at most"])) := Same.new hl1
    dsimp only
    refine cb1 (opC ?_)
    refine lc_kinds (K := K) (a := a) (rs := rs) (σ := [some (.ref d), some (.ref a), some (.ref r), some (.int f), none, none, none, none, none]) rfl rfl rfl (hR.same s1) (by omega) fun H2 D s2 hD => ?_
    have hl12 := s2 _ _ (show (upd H l1 (.lst [.str "at most"])) l1 = _ from upd_same)
    have sH2 := s1.trans s2
    refine ⟨D, _, rfl, .inl (SqL.of hD), rfl, flat_kinds rs, ?_⟩
    rw [if_pos rfl, inV_low]
    generalize hb : rs.any (·.low) = b
    refine .inr ⟨_, rfl, ?_⟩
    refine ⟨l1, _, _, rfl, rfl, hl12, by cases b <;> decide, by cases b <;> decide, by cases b <;> decide, fun l2 hl2 => ?_⟩
    refine ⟨by show 1 ≤ sizeLine; decide, fun l3 hl3 => ?_⟩
    have s3 := sH2.trans (Same.new (o := .lst (List.replicate (if (!b) = true then (1 : Int) else 0).toNat [V.str "at most"]).flatten) hl2)
    have s4 := s3.trans (Same.new (o := .lst [V.str "at least"]) hl3)
    refine ⟨l2, l3, _, _, rfl, rfl, Same.new hl3 _ _ upd_same, upd_same, by cases b <;> decide, fun l4 hl4 => ?_⟩
    have s5 := s4.trans (Same.new (o := .lst ((List.replicate (if (!b) = true then (1 : Int) else 0).toNat [V.str "at most"]).flatten ++ [V.str "at least"])) hl4)
    have pen5 := pen.same s5
    -- kind
    have afterK : ∀ R' : VK, (∀ (H8 : Hp) (x : Bool), ((∀ y ∈ rs, y.low = false) → x = false) → PenAt H8 d pa (M + 1) → Keep H H8 → R' (.str (kindS x)) H8) → ∀ H' : Hp, Same H H' → PenAt H' d pa M → H' l4 = some (.lst ((List.replicate (if (!b) = true then (1 : Int) else 0).toNat [V.str "at most"]).flatten ++ [V.str "at least"])) →
        tIf (tTest (tOp (rI0 fun i j => .bl (decide (j < i))) (tCB (fun xs H Q => ∃ p ys, xs = [.ref p] ∧ (SqL K H p ys ∨ SqT K H p ys) ∧ Q (.int ys.length) H) (tCons (tVar 4) tNil)) (tC (.int 1)))) (tOp (rIxL K) (tVar 4) (tC (.int 0)))
          (tCall sp_law_pick [] E0 (tCons (tVar 0) (tCons (tLst (tCons (tC (.str "at least")) (tCons (tC (.str "at most")) tNil))) tNil)))
          [some (.ref d), some (.ref a), some (.ref r), some (.int f), some (.ref l4), none, none, none, none] H' R' := by
      intro R' hR' H' sH' pen' h4
      refine ⟨_, rfl, l4, _, rfl, .inl (SqL.of h4), _, 1, rfl, rfl, _, rfl, ?_⟩
      cases b with
      | false =>
        refine iteD (by decide) ?_
        exact ⟨_, rfl, l4, _, 0, .str (kindS false), rfl, rfl, SqL.of h4, at0, hR' _ false (fun _ => rfl) (pen'.mono (by omega)) (.of sH')⟩
      | true =>
        refine iteDN (by decide) ?_
        refine ⟨_, rfl, by show 2 ≤ sizeLine; decide, fun o2 ho2 => ?_⟩
        have hex : ¬ (∀ y ∈ rs, y.low = false) := fun z => by
          obtain ⟨y, hy, e⟩ := List.any_eq_true.mp hb
          rw [z y hy] at e
          cases e
        refine ⟨d, pa, o2, _, M, rfl, pen'.same (Same.new ho2), by omega, upd_same, (by show 0 < 2; decide), (by show 2 ≤ 1000; decide), fun H8 kv hkv pen8 k8 => ?_⟩
        have kk := (Keep.of sH').trans ((Keep.new ho2).trans k8)
        rcases List.mem_cons.mp hkv with rfl | hkv
        · exact hR' H8 true (fun z => absurd z hex) pen8 kk
        · obtain rfl := List.mem_singleton.mp hkv
          exact hR' H8 false (fun _ => rfl) pen8 kk
    refine afterK _ (fun H8 x hx pen8 k8 => ?_) _ s5 pen5 upd_same
    refine ⟨_, rfl, _, rfl, d, pa, f, _, rfl, pen8, hf0, hf40, by omega, fun H9 t ht0 ht1 pen9 k9 => ?_⟩
    refine ⟨_, _, rfl, ?_⟩
    have st : sm 140 t := by
      have e1 : (10 : Int) ^ f.toNat ≤ 10 ^ 40 := pow10_le (by omega)
      have e2 : (10 : Int) ^ 40 = 10000000000000000000000000000000000000000 := by decide
      unfold sm
      have e3 : (2 : Nat) ^ 140 = 1393796574908163946345982392040522594123776 := by decide
      omega
    have kk9 := k8.trans k9
    refine ⟨_, rfl, _, rfl, r, t, p, q, c, rfl, kk9.t hrr, sm_mono sp (by decide), sm_mono st (by decide), hq, sm_mono sq (by decide), ?_⟩
    have scn : sm 301 (cnt p q c t) := cnt_sm (a := 160) (b := 140) hq (sm_mono sp (by decide)) st sc (by decide)
    refine ⟨_, rfl, _, rfl, _, rfl, _, rfl, d, pa, 4, _, rfl, pen9, by decide, by decide, by omega, fun H10 z hz0 hz1 pen10 k10 => ?_⟩
    have kk10 := kk9.trans k10
    have sz : sm 20 z := show z.natAbs < 1048576 by omega
    have fin : ∀ (H11 : Hp) (tp : Addr) (n : Int), H10 tp = none → H11 = upd H10 tp (.tup [.str (kindS x), .int t, .int n]) → sm 302 n → fit1 p q c ⟨x, t, n⟩ → Q (.ref tp) H11 := by
      rintro H11 tp n htp rfl sn hfit
      exact k _ tp ⟨x, t, n⟩ upd_same ⟨sm_mono st (by decide), sm_mono sn (by decide)⟩ hfit hx ((pen10.same (Same.new htp)).mono (by omega)) (kk10.trans (Keep.new htp))
    refine ⟨_, rfl, rfl, _, rfl, ?_⟩
    cases x with
    | true =>
      refine iteDN (fun z => by cases kind_high.mp z) ?_
      refine ⟨1, rfl, z, -1, rfl, rfl, mulW sz (show sm 20 (-1) by unfold sm; decide) (by decide), _, _, rfl, rfl, (by show 3 ≤ sizeLine; decide), fun tp htp => ?_⟩
      refine fin _ tp _ htp rfl (sm_add scn (sm_mono (a := 20) (show (z * -1).natAbs < 1048576 by omega) (by decide))) ?_
      unfold fit1
      rw [if_pos rfl]
      show cnt p q c t + z * -1 ≤ cnt p q c t
      omega
    | false =>
      refine iteD (kind_high.mpr rfl) ?_
      refine ⟨z, 1, rfl, rfl, mulW sz (show sm 20 1 by unfold sm; decide) (by decide), _, _, rfl, rfl, (by show 3 ≤ sizeLine; decide), fun tp htp => ?_⟩
      refine fin _ tp _ htp rfl (sm_add scn (sm_mono (a := 20) (show (z * 1).natAbs < 1048576 by omega) (by decide))) ?_
      unfold fit1
      rw [if_neg Bool.false_ne_true]
      show cnt p q c t ≤ cnt p q c t + z * 1
      omega
end
end LF

namespace LF
open PySem PySem.Spec PyProof.Rows L2
section
variable {P : Program} {w : World} {K : PySem.W.Frag} {mg : Str → Option Value} {base : Heap}
theorem cut2 (ps : List Addr) : cutV (ps.map V.ref) none (some 2) = (ps.take 2).map V.ref := by
  have e0 : HT.sIx (ps.map V.ref).length 0 none = 0 := by rfl
  unfold cutV
  rw [e0, List.drop_zero, List.map_take, Nat.sub_zero]
  have e1 : HT.sIx (ps.map V.ref).length (ps.map V.ref).length (some 2) = min 2 (ps.map V.ref).length := by
    simp [HT.sIx]
    try omega
  rw [e1]
  rcases Nat.le_total 2 (ps.map V.ref).length with l | l
  · rw [Nat.min_eq_left l]
  · rw [Nat.min_eq_right l, List.take_of_length_le (Nat.le_refl _), List.take_of_length_le l]
theorem isRule.nil : isRule [] 0 1 0 :=
  ⟨⟨Int.le_refl _, (by decide), (fun a ha => by cases ha), fun p' q' hp' hq' _ => ⟨hp', by omega⟩⟩, .inr (.inr ⟨rfl, rfl⟩)⟩
theorem isRule.perm {rs rs' : List R} {p q c : Int} (h : isRule rs p q c) (hp : rs'.Perm rs) : isRule rs' p q c := by
  refine h.more (fun r hr => hp.symm.subset hr) (fun r hr => h.fits r (hp.subset hr)) ?_ (fun e => ?_)
  · by_cases e : ∃ r ∈ rs, r.low = true
    · exact .inl e
    · refine .inr fun r hr => ?_
      cases l : r.low with
      | false => rfl
      | true => exact absurd ⟨r, hp.subset hr, l⟩ e
  · subst e
    exact hp.eq_nil
theorem rule_p_le {rs : List R} {p q c P0 Q0 C0 : Int} (h : isRule rs p q c) (hP : 0 ≤ P0) (hQ : 0 < Q0) (hf : LF.fits P0 Q0 C0 rs) : p ≤ P0 ∧ q ≤ Q0 := h.1.2.2.2 P0 Q0 hP hQ (rateOk_of_fits hQ hf)
theorem rule_c_sm {rs : List R} {p q c : Int} (h : isRule rs p q c) (sp : sm 70 p) (sq : sm 70 q) (ok : okDs rs) : sm 300 c := by
  rcases h.2 with ⟨a, ha, _, rfl, _⟩ | ⟨_, b, hb, rfl, _⟩ | ⟨_, rfl⟩
  · obtain ⟨st, sn⟩ := ok a ha
    unfold loC
    exact sm_mono (sm_sub (sm_mul sn sq) (sm_mono (sm_mul sp st) (by decide))) (by decide)
  · obtain ⟨st, sn⟩ := ok b hb
    unfold hiC
    exact sm_mono (sm_sub (sm_sub (sm_mul (sm_add sn (sm_one (by decide))) sq) (sm_mono (sm_mul sp st) (by decide))) (sm_one (by decide))) (by decide)
  · exact small20 (by decide) (by decide)
theorem eqv_pair {p q : Int} : PyData.eqv (.tuple [.int p, .int q]) (.tuple [.int p, .int q]) = true := by simp [PyData.eqv, PyData.eqvAll]
theorem eqv_trip {p q c : Int} : PyData.eqv (.tuple [.int p, .int q, .int c]) (.tuple [.int p, .int q, .int c]) = true := by simp [PyData.eqv, PyData.eqvAll]
theorem shaped_pair {p q : Int} : SeqAt.shaped (.tuple [.int p, .int q]) = true := by rfl
theorem shaped_trip {p q c : Int} : SeqAt.shaped (.tuple [.int p, .int q, .int c]) = true := by rfl
theorem dp_pair {H : Hp} {a : Addr} {p q : Int} (h : H a = some (.tup [.int p, .int q])) : Dp K H (.ref a) (.tuple [.int p, .int q]) := .tup (SqT.of h) (.cons (.int p) (.cons (.int q) .nil))
theorem dp_trip {H : Hp} {a : Addr} {p q c : Int} (h : H a = some (.tup [.int p, .int q, .int c])) : Dp K H (.ref a) (.tuple [.int p, .int q, .int c]) := .tup (SqT.of h) (.cons (.int p) (.cons (.int q) (.cons (.int c) .nil)))
theorem dp_at {H : Hp} {a : Addr} {rs : List R} (h : RecsAt H a rs) : Dp K H (.ref a) (.list (rs.map datR)) := by
  obtain ⟨ps, h1, h2⟩ := h
  exact .lst (SqL.of h1) (dp_recs h2)
/-- [one for one in records if one[0] == "at least"] -/
theorem lc_lower {Q : VK} {σ : L2.St} {H1 : Hp} {a : Addr} {rs : List R} (hσ : σ.length = 15) (hr : σ[5]? = some (some (.ref a))) (hR : RecsAt H1 a rs) (hl : rs.length ≤ 200)
    (k : ∀ (H' : Hp) (D : Addr), Same H1 H' → RecsAt H' D (rs.filter (·.low)) → Q (.ref D) H') :
    tLc (iList K (tVar 5)) (gName 12) (tTest (tOp rEq (tOp (rIxT K) (tVar 12) (tC (.int 0))) (tC (.str "at least")))) (tVar 12) [12] σ H1 Q := by
  obtain ⟨ps, ha, hp⟩ := hR
  refine ⟨_, hr, a, rfl, ⟨_, SqL.of ha⟩, fun D hD => ?_⟩
  refine lc_list (K := K) (a := a) (xs := ps.map V.ref) (σ := σ) (vs := [12]) (g := gName 12) (tt := tTest (tOp rEq (tOp (rIxT K) (tVar 12) (tC (.int 0))) (tC (.str "at least")))) (te := tVar 12) (fun i H' => Same H1 H' ∧ ∃ qs : List Addr, H' D = some (.lst (qs.map V.ref)) ∧ RecsP H' qs ((rs.take i).filter (·.low)))
    ⟨Same.new hD, [], upd_same, True.intro⟩ (fun i H' _ ⟨s1, _⟩ => s1.seq (SqL.of ha)) ?_ ?_
  · rintro i x H' hx ⟨s1, qs, hqs, hq⟩
    obtain ⟨pp, r, rfl, hpi, hri, hpr⟩ := recs_item hp hx
    have hi : i < rs.length := (List.getElem?_eq_some_iff.mp hri).1
    have etake : rs.take (i + 1) = rs.take i ++ [r] := by
      rw [List.take_add_one, hri]
      rfl
    have e5 : ((wipe σ [12]).set 12 (some (V.ref pp))) = σ.set 12 (some (V.ref pp)) := by
      show ((σ.set 12 none).set 12 (some (V.ref pp))) = _
      rw [List.set_set]
    have g5 : (σ.set 12 (some (V.ref pp)))[12]? = some (some (V.ref pp)) := List.getElem?_set_self (by rw [hσ]; decide)
    show gName 12 (V.ref pp) (wipe σ [12]) H' _
    unfold gName
    rw [e5]
    refine ⟨?_, ?_⟩
    · show ((σ.set 12 (some (V.ref pp))).set 12 none) = (σ.set 12 none)
      rw [List.set_set]
    have hpr' := s1 _ _ hpr
    refine ⟨_, g5, pp, _, 0, _, rfl, rfl, SqT.of hpr', at0, rfl, _, rfl, ?_⟩
    refine ite2 (fun c => ?_) (fun c => ?_)
    · have hs : r.low = true := kind_low.mp (of_decide_eq_true c)
      have kp : ∀ (z : Addr) xs, H' z = some (.tup xs) → (upd H' D (.lst (qs.map V.ref ++ [V.ref pp]))) z = some (.tup xs) := fun z xs e => by
        rw [upd_ne (ne_of e hqs (by intro z; cases z))]
        exact e
      refine ⟨_, g5, _, hqs, ?_, ?_, qs ++ [pp], ?_, ?_⟩
      · rw [List.length_map, hq.length]
        have h1 := List.length_filter_le (fun x : R => x.low) (rs.take i)
        have h2 := List.length_take (i := i) (l := rs)
        exact small1000 (by omega)
      · intro x o e
        rw [upd_ne (ne_of_none e hD)]
        exact s1 x o e
      · rw [upd_same, List.map_append]
        rfl
      · rw [etake, List.filter_append, List.filter_cons, if_pos hs]
        exact (hq.mono kp).app ⟨kp _ _ hpr', True.intro⟩
    · have hs : ¬ r.low = true := fun z => c (decide_eq_true (kind_low.mpr z))
      refine ⟨s1, qs, hqs, ?_⟩
      rw [etake, List.filter_append, List.filter_cons, if_neg hs]
      show RecsP H' qs (List.filter (·.low) (List.take i rs) ++ [])
      rw [List.append_nil]
      exact hq
  · rintro H' ⟨s1, qs, hqs, hq⟩
    rw [List.length_map, hp.length, List.take_of_length_le (Nat.le_refl _)] at hq
    exact k H' D s1 ⟨qs, hqs, hq⟩
end
end LF

namespace LF
open PySem PySem.Spec PyProof.Rows L2
section
variable {P : Program} {w : World} {K : PySem.W.Frag} {mg : Str → Option Value} {base : Heap}
def sp_law (K : PySem.W.Frag) : Sp := fun vs H Q _ => ∃ (a : Addr) (ns : List Int), vs = [.ref a] ∧ SqL K H a (ns.map V.int) ∧ ∀ H' : Hp, Q (.bl true) H'
def LawInv (s d pa : Addr) (i : Nat) (σ : L2.St) (H : Hp) : Prop :=
  ∃ (x2 x3 x4 x5 x6 x7 x8 x9 x10 x11 x13 x14 : Option V), σ = [some (.ref s), some (.ref d), x2, x3, x4, x5, x6, x7, x8, x9, x10, x11, none, x13, x14] ∧ PenAt H d pa (5000 * i)
theorem sc_law : FnScope ["_law_script", "_law_pen_here", "_law_turn", "_law_figures", "_law_hidden_here", "_law_records_here_here", "_law_rule", "_law_ends", "_law_p", "_law_q", "_law_c", "_law_lower", "_law_one", "_law_beside", "_law_more_here"] ["_law_script"] (defScope s_law) := ⟨rfl, rfl, rfl, by decide +kernel, rfl, by decide +kernel, by decide +kernel⟩
theorem ok_law {f : Addr} {fd : FuncData} (F : Fun K "law" "law" s_law f fd) (T : Txt K mg) (G__law_pen : Cal P w K mg base 1 "_law_pen" ["_law_script"] (sp_law_pen K))
    (G__law_pick : Cal P w K mg base 2 "_law_pick" ["_law_pen_here", "_law_options"] sp_law_pick) (G__law_hidden : Cal P w K mg base 4 "_law_hidden" ["_law_pen_here", "_law_figures"] sp_law_hidden)
    (G__law_records : Cal P w K mg base 4 "_law_records" ["_law_pen_here", "_law_rule", "_law_most", "_law_figures"] sp_law_records) (G_least_rule : Cal P w K mg base 7 "least_rule" ["records"] sp_some_rule)
    (G_rates : Cal P w K mg base 6 "rates" ["records"] sp_ends_of) (G__law_fits_all : Cal P w K mg base 2 "_law_fits_all" ["_law_rule", "_law_records_here"] sp_law_fits_all)
    (G_simplest_between : Cal P w K mg base 4 "simplest_between" ["low", "high"] sp_simplest_between) (G_least_cycle : Cal P w K mg base 8 "least_cycle" ["records"] sp_least_cycle)
    (G__law_no_pairs : Cal P w K mg base 9 "_law_no_pairs" ["_law_records_here", "_law_q"] sp_law_no_pairs) (G__law_natural : Cal P w K mg base 2 "_law_natural" ["_law_pen_here", "_law_figures"] sp_law_natural)
    (G__law_more : Cal P w K mg base 4 "_law_more" ["_law_pen_here", "_law_records_here", "_law_rule", "_law_figures"] sp_law_more)
    (G__law_shuffled : Cal P w K mg base 2 "_law_shuffled" ["_law_pen_here", "_law_items"] sp_law_shuffled) : FnOk P w K mg base CX0 10 f fd ["_law_script"] (sp_law K) := by
  refine F.ok sc_law (fun vs H Q E h => ?_) (fun cdv A outer s H vs Q E hr h => ?_)
  · obtain ⟨a, ns, rfl, _⟩ := h
    rfl
  · obtain ⟨a, ns, rfl, hS, k⟩ := h
    refine ⟨_, (pss_cons (ps_set (i := 1) sc_law.nd rfl (Or.inl rfl) (pe_fn G__law_pen (hr.mono (by decide)) rfl (pa_cons (pv 0) pa_nil)))
      (pss_cons (ps_for PassesOwn.never rfl (pi_range1 rfl T.b_range (pa_cons (pe_op op_add pe_int (pe_callB (call_min2 rfl) (by rfl) T.b_min (by decide +kernel) (pa_cons pe_int (pa_cons (pe_callB call_len_seq (by rfl) T.b_len (by decide +kernel) (pa_cons (pv 0) pa_nil)) pa_nil)))) pa_nil)) (pg_name (i := 2) sc_law.nd rfl (Or.inl rfl)) (pss_cons (ps_set (i := 3) sc_law.nd rfl (Or.inl rfl) (pe_fn G__law_pick (hr.mono (by decide)) rfl (pa_cons (pv 1) (pa_cons (pe_lst (pa_cons pe_int (pa_cons pe_int (pa_cons pe_int pa_nil)))) pa_nil))))
      (pss_cons (ps_set (i := 4) sc_law.nd rfl (Or.inl rfl) (pe_fn G__law_hidden (hr.mono (by decide)) rfl (pa_cons (pv 1) (pa_cons (pe_op op_fdivW (pv 3) pe_int) pa_nil))))
      (pss_cons (ps_set (i := 5) sc_law.nd rfl (Or.inl rfl) (pe_fn G__law_records (hr.mono (by decide)) rfl (pa_cons (pv 1) (pa_cons (pv 4) (pa_cons pe_int (pa_cons (pv 3) pa_nil))))))
      (pss_cons (ps_par (i := 6) (j := 7) rfl sc_law.nd rfl rfl (by decide) rfl rfl (pa_cons (pe_fn G_least_rule (hr.mono (by decide)) rfl (pa_cons (pv 5) pa_nil)) (pa_cons (pe_fn G_rates (hr.mono (by decide)) rfl (pa_cons (pv 5) pa_nil)) pa_nil)) (by rfl))
      (pss_cons (ps_asg (pv 6) (pg_tup rfl (pgs_cons (pg_name (i := 8) sc_law.nd rfl (Or.inl rfl)) (pgs_cons (pg_name (i := 9) sc_law.nd rfl (Or.inl rfl)) (pgs_cons (pg_name (i := 10) sc_law.nd rfl (Or.inl rfl)) pgs_nil)))))
      (pss_cons (ps_if (PW.pt (pw_or (pt_not (pt_val (pe_fn G__law_fits_all (hr.mono (by decide)) rfl (pa_cons (pv 6) (pa_cons (pv 5) pa_nil))))) (pw_or (pt_cmpR (op_neD hr.units) (pe_fn G_simplest_between (hr.mono (by decide)) rfl (pa_cons (pe_ix ix_tup (pv 7) pe_int (fun _ _ => rfl)) (pa_cons (pe_ix ix_tup (pv 7) pe_int (fun _ _ => rfl)) pa_nil))) (pe_tup (pa_cons (pv 8) (pa_cons (pv 9) pa_nil))) (nomark _)) (pw_or1 (pt_cmpR op_gt (pv 9) (pe_ix ix_tup (pv 4) pe_int (fun _ _ => rfl)) (nomark _)))))) (pss_one (ps_ret pe_bl)) pss_nil)
      (pss_cons (ps_setLc (i := 11) (own := [("_law_one", 12)]) rfl sc_law.nd rfl rfl (sw_true rfl rfl rfl (by decide +kernel)) (pi_list (pv 5)) (blkOk_by (own := [("_law_one", 12)]) (N := ["_law_script", "_law_pen_here", "_law_turn", "_law_figures", "_law_hidden_here", "_law_records_here_here", "_law_rule", "_law_ends", "_law_p", "_law_q", "_law_c", "_law_lower", "_law_one", "_law_beside", "_law_more_here"]) (sc := defScope s_law) (by decide +kernel)) (fun _ _ _ _ _ => (pg_name (i := 12) sc_law.nd rfl (Or.inl rfl) (.inr rfl))) (fun _ _ _ _ _ => pts_one (pt_cmpR op_eq (pe_ix (ix_tupK (K := K) rfl) (pv 12) pe_int (fun _ _ => rfl)) pe_str (nomark _))) (fun _ _ _ _ _ => (pv 12)))
      (pss_cons (ps_set (i := 13) sc_law.nd rfl (Or.inl rfl) (pe_ifExp (pt_cmpR (op_neD hr.units) (pv 11) (pe_lst pa_nil) (nomark _)) (pe_op op_sub (pv 10) pe_int) (pe_op op_add (pv 10) pe_int)))
      (pss_cons (ps_if (PW.pt (pw_and (pt_cmpR (op_neD hr.units) (pv 5) (pe_lst pa_nil) (nomark _)) (pw_and1 (pt_val (pe_fn G__law_fits_all (hr.mono (by decide)) rfl (pa_cons (pe_tup (pa_cons (pv 8) (pa_cons (pv 9) (pa_cons (pv 13) pa_nil)))) (pa_cons (pv 5) pa_nil))))))) (pss_one (ps_ret pe_bl)) pss_nil)
      (pss_cons (ps_if (PW.pt (pw_or (PW.pt (pw_and (pt_cmpR (op_eqD hr.units) (pv 5) (pe_lst pa_nil) (nomark _)) (pw_and1 (pt_cmpR (op_neD hr.units) (pv 6) (pe_tup (pa_cons pe_int (pa_cons pe_int (pa_cons pe_int pa_nil)))) (nomark _))))) (pw_or1 (pt_cmpR op_ne (pe_fn G_least_cycle (hr.mono (by decide)) rfl (pa_cons (pv 5) pa_nil)) (pv 9) (nomark _))))) (pss_one (ps_ret pe_bl)) pss_nil)
      (pss_cons (ps_if (PW.pt (pw_and (pt_cmpR op_gt (pv 9) pe_int (nomark _)) (pw_and1 (pt_not (pt_val (pe_fn G__law_no_pairs hr rfl (pa_cons (pv 5) (pa_cons (pe_op op_add pe_int (pe_op op_mod (pe_fn G__law_natural (hr.mono (by decide)) rfl (pa_cons (pv 1) (pa_cons pe_int pa_nil))) (pe_op op_sub (pv 9) pe_int))) pa_nil)))))))) (pss_one (ps_ret pe_bl)) pss_nil)
      (pss_cons (ps_set (i := 14) sc_law.nd rfl (Or.inl rfl) (pe_op op_cat (pv 5) (pe_slice sl_list (pv 5) po_none (po_some pe_int))))
      (pss_cons (ps_if (pt_cmpR (op_neD hr.units) (pv 5) (pe_lst pa_nil) (nomark _)) (pss_one (ps_set (i := 14) sc_law.nd rfl (Or.inl rfl) (pe_op op_cat (pv 14) (pe_lst (pa_cons (pe_fn G__law_more (hr.mono (by decide)) rfl (pa_cons (pv 1) (pa_cons (pv 5) (pa_cons (pv 6) (pa_cons (pv 3) pa_nil))))) pa_nil))))) pss_nil)
      (pss_one (ps_if (pt_cmpR (op_neD hr.units) (pe_fn G_least_rule (hr.mono (by decide)) rfl (pa_cons (pe_fn G__law_shuffled (hr.mono (by decide)) rfl (pa_cons (pv 1) (pa_cons (pv 14) pa_nil))) pa_nil)) (pv 6) (nomark _)) (pss_one (ps_ret pe_bl)) pss_nil))))))))))))))))
      (pss_one (ps_ret pe_bl)))), ?_⟩
    refine ⟨_, rfl, a, ns, rfl, hS, fun H0 d pa s0 pen0 => ?_⟩
    refine ⟨_, rfl, a, _, rfl, .inl (s0.seq hS), 3, _, rfl, 3, _, rfl, rfl, ?_⟩
    have hmin : 0 ≤ (if ((ns.map V.int).length : Int) < 3 then ((ns.map V.int).length : Int) else 3) ∧ (if ((ns.map V.int).length : Int) < 3 then ((ns.map V.int).length : Int) else 3) ≤ 3 := by split <;> omega
    generalize (if ((ns.map V.int).length : Int) < 3 then ((ns.map V.int).length : Int) else 3) = m3 at hmin
    refine ⟨_, rfl, (by omega), (by omega), ?_⟩
    refine for_range (lo := 0) (n := (3 + m3).toNat) (LawInv a d pa) ⟨_, _, _, _, _, _, _, _, _, _, _, _, rfl, pen0.mono (by omega)⟩ ?_ ?_
    · rintro i σ H hi ⟨x2, x3, x4, x5, x6, x7, x8, x9, x10, x11, x13, x14, rfl, pen⟩
      have hi6 : i < 6 := by omega
      -- figures
      refine st_setS ?_
      refine ⟨_, rfl, (by show 3 ≤ sizeLine; decide), fun o ho => ?_⟩
      refine ⟨d, pa, o, _, _, rfl, pen.same (Same.new ho), by omega, upd_same, (by show 0 < 3; decide), (by show 3 ≤ 1000; decide), fun H1 fv hfv pen1 k1 => ?_⟩
      obtain ⟨f, rfl, hf4, hf40⟩ : ∃ f : Int, fv = .int f ∧ 4 ≤ f ∧ f ≤ 40 := by
        simp only [List.mem_cons, List.not_mem_nil, or_false] at hfv
        rcases hfv with rfl | rfl | rfl
        · exact ⟨6, rfl, by decide, by decide⟩
        · exact ⟨20, rfl, by decide, by decide⟩
        · exact ⟨40, rfl, by decide, by decide⟩
      -- hidden
      dsimp only
      refine st_setS ?_
      refine ⟨_, rfl, _, rfl, f, 2, rfl, rfl, divW (by decide) (show sm 20 2 by unfold sm; decide) (by decide), d, pa, f / 2, _, rfl, pen1, by omega, by omega, by omega, fun H2 h P0 Q0 C0 hh hP hQ sP sQ sC pen2 k2 => ?_⟩
      -- records
      dsimp only
      refine st_setS ?_
      refine ⟨_, rfl, _, rfl, _, rfl, d, pa, h, P0, Q0, C0, f, _, rfl, pen2, hh, hP, hQ, sP, sQ, sC, hf4, hf40, by omega, fun H3 b rs hR hlen okd hfit pen3 k3 => ?_⟩
      have fit3 : Fit H3 b rs P0 Q0 := ⟨hR, by omega, okd.ok, hP, hQ, sm_mono sP (by decide), sm_mono sQ (by decide), rateOk_of_fits hQ hfit⟩
      have hh3 := k3.t hh
      -- rule, ends
      refine ⟨_, rfl, b, rs, P0, Q0, rfl, fit3, fun r H4 p q c s4 hrt hru => ⟨_, rfl, b, rs, P0, Q0, rfl, fit3.same s4, fun e H5 lv hv lo hi s5 het hlo hhi hends slo shi => ⟨_, _, rfl, ?_⟩⟩⟩
      have hrt5 := s5 _ _ hrt
      refine ⟨_, rfl, r, _, rfl, SqT.of hrt5, rfl, _, _, rfl, _, _, rfl, _, _, rfl, rfl, ?_⟩
      obtain ⟨hpP, hqQ⟩ := rule_p_le hru hP hQ hfit
      have hp0 : 0 ≤ p := hru.1.1
      have hq0 : 0 < q := hru.1.2.1
      have sp : sm 70 p := sm_le sP hp0 hpP
      have sq : sm 70 q := sm_le sQ (Int.le_of_lt hq0) hqQ
      have k35 : Keep H3 H5 := (Keep.of s4).trans (.of s5)
      have fit5 : Fit H5 b rs P0 Q0 := fit3.keep k35
      have pen5 : PenAt H5 d pa (5000 * i + 1 + 100 + 2000) := (pen3.same s4).same s5
      have hh5 := k35.t hh3
      -- the three ways to fail
      refine ⟨_, rfl, _, rfl, r, b, rs, p, q, c, rfl, hrt5, fit5.at_, okd.ok, hp0, hq0, hru.1.coprime, sm_mono sp (by decide), sm_mono sq (by decide), fun _ => ?_, fun z => absurd hru.fits z⟩
      refine ⟨true, rfl, iteF ?_⟩
      refine ⟨_, rfl, e, _, 0, _, rfl, rfl, SqT.of het, at0, _, rfl, e, _, 1, _, rfl, rfl, SqT.of het, at1, lv, hv, lo, hi, rfl, hlo, hhi, ends_betw fit5 hends slo shi, fun p' q' t6 H6 hsimp s6 ht6 => ?_⟩
      obtain ⟨rfl, rfl⟩ := isSimp_unique (hends.rate.mp hru.1) hsimp
      refine ⟨_, rfl, _, rfl, by show 2 ≤ sizeLine; decide, fun t7 ht7 => ?_⟩
      have s67 : Same H5 (upd H6 t7 (.tup [.int p, .int q])) := s6.trans (Same.new ht7)
      refine ⟨.tuple [.int p, .int q], .tuple [.int p, .int q], dp_pair (Same.new ht7 _ _ ht6), dp_pair upd_same, shaped_pair, shaped_pair, _, rfl, iteFe (by rw [eqv_pair]; rfl) ?_⟩
      refine ⟨_, rfl, _, rfl, h, _, 1, _, rfl, rfl, SqT.of (s67 _ _ hh5), at1, q, Q0, rfl, rfl, _, rfl, iteDN (by omega) ?_⟩
      have fit7 := fit5.same s67
      have hr7 := s67 _ _ hrt5
      have pen7 := pen5.same s67
      generalize upd H6 t7 (.tup [.int p, .int q]) = H7 at fit7 hr7 pen7
      clear s67 ht6 ht7 s6 hh5 het hlo hhi
      -- lower
      dsimp only [tNext]
      refine st_setS ?_
      refine lc_lower (K := K) (a := b) (rs := rs) (σ := [some (.ref a), some (.ref d), some (.int (0 + (i : Nat))), some (.int f), some (.ref h), some (.ref b), some (.ref r), some (.ref e), some (.int p), some (.int q), some (.int c), x11, none, x13, x14]) rfl rfl fit7.at_ (by omega) fun H8 D s8 hD => ?_
      -- beside
      refine st_join (fun σ' H' => ∃ cb : Int, σ' = [some (.ref a), some (.ref d), some (.int (0 + (i : Nat))), some (.int f), some (.ref h), some (.ref b), some (.ref r), some (.ref e), some (.int p), some (.int q), some (.int c), some (.ref D), none, some (.int cb), x14] ∧ Same H8 H' ∧
        (((∃ y ∈ rs, y.low = true) ∧ cb = c - 1) ∨ ((∀ y ∈ rs, y.low = false) ∧ cb = c + 1))) (fun N hN => ?_) ?_
      · refine ⟨_, rfl, Nat.zero_le _, fun q1 hq1 => ?_⟩
        have sq1 : Same H8 (upd H8 q1 (.lst [])) := Same.new hq1
        refine ⟨.list ((rs.filter (·.low)).map datR), .list [], dp_at (hD.same sq1), .lst (SqL.of upd_same) .nil, shaped_recs _, rfl, _, rfl, ?_⟩
        cases hlow : rs.filter (·.low) with
        | nil =>
          refine iteFe (by rw [List.map_nil, eqv_nil]; rfl) ?_
          refine ⟨_, rfl, c, 1, rfl, rfl, hN _ _ ⟨c + 1, rfl, sq1, .inr ⟨fun y hy => ?_, rfl⟩⟩⟩
          cases l : y.low with
          | false => rfl
          | true =>
            have := List.mem_filter.mpr ⟨hy, l⟩
            rw [hlow] at this
            cases this
        | cons y ys =>
          refine iteTe (by rw [eqv_recs_cons]; rfl) ?_
          have hy : y ∈ rs.filter (·.low) := by rw [hlow]; exact List.mem_cons_self
          refine ⟨_, rfl, c, 1, rfl, rfl, hN _ _ ⟨c - 1, rfl, sq1, .inl ⟨⟨y, (List.mem_filter.mp hy).1, (List.mem_filter.mp hy).2⟩, rfl⟩⟩⟩
      rintro σ' H9 ⟨cb, rfl, s9, hcb⟩
      have s79 := s8.trans s9
      have fit9 := fit7.same s79
      have hr9 := s79 _ _ hr7
      have pen9 := pen7.same s79
      -- beside does not fit
      refine st_joinIf (fun σ' H' => σ' = [some (.ref a), some (.ref d), some (.int (0 + (i : Nat))), some (.int f), some (.ref h), some (.ref b), some (.ref r), some (.ref e), some (.int p), some (.int q), some (.int c), some (.ref D), none, some (.int cb), x14] ∧ Same H9 H') (fun N hN => ?_) ?_
      · refine ⟨_, rfl, Nat.zero_le _, fun q1 hq1 => ?_⟩
        have sq1 : Same H9 (upd H9 q1 (.lst [])) := Same.new hq1
        refine ⟨.list (rs.map datR), .list [], dp_at (fit9.at_.same sq1), .lst (SqL.of upd_same) .nil, shaped_recs _, rfl, _, rfl, ?_⟩
        by_cases hrs : rs = []
        · refine iteFe (by rw [hrs, List.map_nil, eqv_nil]; rfl) ?_
          exact hN _ _ ⟨rfl, sq1⟩
        · refine iteTe (by cases rs with
            | nil => exact absurd rfl hrs
            | cons y ys => rw [eqv_recs_cons]; rfl) ?_
          refine ⟨_, rfl, _, rfl, _, rfl, by show 3 ≤ sizeLine; decide, fun t2 ht2 => ?_⟩
          have s2 := sq1.trans (Same.new (o := .tup [.int p, .int q, .int cb]) ht2)
          have hbad : ¬ LF.fits p q cb rs := by
            rcases hcb with ⟨hl, rfl⟩ | ⟨hl, rfl⟩
            · exact hru.beside_low hl
            · exact hru.beside_high hl hrs
          refine ⟨_, rfl, t2, b, rs, p, q, cb, rfl, upd_same, fit9.at_.same s2, okd.ok, hp0, hq0, hru.1.coprime, sm_mono sp (by decide), sm_mono sq (by decide), fun z => absurd z hbad, fun _ => ?_⟩
          exact ⟨false, rfl, iteF (hN _ _ ⟨rfl, s2⟩)⟩
      rintro σ' H10 ⟨rfl, s10⟩
      have fit10 := fit9.same s10
      have hr10 := s10 _ _ hr9
      have pen10 := pen9.same s10
      -- no records: 0, 1, 0; and the cycle
      refine st_joinIf (fun σ' H' => σ' = [some (.ref a), some (.ref d), some (.int (0 + (i : Nat))), some (.int f), some (.ref h), some (.ref b), some (.ref r), some (.ref e), some (.int p), some (.int q), some (.int c), some (.ref D), none, some (.int cb), x14] ∧ Same H10 H') (fun N hN => ?_) ?_
      · refine ⟨_, rfl, Nat.zero_le _, fun q1 hq1 => ?_⟩
        have sq1 : Same H10 (upd H10 q1 (.lst [])) := Same.new hq1
        refine ⟨.list (rs.map datR), .list [], dp_at (fit10.at_.same sq1), .lst (SqL.of upd_same) .nil, shaped_recs _, rfl, _, rfl, ?_⟩
        by_cases hrs : rs = []
        · refine iteTe (by rw [hrs, List.map_nil, eqv_nil]) ?_
          refine ⟨_, rfl, by show 3 ≤ sizeLine; decide, fun t2 ht2 => ?_⟩
          have s2 := sq1.trans (Same.new (o := .tup [.int 0, .int 1, .int 0]) ht2)
          refine ⟨.tuple [.int p, .int q, .int c], .tuple [.int 0, .int 1, .int 0], dp_trip (s2 _ _ hr10), dp_trip upd_same, shaped_trip, shaped_trip, _, rfl, ?_⟩
          have h0 : isRule [] p q c := by rw [← hrs]; exact hru
          obtain ⟨e1, e2, e3⟩ := isRule_unique h0 isRule.nil
          refine iteFe (by rw [e1, e2, e3, eqv_trip]; rfl) ?_
          refine ⟨_, rfl, b, rs, P0, Q0, rfl, fit10.same s2, fun H' p' q' c' s' hru' => ⟨_, rfl, rfl, _, rfl, ?_⟩⟩
          obtain ⟨rfl, rfl, rfl⟩ := isRule_unique hru hru'
          exact iteNS rfl (hN _ _ ⟨rfl, s2.trans s'⟩)
        · refine iteFe (by cases rs with
            | nil => exact absurd rfl hrs
            | cons y ys => rw [eqv_recs_cons]) (iteF ?_)
          refine ⟨_, rfl, b, rs, P0, Q0, rfl, fit10.same sq1, fun H' p' q' c' s' hru' => ⟨_, rfl, rfl, _, rfl, ?_⟩⟩
          obtain ⟨rfl, rfl, rfl⟩ := isRule_unique hru hru'
          exact iteNS rfl (hN _ _ ⟨rfl, sq1.trans s'⟩)
      rintro σ' H11 ⟨rfl, s11⟩
      have fit11 := fit10.same s11
      have hr11 := s11 _ _ hr10
      have pen11 := pen10.same s11
      -- no pairs with a lesser q
      refine st_joinIf (fun σ' H' => σ' = [some (.ref a), some (.ref d), some (.int (0 + (i : Nat))), some (.int f), some (.ref h), some (.ref b), some (.ref r), some (.ref e), some (.int p), some (.int q), some (.int c), some (.ref D), none, some (.int cb), x14] ∧ Keep H11 H' ∧ PenAt H' d pa (5000 * i + 2121)) (fun N hN => ?_) ?_
      · refine ⟨_, rfl, q, 1, rfl, rfl, _, rfl, ?_⟩
        refine ite2 (fun cc => ?_) (fun cc => hN _ _ ⟨rfl, Keep.refl _, pen11.mono (by omega)⟩)
        have hq1 : 1 < q := of_decide_eq_true cc
        refine ⟨_, rfl, _, rfl, d, pa, 40, _, rfl, pen11, by decide, by decide, by omega, fun H12 z hz0 hz1 pen12 k12 => ?_⟩
        refine ⟨_, rfl, q, 1, rfl, rfl, z, q - 1, rfl, rfl, (by omega), 1, _, rfl, rfl, b, rs, P0, Q0, _, p, q, rfl, fit11.keep k12, hru.1, ?_, ?_, ?_, fun H13 s13 => ?_⟩
        · have := Int.emod_nonneg z (show q - 1 ≠ 0 by omega)
          omega
        · have := Int.emod_lt_of_pos z (show 0 < q - 1 by omega)
          omega
        · have h1 := Int.emod_lt_of_pos z (show 0 < q - 1 by omega)
          have h2 := sm_lt sq
          have h3 : (2 : Int) ^ 70 ≤ 10 ^ 60 := by decide
          omega
        · exact ⟨true, rfl, iteF (hN _ _ ⟨rfl, k12.trans (.of s13), (pen12.same s13).mono (by omega)⟩)⟩
      rintro σ' H12 ⟨rfl, k12, pen12⟩
      have fit12 := fit11.keep k12
      have hr12 := k12.t hr11
      -- more
      obtain ⟨ps, hps, hpp⟩ := fit12.at_
      refine st_setS ?_
      refine ⟨_, rfl, _, rfl, 2, rfl, b, _, rfl, SqL.of hps, fun l1 hl1 => ?_⟩
      rw [cut2]
      have sl1 : Same H12 (upd H12 l1 (.lst ((ps.take 2).map V.ref))) := Same.new hl1
      refine ⟨b, l1, _, _, rfl, rfl, sl1 _ _ hps, upd_same, ?_, fun l2 hl2 => ?_⟩
      · have e1 := hpp.length
        rw [List.length_map, List.length_map, List.length_take]
        exact Nat.le_of_lt (small1000 (by omega))
      have e1 := hpp.length
      have sl2 := sl1.trans (Same.new (o := .lst (ps.map V.ref ++ (ps.take 2).map V.ref)) hl2)
      have fit13 := fit12.same sl2
      have hr13 := sl2 _ _ hr12
      have pen13 := pen12.same sl2
      have hmem : ∀ y ∈ rs ++ rs.take 2, y ∈ rs := fun y hy => by
        rcases List.mem_append.mp hy with z | z
        · exact z
        · exact List.mem_of_mem_take z
      have hR13 : RecsAt (upd (upd H12 l1 (.lst ((ps.take 2).map V.ref))) l2 (.lst (ps.map V.ref ++ (ps.take 2).map V.ref))) l2 (rs ++ rs.take 2) :=
        ⟨ps ++ ps.take 2, (by rw [upd_same, List.map_append]), (hpp.app (hpp.take 2)).keep (.of sl2)⟩
      generalize upd (upd H12 l1 (.lst ((ps.take 2).map V.ref))) l2 (.lst (ps.map V.ref ++ (ps.take 2).map V.ref)) = H13 at fit13 hr13 pen13 hR13
      -- one record more
      refine st_joinIf (fun σ' H' => ∃ (l : Addr) (rs' : List R), σ' = [some (.ref a), some (.ref d), some (.int (0 + (i : Nat))), some (.int f), some (.ref h), some (.ref b), some (.ref r), some (.ref e), some (.int p), some (.int q), some (.int c), some (.ref D), none, some (.int cb), some (.ref l)] ∧
        RecsAt H' l rs' ∧ rs'.length ≤ 15 ∧ okRs rs' ∧ isRule rs' p q c ∧ H' r = some (.tup [.int p, .int q, .int c]) ∧ PenAt H' d pa (5000 * i + 2171)) (fun N hN => ?_) ?_
      · refine ⟨_, rfl, Nat.zero_le _, fun q1 hq1 => ?_⟩
        have sq1 : Same H13 (upd H13 q1 (.lst [])) := Same.new hq1
        refine ⟨.list (rs.map datR), .list [], dp_at (fit13.at_.same sq1), .lst (SqL.of upd_same) .nil, shaped_recs _, rfl, _, rfl, ?_⟩
        have hok : okRs (rs ++ rs.take 2) := fun y hy => okd.ok y (hmem y hy)
        by_cases hrs : rs = []
        · refine iteFe (by rw [hrs, List.map_nil, eqv_nil]; rfl) ?_
          refine hN _ _ ⟨l2, rs ++ rs.take 2, rfl, hR13.same sq1, ?_, hok, ?_, sq1 _ _ hr13, (pen13.same sq1).mono (by omega)⟩
          · rw [hrs]
            decide
          · rw [hrs]
            rw [hrs] at hru
            exact hru
        · refine iteTe (by cases rs with
            | nil => exact absurd rfl hrs
            | cons y ys => rw [eqv_recs_cons]; rfl) ?_
          refine ⟨_, rfl, _, rfl, _, rfl, _, rfl, _, rfl, d, pa, b, r, rs, p, q, c, f, _, rfl, pen13.same sq1, fit13.at_.same sq1, hlen, sq1 _ _ hr13, hq0, sp, sq, rule_c_sm hru sp sq okd, by omega, hf40, by omega, fun H14 t x ht okx hfx hlx pen14 k14 => ?_⟩
          refine ⟨by show 1 ≤ sizeLine; decide, fun l3 hl3 => ?_⟩
          have k3 : Keep H13 (upd H14 l3 (.lst [V.ref t])) := ((Keep.of sq1).trans k14).trans (Keep.new hl3)
          obtain ⟨ps', hps', hpp'⟩ := hR13.keep k3
          have e2 := hpp'.length
          have e3 : (rs ++ rs.take 2).length ≤ 14 := by
            rw [List.length_append, List.length_take]
            omega
          refine ⟨l2, l3, _, _, rfl, rfl, hps', upd_same, ?_, fun l4 hl4 => ?_⟩
          · rw [List.length_map, List.length_singleton]
            exact Nat.le_of_lt (small1000 (by omega))
          have k4 := k3.trans (Keep.new (o := .lst (ps'.map V.ref ++ [V.ref t])) hl4)
          have s34 : Keep H14 (upd (upd H14 l3 (.lst [V.ref t])) l4 (.lst (ps'.map V.ref ++ [V.ref t]))) := (Keep.new hl3).trans (Keep.new hl4)
          refine hN _ _ ⟨l4, (rs ++ rs.take 2) ++ [x], rfl, ⟨ps' ++ [t], (by rw [upd_same, List.map_append]; rfl), (hpp'.keep (Keep.new hl4)).app ⟨s34.t ht, True.intro⟩⟩, ?_, ?_, ?_, k4.t hr13, (((pen14.same (Same.new hl3)).same (Same.new hl4)).mono (by omega))⟩
          · rw [List.length_append, List.length_singleton]
            omega
          · intro y hy
            rcases List.mem_append.mp hy with z | z
            · exact hok y z
            · rw [List.mem_singleton.mp z]
              exact okx
          · refine hru.more (fun y hy => List.mem_append_left _ (List.mem_append_left _ hy)) (fun y hy => ?_) ?_ (fun z => absurd z hrs)
            · rcases List.mem_append.mp hy with z | z
              · exact hru.fits y (hmem y z)
              · rw [List.mem_singleton.mp z]
                exact hfx
            · by_cases hl : ∃ y ∈ rs, y.low = true
              · exact .inl hl
              · have hall : ∀ y ∈ rs, y.low = false := fun y hy => by
                  cases l : y.low with
                  | false => rfl
                  | true => exact absurd ⟨y, hy, l⟩ hl
                refine .inr fun y hy => ?_
                rcases List.mem_append.mp hy with z | z
                · exact hall y (hmem y z)
                · rw [List.mem_singleton.mp z]
                  exact hlx hall
      rintro σ' H14 ⟨l, rs', rfl, hR14, hlen', hok', hru', hr14, pen14⟩
      -- shuffled
      refine ⟨_, rfl, _, rfl, d, pa, l, rs', _, rfl, pen14, hR14, by omega, by omega, fun H15 l5 rs5 hR15 hperm pen15 k15 => ?_⟩
      have hru5 := hru'.perm hperm
      refine ⟨l5, rs5, p, q, rfl, ⟨hR15, by rw [hperm.length_eq]; omega, (fun y hy => hok' y (hperm.subset hy)), hp0, hq0, sm_mono sp (by decide), sm_mono sq (by decide), hru5.1.2.2.1⟩, fun t6 H16 p' q' c' s16 ht6 hru6 => ?_⟩
      obtain ⟨rfl, rfl, rfl⟩ := isRule_unique hru5 hru6
      refine ⟨_, rfl, .tuple [.int p, .int q, .int c], .tuple [.int p, .int q, .int c], dp_trip ht6, dp_trip (s16 _ _ (k15.t hr14)), shaped_trip, shaped_trip, _, rfl, iteFe (by rw [eqv_trip]; rfl) ?_⟩
      exact ⟨_, _, _, _, _, _, _, _, _, _, _, _, rfl, (pen15.same s16).mono (by omega)⟩
    · rintro σ H ⟨x2, x3, x4, x5, x6, x7, x8, x9, x10, x11, x13, x14, rfl, pen⟩
      exact k H
end
end LF

namespace LF
open PySem PySem.Spec PyProof.Rows L2
def d_is_integer : He.DefD := ⟨("is_integer", none), "is_integer", "is_integer", defArgs s_is_integer, defBody s_is_integer, defScope s_is_integer, [], []⟩
def d_is_list : He.DefD := ⟨("is_list", none), "is_list", "is_list", defArgs s_is_list, defBody s_is_list, defScope s_is_list, [], []⟩
def d_common_divisor : He.DefD := ⟨("common_divisor", none), "common_divisor", "common_divisor", defArgs s_common_divisor, defBody s_common_divisor, defScope s_common_divisor, [], []⟩
def d_is_reduced : He.DefD := ⟨("is_reduced", none), "is_reduced", "is_reduced", defArgs s_is_reduced, defBody s_is_reduced, defScope s_is_reduced, [], []⟩
def d_is_rate : He.DefD := ⟨("is_rate", none), "is_rate", "is_rate", defArgs s_is_rate, defBody s_is_rate, defScope s_is_rate, [], []⟩
def d_is_record : He.DefD := ⟨("is_record", none), "is_record", "is_record", defArgs s_is_record, defBody s_is_record, defScope s_is_record, [], []⟩
def d_need_number : He.DefD := ⟨("need_number", none), "need_number", "need_number", defArgs s_need_number, defBody s_need_number, defScope s_need_number, [.non, .non], []⟩
def d_need_records : He.DefD := ⟨("need_records", none), "need_records", "need_records", defArgs s_need_records, defBody s_need_records, defScope s_need_records, [], []⟩
def d_simplest_rate : He.DefD := ⟨("simplest_rate", none), "simplest_rate", "simplest_rate", defArgs s_simplest_rate, defBody s_simplest_rate, defScope s_simplest_rate, [], []⟩
def d_simplest_between : He.DefD := ⟨("simplest_between", none), "simplest_between", "simplest_between", defArgs s_simplest_between, defBody s_simplest_between, defScope s_simplest_between, [], []⟩
def d_lowest_terms : He.DefD := ⟨("lowest_terms", none), "lowest_terms", "lowest_terms", defArgs s_lowest_terms, defBody s_lowest_terms, defScope s_lowest_terms, [], []⟩
def d_is_less : He.DefD := ⟨("is_less", none), "is_less", "is_less", defArgs s_is_less, defBody s_is_less, defScope s_is_less, [], []⟩
def d_RateBounds_init : He.DefD := ⟨("RateBounds", some "__init__"), "__init__", "RateBounds.__init__", defArgs s_RateBounds_init, defBody s_RateBounds_init, defScope s_RateBounds_init, [], []⟩
def d_RateBounds_tighten : He.DefD := ⟨("RateBounds", some "tighten"), "tighten", "RateBounds.tighten", defArgs s_RateBounds_tighten, defBody s_RateBounds_tighten, defScope s_RateBounds_tighten, [], []⟩
def d_RateBounds_is_empty : He.DefD := ⟨("RateBounds", some "is_empty"), "is_empty", "RateBounds.is_empty", defArgs s_RateBounds_is_empty, defBody s_RateBounds_is_empty, defScope s_RateBounds_is_empty, [], []⟩
def d_RateBounds_ends : He.DefD := ⟨("RateBounds", some "ends"), "ends", "RateBounds.ends", defArgs s_RateBounds_ends, defBody s_RateBounds_ends, defScope s_RateBounds_ends, [], []⟩
def d_ends_of : He.DefD := ⟨("ends_of", none), "ends_of", "ends_of", defArgs s_ends_of, defBody s_ends_of, defScope s_ends_of, [], []⟩
def d_rates : He.DefD := ⟨("rates", none), "rates", "rates", defArgs s_rates, defBody s_rates, defScope s_rates, [], []⟩
def d_phase_range : He.DefD := ⟨("phase_range", none), "phase_range", "phase_range", defArgs s_phase_range, defBody s_phase_range, defScope s_phase_range, [], []⟩
def d_some_rule : He.DefD := ⟨("some_rule", none), "some_rule", "some_rule", defArgs s_some_rule, defBody s_some_rule, defScope s_some_rule, [], []⟩
def d_least_rule : He.DefD := ⟨("least_rule", none), "least_rule", "least_rule", defArgs s_least_rule, defBody s_least_rule, defScope s_least_rule, [], []⟩
def d_least_cycle : He.DefD := ⟨("least_cycle", none), "least_cycle", "least_cycle", defArgs s_least_cycle, defBody s_least_cycle, defScope s_least_cycle, [], []⟩
def d_Line_init : He.DefD := ⟨("Line", some "__init__"), "__init__", "Line.__init__", defArgs s_Line_init, defBody s_Line_init, defScope s_Line_init, [], []⟩
def d_lower_envelope : He.DefD := ⟨("lower_envelope", none), "lower_envelope", "lower_envelope", defArgs s_lower_envelope, defBody s_lower_envelope, defScope s_lower_envelope, [], []⟩
def d_Pairs_init : He.DefD := ⟨("Pairs", some "__init__"), "__init__", "Pairs.__init__", defArgs s_Pairs_init, defBody s_Pairs_init, defScope s_Pairs_init, [], []⟩
def d_Pairs_total : He.DefD := ⟨("Pairs", some "total"), "total", "Pairs.total", defArgs s_Pairs_total, defBody s_Pairs_total, defScope s_Pairs_total, [], []⟩
def d_count_pairs : He.DefD := ⟨("count_pairs", none), "count_pairs", "count_pairs", defArgs s_count_pairs, defBody s_count_pairs, defScope s_count_pairs, [], []⟩
def d__law_pen : He.DefD := ⟨("_law_pen", none), "_law_pen", "_law_pen", defArgs s__law_pen, defBody s__law_pen, defScope s__law_pen, [], []⟩
def d__law_draw : He.DefD := ⟨("_law_draw", none), "_law_draw", "_law_draw", defArgs s__law_draw, defBody s__law_draw, defScope s__law_draw, [], []⟩
def d__law_pick : He.DefD := ⟨("_law_pick", none), "_law_pick", "_law_pick", defArgs s__law_pick, defBody s__law_pick, defScope s__law_pick, [], []⟩
def d__law_shuffled : He.DefD := ⟨("_law_shuffled", none), "_law_shuffled", "_law_shuffled", defArgs s__law_shuffled, defBody s__law_shuffled, defScope s__law_shuffled, [], []⟩
def d__law_natural : He.DefD := ⟨("_law_natural", none), "_law_natural", "_law_natural", defArgs s__law_natural, defBody s__law_natural, defScope s__law_natural, [], []⟩
def d__law_integer : He.DefD := ⟨("_law_integer", none), "_law_integer", "_law_integer", defArgs s__law_integer, defBody s__law_integer, defScope s__law_integer, [], []⟩
def d__law_gcd : He.DefD := ⟨("_law_gcd", none), "_law_gcd", "_law_gcd", defArgs s__law_gcd, defBody s__law_gcd, defScope s__law_gcd, [], []⟩
def d__law_hidden : He.DefD := ⟨("_law_hidden", none), "_law_hidden", "_law_hidden", defArgs s__law_hidden, defBody s__law_hidden, defScope s__law_hidden, [], []⟩
def d__law_count_at : He.DefD := ⟨("_law_count_at", none), "_law_count_at", "_law_count_at", defArgs s__law_count_at, defBody s__law_count_at, defScope s__law_count_at, [], []⟩
def d__law_records : He.DefD := ⟨("_law_records", none), "_law_records", "_law_records", defArgs s__law_records, defBody s__law_records, defScope s__law_records, [], []⟩
def d__law_fits_all : He.DefD := ⟨("_law_fits_all", none), "_law_fits_all", "_law_fits_all", defArgs s__law_fits_all, defBody s__law_fits_all, defScope s__law_fits_all, [], []⟩
def d__law_no_pairs : He.DefD := ⟨("_law_no_pairs", none), "_law_no_pairs", "_law_no_pairs", defArgs s__law_no_pairs, defBody s__law_no_pairs, defScope s__law_no_pairs, [], []⟩
def d__law_more : He.DefD := ⟨("_law_more", none), "_law_more", "_law_more", defArgs s__law_more, defBody s__law_more, defScope s__law_more, [], []⟩
def d_law : He.DefD := ⟨("law", none), "law", "law", defArgs s_law, defBody s_law, defScope s_law, [], []⟩
def fn : List He.DefD := [d_is_integer, d_is_list, d_common_divisor, d_is_reduced, d_is_rate, d_is_record, d_need_number, d_need_records, d_simplest_rate, d_simplest_between, d_lowest_terms, d_is_less, d_RateBounds_init, d_RateBounds_tighten, d_RateBounds_is_empty, d_RateBounds_ends, d_ends_of, d_rates, d_phase_range, d_some_rule, d_least_rule, d_least_cycle, d_Line_init, d_lower_envelope] ++ [d_Pairs_init, d_Pairs_total, d_count_pairs, d__law_pen, d__law_draw, d__law_pick, d__law_shuffled, d__law_natural, d__law_integer, d__law_gcd, d__law_hidden, d__law_count_at, d__law_records, d__law_fits_all, d__law_no_pairs, d__law_more, d_law]
def fa0 : List He.Fa := [.glo "is_integer", .glo "is_list", .glo "common_divisor", .glo "is_reduced", .glo "is_rate", .glo "is_record", .glo "need_number", .glo "need_records", .glo "simplest_rate", .glo "simplest_between", .glo "lowest_terms", .glo "is_less", .glo "ends_of", .glo "rates", .glo "phase_range", .glo "some_rule", .glo "least_rule", .glo "least_cycle", .glo "lower_envelope", .glo "count_pairs", .glo "_law_pen", .glo "_law_draw", .glo "_law_pick", .glo "_law_shuffled", .glo "_law_natural", .glo "_law_integer", .glo "_law_gcd", .glo "_law_hidden", .glo "_law_count_at", .glo "_law_records"]
def fa1 : List He.Fa := [.glo "_law_fits_all", .glo "_law_no_pairs", .glo "_law_more", .glo "law", .glo "RateBounds", .glo "Line", .glo "Pairs", .glo "Unbounded", .free "isinstance", .free "int", .free "bool", .free "list", .free "tuple", .free "len", .free "all", .free "str", .free "range", .free "abs", .free "max", .free "min", .free "enumerate", .int "MOST_ITEMS" 200, .int "MOST_CYCLE" (10 ^ 60), .glo "BOUNDS", .cls "RateBounds", .mkr "RateBounds", .noat "RateBounds" "low", .noat "RateBounds" "low_pair", .noat "RateBounds" "high", .noat "RateBounds" "high_pair"]
def fa2 : List He.Fa := [.noat "RateBounds" "clash", .cls "Line", .mkr "Line", .noat "Line" "slope", .noat "Line" "offset", .cls "Pairs", .mkr "Pairs", .noat "Pairs" "first", .noat "Pairs" "last", .noat "Pairs" "parts", .meth "RateBounds" "tighten", .meth "RateBounds" "is_empty", .meth "RateBounds" "ends", .meth "Pairs" "total"]
def fa : List He.Fa := fa0 ++ fa1 ++ fa2
def names1 : List Str := ["LeapfitError", "InvalidNumber", "InvalidRate", "InvalidRecord", "NoRule", "Unbounded", "is_integer", "is_list", "common_divisor", "is_reduced", "is_rate", "is_record", "need_number", "need_records", "simplest_rate", "simplest_between", "lowest_terms", "is_less", "RateBounds", "ends_of", "rates", "phase_range", "some_rule", "least_rule", "least_cycle", "Line", "lowest", "lower_envelope", "Pairs", "count_pairs"]
def names2 : List Str := ["_law_pen", "_law_draw", "_law_pick", "_law_shuffled", "_law_natural", "_law_integer", "_law_gcd", "_law_hidden", "_law_count_at", "_law_records", "_law_fits_all", "_law_no_pairs", "_law_more", "MOST_ITEMS", "BOUNDS", "MOST_CYCLE", "__name__"]
def names : List Str := names1 ++ names2
abbrev Rw : PySem.W.OpenRow := PySem.W.OpenLaw.row PySem.Challenge.rw_leapfit_k59_whole_least_rules_far
def ex (K : PySem.W.Frag) : Bool := He.tupB K "BOUNDS" [.str "at least", .str "at most"]
abbrev hk : PySem.W.Hook := He.hookX 5 fa fn [] [] ex
def ob (s : PySem.W.SharedT) : He.AlX := He.obsX 5 fa fn [] [] ex (HandSHeadRun.getT s)
theorem ob_eq (s : PySem.W.SharedT) : ob s = hk.obs s.abs := He.obsX_eq (HandSHeadRun.getT_eq s)
theorem run (w : World) : HandSHeadRun.RunEq Rw (PySem.W.view Rw.prog [52]) hk ob 6000 names w := by
  intro os
  kernel_rfl
end LF

namespace LF
open PySem PySem.Spec PyProof.Rows L2
theorem vals_app {vs zs : List V} {us ws : List Value} : Vals vs us → Vals zs ws → Vals (vs ++ zs) (us ++ ws) := fun a b => a.append b
theorem kbn_need {K : PySem.W.Frag} {f : Addr} {fd : FuncData} (F : FunD K "need_number" "need_number" (defArgs s_need_number) (defBody s_need_number) (defScope s_need_number) [.non, .non] [] f fd) :
    KBn K fd ["value", "least", "most"] 1 ["least", "most"] (fun us ws => us ++ ws) (fun vs zs => vs ++ zs) := by
  obtain ⟨oc, od, dV, kV, doc, pm, an, cdv, ct, osl, rfl, lk, hcd, hD, hK⟩ := F.ex
  rcases hD with ⟨e, _⟩ | ⟨_, T, o, its, m, rfl, lT, oT, rT⟩
  · cases e
  refine ⟨fun s us ws X l1 l2 => ?_, fun r1 r2 => vals_app r1 r2⟩
  match us, l1 with
  | [u], _ =>
    match ws, l2 with
    | [a, b], _ =>
      have l3 : its.length = 2 := rT.length.symm
      match its, l3, oT with
      | [i1, i2], _, oT =>
        refine BindsTo.of_looks fun M => ?_
        refine looks_items (k := ?k) X lT oT ?_
        rotate_left
        exact .of_pure rfl
theorem txt_of {K : PySem.W.Frag} {h : Heap} {mg : Str → Option Value} (X : K.In h) (G : h.Ns mainGlobals mg) (c : He.SaysD fa fn K) (hex : ex K = true) : Txt K mg where
  b_isinstance := He.free_ok X G (c.fact 38 (f := .free "isinstance") rfl)
  b_int := He.free_ok X G (c.fact 39 (f := .free "int") rfl)
  b_bool := He.free_ok X G (c.fact 40 (f := .free "bool") rfl)
  b_list := He.free_ok X G (c.fact 41 (f := .free "list") rfl)
  b_tuple := He.free_ok X G (c.fact 42 (f := .free "tuple") rfl)
  b_len := He.free_ok X G (c.fact 43 (f := .free "len") rfl)
  b_all := He.free_ok X G (c.fact 44 (f := .free "all") rfl)
  b_str := He.free_ok X G (c.fact 45 (f := .free "str") rfl)
  b_range := He.free_ok X G (c.fact 46 (f := .free "range") rfl)
  b_abs := He.free_ok X G (c.fact 47 (f := .free "abs") rfl)
  b_max := He.free_ok X G (c.fact 48 (f := .free "max") rfl)
  b_min := He.free_ok X G (c.fact 49 (f := .free "min") rfl)
  b_enumerate := He.free_ok X G (c.fact 50 (f := .free "enumerate") rfl)
  MOST_ITEMS := He.int_ok X G (c.fact 51 (f := .int "MOST_ITEMS" 200) rfl)
  MOST_CYCLE := He.int_ok X G (c.fact 52 (f := .int "MOST_CYCLE" (10 ^ 60)) rfl)
  BOUNDS := He.glo_ok X G (c.fact 53 (f := .glo "BOUNDS") rfl)
  bounds := fun H => He.tupB_ok hex H
  exUnbounded := He.glo_ok X G (c.fact 37 (f := .glo "Unbounded") rfl)
  c_RateBounds := He.cls_ok (c.fact 54 (f := .cls "RateBounds") rfl)
  n_RateBounds_low := He.noat_ok (c.fact 56 (f := .noat "RateBounds" "low") rfl)
  n_RateBounds_low_pair := He.noat_ok (c.fact 57 (f := .noat "RateBounds" "low_pair") rfl)
  n_RateBounds_high := He.noat_ok (c.fact 58 (f := .noat "RateBounds" "high") rfl)
  n_RateBounds_high_pair := He.noat_ok (c.fact 59 (f := .noat "RateBounds" "high_pair") rfl)
  n_RateBounds_clash := He.noat_ok (c.fact 60 (f := .noat "RateBounds" "clash") rfl)
  c_Line := He.cls_ok (c.fact 61 (f := .cls "Line") rfl)
  n_Line_slope := He.noat_ok (c.fact 63 (f := .noat "Line" "slope") rfl)
  n_Line_offset := He.noat_ok (c.fact 64 (f := .noat "Line" "offset") rfl)
  c_Pairs := He.cls_ok (c.fact 65 (f := .cls "Pairs") rfl)
  n_Pairs_first := He.noat_ok (c.fact 67 (f := .noat "Pairs" "first") rfl)
  n_Pairs_last := He.noat_ok (c.fact 68 (f := .noat "Pairs" "last") rfl)
  n_Pairs_parts := He.noat_ok (c.fact 69 (f := .noat "Pairs" "parts") rfl)
theorem facts {P : Program} {w : World} {K : PySem.W.Frag} {h : Heap} {mg : Str → Option Value} {f : Addr} (X : K.In h) (G : h.Ns mainGlobals mg) (hfa : mg ("law" : Str) = some (.ref f)) (c : He.SaysD fa fn K) (hex : ex K = true) :
    ∃ fd : FuncData, (∀ (s : Shared) (v : Value), BindsTo s fd ⟨[v], []⟩ [("_law_script", v)]) ∧ ∀ base : Heap, K.In base → base.Ns mainGlobals mg → FnOk P w K mg base CX0 10 f fd ["_law_script"] (sp_law K) := by
  have T : Txt K mg := txt_of X G c hex
  obtain ⟨fd_is_integer, D_is_integer⟩ := c.def_ 0 (d := d_is_integer) rfl
  have F_is_integer : Fun K "is_integer" "is_integer" s_is_integer (He.ga K "is_integer") fd_is_integer := He5.fun_of (kws := []) D_is_integer
  obtain ⟨fd_is_list, D_is_list⟩ := c.def_ 1 (d := d_is_list) rfl
  have F_is_list : Fun K "is_list" "is_list" s_is_list (He.ga K "is_list") fd_is_list := He5.fun_of (kws := []) D_is_list
  obtain ⟨fd_common_divisor, D_common_divisor⟩ := c.def_ 2 (d := d_common_divisor) rfl
  have F_common_divisor : Fun K "common_divisor" "common_divisor" s_common_divisor (He.ga K "common_divisor") fd_common_divisor := He5.fun_of (kws := []) D_common_divisor
  obtain ⟨fd_is_reduced, D_is_reduced⟩ := c.def_ 3 (d := d_is_reduced) rfl
  have F_is_reduced : Fun K "is_reduced" "is_reduced" s_is_reduced (He.ga K "is_reduced") fd_is_reduced := He5.fun_of (kws := []) D_is_reduced
  obtain ⟨fd_is_rate, D_is_rate⟩ := c.def_ 4 (d := d_is_rate) rfl
  have F_is_rate : Fun K "is_rate" "is_rate" s_is_rate (He.ga K "is_rate") fd_is_rate := He5.fun_of (kws := []) D_is_rate
  obtain ⟨fd_is_record, D_is_record⟩ := c.def_ 5 (d := d_is_record) rfl
  have F_is_record : Fun K "is_record" "is_record" s_is_record (He.ga K "is_record") fd_is_record := He5.fun_of (kws := []) D_is_record
  obtain ⟨fd_need_number, D_need_number⟩ := c.def_ 6 (d := d_need_number) rfl
  have F_need_number : FunD K "need_number" "need_number" (defArgs s_need_number) (defBody s_need_number) (defScope s_need_number) [.non, .non] [] (He.ga K "need_number") fd_need_number := D_need_number
  obtain ⟨fd_need_records, D_need_records⟩ := c.def_ 7 (d := d_need_records) rfl
  have F_need_records : Fun K "need_records" "need_records" s_need_records (He.ga K "need_records") fd_need_records := He5.fun_of (kws := []) D_need_records
  obtain ⟨fd_simplest_rate, D_simplest_rate⟩ := c.def_ 8 (d := d_simplest_rate) rfl
  have F_simplest_rate : Fun K "simplest_rate" "simplest_rate" s_simplest_rate (He.ga K "simplest_rate") fd_simplest_rate := He5.fun_of (kws := []) D_simplest_rate
  obtain ⟨fd_simplest_between, D_simplest_between⟩ := c.def_ 9 (d := d_simplest_between) rfl
  have F_simplest_between : Fun K "simplest_between" "simplest_between" s_simplest_between (He.ga K "simplest_between") fd_simplest_between := He5.fun_of (kws := []) D_simplest_between
  obtain ⟨fd_lowest_terms, D_lowest_terms⟩ := c.def_ 10 (d := d_lowest_terms) rfl
  have F_lowest_terms : Fun K "lowest_terms" "lowest_terms" s_lowest_terms (He.ga K "lowest_terms") fd_lowest_terms := He5.fun_of (kws := []) D_lowest_terms
  obtain ⟨fd_is_less, D_is_less⟩ := c.def_ 11 (d := d_is_less) rfl
  have F_is_less : Fun K "is_less" "is_less" s_is_less (He.ga K "is_less") fd_is_less := He5.fun_of (kws := []) D_is_less
  obtain ⟨fd_RateBounds_init, D_RateBounds_init⟩ := c.def_ 12 (d := d_RateBounds_init) rfl
  have F_RateBounds_init : Fun K "__init__" "RateBounds.__init__" s_RateBounds_init (He.ma K (He.ga K "RateBounds") "__init__") fd_RateBounds_init := He5.fun_of (kws := []) D_RateBounds_init
  obtain ⟨fd_RateBounds_tighten, D_RateBounds_tighten⟩ := c.def_ 13 (d := d_RateBounds_tighten) rfl
  have F_RateBounds_tighten : Fun K "tighten" "RateBounds.tighten" s_RateBounds_tighten (He.ma K (He.ga K "RateBounds") "tighten") fd_RateBounds_tighten := He5.fun_of (kws := []) D_RateBounds_tighten
  obtain ⟨fd_RateBounds_is_empty, D_RateBounds_is_empty⟩ := c.def_ 14 (d := d_RateBounds_is_empty) rfl
  have F_RateBounds_is_empty : Fun K "is_empty" "RateBounds.is_empty" s_RateBounds_is_empty (He.ma K (He.ga K "RateBounds") "is_empty") fd_RateBounds_is_empty := He5.fun_of (kws := []) D_RateBounds_is_empty
  obtain ⟨fd_RateBounds_ends, D_RateBounds_ends⟩ := c.def_ 15 (d := d_RateBounds_ends) rfl
  have F_RateBounds_ends : Fun K "ends" "RateBounds.ends" s_RateBounds_ends (He.ma K (He.ga K "RateBounds") "ends") fd_RateBounds_ends := He5.fun_of (kws := []) D_RateBounds_ends
  obtain ⟨fd_ends_of, D_ends_of⟩ := c.def_ 16 (d := d_ends_of) rfl
  have F_ends_of : Fun K "ends_of" "ends_of" s_ends_of (He.ga K "ends_of") fd_ends_of := He5.fun_of (kws := []) D_ends_of
  obtain ⟨fd_rates, D_rates⟩ := c.def_ 17 (d := d_rates) rfl
  have F_rates : Fun K "rates" "rates" s_rates (He.ga K "rates") fd_rates := He5.fun_of (kws := []) D_rates
  obtain ⟨fd_phase_range, D_phase_range⟩ := c.def_ 18 (d := d_phase_range) rfl
  have F_phase_range : Fun K "phase_range" "phase_range" s_phase_range (He.ga K "phase_range") fd_phase_range := He5.fun_of (kws := []) D_phase_range
  obtain ⟨fd_some_rule, D_some_rule⟩ := c.def_ 19 (d := d_some_rule) rfl
  have F_some_rule : Fun K "some_rule" "some_rule" s_some_rule (He.ga K "some_rule") fd_some_rule := He5.fun_of (kws := []) D_some_rule
  obtain ⟨fd_least_rule, D_least_rule⟩ := c.def_ 20 (d := d_least_rule) rfl
  have F_least_rule : Fun K "least_rule" "least_rule" s_least_rule (He.ga K "least_rule") fd_least_rule := He5.fun_of (kws := []) D_least_rule
  obtain ⟨fd_least_cycle, D_least_cycle⟩ := c.def_ 21 (d := d_least_cycle) rfl
  have F_least_cycle : Fun K "least_cycle" "least_cycle" s_least_cycle (He.ga K "least_cycle") fd_least_cycle := He5.fun_of (kws := []) D_least_cycle
  obtain ⟨fd_Line_init, D_Line_init⟩ := c.def_ 22 (d := d_Line_init) rfl
  have F_Line_init : Fun K "__init__" "Line.__init__" s_Line_init (He.ma K (He.ga K "Line") "__init__") fd_Line_init := He5.fun_of (kws := []) D_Line_init
  obtain ⟨fd_lower_envelope, D_lower_envelope⟩ := c.def_ 23 (d := d_lower_envelope) rfl
  have F_lower_envelope : Fun K "lower_envelope" "lower_envelope" s_lower_envelope (He.ga K "lower_envelope") fd_lower_envelope := He5.fun_of (kws := []) D_lower_envelope
  obtain ⟨fd_Pairs_init, D_Pairs_init⟩ := c.def_ 24 (d := d_Pairs_init) rfl
  have F_Pairs_init : Fun K "__init__" "Pairs.__init__" s_Pairs_init (He.ma K (He.ga K "Pairs") "__init__") fd_Pairs_init := He5.fun_of (kws := []) D_Pairs_init
  obtain ⟨fd_Pairs_total, D_Pairs_total⟩ := c.def_ 25 (d := d_Pairs_total) rfl
  have F_Pairs_total : Fun K "total" "Pairs.total" s_Pairs_total (He.ma K (He.ga K "Pairs") "total") fd_Pairs_total := He5.fun_of (kws := []) D_Pairs_total
  obtain ⟨fd_count_pairs, D_count_pairs⟩ := c.def_ 26 (d := d_count_pairs) rfl
  have F_count_pairs : Fun K "count_pairs" "count_pairs" s_count_pairs (He.ga K "count_pairs") fd_count_pairs := He5.fun_of (kws := []) D_count_pairs
  obtain ⟨fd__law_pen, D__law_pen⟩ := c.def_ 27 (d := d__law_pen) rfl
  have F__law_pen : Fun K "_law_pen" "_law_pen" s__law_pen (He.ga K "_law_pen") fd__law_pen := He5.fun_of (kws := []) D__law_pen
  obtain ⟨fd__law_draw, D__law_draw⟩ := c.def_ 28 (d := d__law_draw) rfl
  have F__law_draw : Fun K "_law_draw" "_law_draw" s__law_draw (He.ga K "_law_draw") fd__law_draw := He5.fun_of (kws := []) D__law_draw
  obtain ⟨fd__law_pick, D__law_pick⟩ := c.def_ 29 (d := d__law_pick) rfl
  have F__law_pick : Fun K "_law_pick" "_law_pick" s__law_pick (He.ga K "_law_pick") fd__law_pick := He5.fun_of (kws := []) D__law_pick
  obtain ⟨fd__law_shuffled, D__law_shuffled⟩ := c.def_ 30 (d := d__law_shuffled) rfl
  have F__law_shuffled : Fun K "_law_shuffled" "_law_shuffled" s__law_shuffled (He.ga K "_law_shuffled") fd__law_shuffled := He5.fun_of (kws := []) D__law_shuffled
  obtain ⟨fd__law_natural, D__law_natural⟩ := c.def_ 31 (d := d__law_natural) rfl
  have F__law_natural : Fun K "_law_natural" "_law_natural" s__law_natural (He.ga K "_law_natural") fd__law_natural := He5.fun_of (kws := []) D__law_natural
  obtain ⟨fd__law_integer, D__law_integer⟩ := c.def_ 32 (d := d__law_integer) rfl
  have F__law_integer : Fun K "_law_integer" "_law_integer" s__law_integer (He.ga K "_law_integer") fd__law_integer := He5.fun_of (kws := []) D__law_integer
  obtain ⟨fd__law_gcd, D__law_gcd⟩ := c.def_ 33 (d := d__law_gcd) rfl
  have F__law_gcd : Fun K "_law_gcd" "_law_gcd" s__law_gcd (He.ga K "_law_gcd") fd__law_gcd := He5.fun_of (kws := []) D__law_gcd
  obtain ⟨fd__law_hidden, D__law_hidden⟩ := c.def_ 34 (d := d__law_hidden) rfl
  have F__law_hidden : Fun K "_law_hidden" "_law_hidden" s__law_hidden (He.ga K "_law_hidden") fd__law_hidden := He5.fun_of (kws := []) D__law_hidden
  obtain ⟨fd__law_count_at, D__law_count_at⟩ := c.def_ 35 (d := d__law_count_at) rfl
  have F__law_count_at : Fun K "_law_count_at" "_law_count_at" s__law_count_at (He.ga K "_law_count_at") fd__law_count_at := He5.fun_of (kws := []) D__law_count_at
  obtain ⟨fd__law_records, D__law_records⟩ := c.def_ 36 (d := d__law_records) rfl
  have F__law_records : Fun K "_law_records" "_law_records" s__law_records (He.ga K "_law_records") fd__law_records := He5.fun_of (kws := []) D__law_records
  obtain ⟨fd__law_fits_all, D__law_fits_all⟩ := c.def_ 37 (d := d__law_fits_all) rfl
  have F__law_fits_all : Fun K "_law_fits_all" "_law_fits_all" s__law_fits_all (He.ga K "_law_fits_all") fd__law_fits_all := He5.fun_of (kws := []) D__law_fits_all
  obtain ⟨fd__law_no_pairs, D__law_no_pairs⟩ := c.def_ 38 (d := d__law_no_pairs) rfl
  have F__law_no_pairs : Fun K "_law_no_pairs" "_law_no_pairs" s__law_no_pairs (He.ga K "_law_no_pairs") fd__law_no_pairs := He5.fun_of (kws := []) D__law_no_pairs
  obtain ⟨fd__law_more, D__law_more⟩ := c.def_ 39 (d := d__law_more) rfl
  have F__law_more : Fun K "_law_more" "_law_more" s__law_more (He.ga K "_law_more") fd__law_more := He5.fun_of (kws := []) D__law_more
  obtain ⟨fd_law, D_law⟩ := c.def_ 40 (d := d_law) rfl
  have F_law : Fun K "law" "law" s_law (He.ga K "law") fd_law := He5.fun_of (kws := []) D_law
  have e := hfa.symm.trans (He.glo_ok X G (c.fact 33 (f := .glo "law") rfl))
  cases e
  refine ⟨fd_law, fun s v => ?_, fun base _ _ => ?_⟩
  · exact FunD.bindsA (kws := []) (ps := ["_law_script"]) D_law (fun _ _ _ _ _ _ us hl => match us, hl with | [_], _ => rfl) s [v] rfl
  have G_is_integer : Cal P w K mg base 1 "is_integer" ["value"] sp_is_integer := ⟨⟨_, _, ok_is_integer F_is_integer T , He.glo_ok X G (c.fact 0 (f := .glo "is_integer") rfl), F_is_integer.kp, F_is_integer.binds (ps := ["value"]) fun _ _ _ _ _ _ us hl => match us, hl with | [_], _ => rfl⟩⟩
  have G_is_list : Cal P w K mg base 1 "is_list" ["value"] sp_is_list := ⟨⟨_, _, ok_is_list F_is_list T , He.glo_ok X G (c.fact 1 (f := .glo "is_list") rfl), F_is_list.kp, F_is_list.binds (ps := ["value"]) fun _ _ _ _ _ _ us hl => match us, hl with | [_], _ => rfl⟩⟩
  have G_common_divisor : Cal P w K mg base 1 "common_divisor" ["one", "other"] sp_common_divisor := ⟨⟨_, _, ok_common_divisor F_common_divisor T , He.glo_ok X G (c.fact 2 (f := .glo "common_divisor") rfl), F_common_divisor.kp, F_common_divisor.binds (ps := ["one", "other"]) fun _ _ _ _ _ _ us hl => match us, hl with | [_, _], _ => rfl⟩⟩
  have G_is_reduced : Cal P w K mg base 2 "is_reduced" ["p", "q"] sp_is_reduced := ⟨⟨_, _, ok_is_reduced F_is_reduced T G_common_divisor, He.glo_ok X G (c.fact 3 (f := .glo "is_reduced") rfl), F_is_reduced.kp, F_is_reduced.binds (ps := ["p", "q"]) fun _ _ _ _ _ _ us hl => match us, hl with | [_, _], _ => rfl⟩⟩
  have G_is_rate : Cal P w K mg base 3 "is_rate" ["value"] sp_is_rate := ⟨⟨_, _, ok_is_rate F_is_rate T G_is_integer G_is_reduced, He.glo_ok X G (c.fact 4 (f := .glo "is_rate") rfl), F_is_rate.kp, F_is_rate.binds (ps := ["value"]) fun _ _ _ _ _ _ us hl => match us, hl with | [_], _ => rfl⟩⟩
  have G_is_record : Cal P w K mg base 2 "is_record" ["value"] sp_is_record := ⟨⟨_, _, ok_is_record F_is_record T G_is_integer, He.glo_ok X G (c.fact 5 (f := .glo "is_record") rfl), F_is_record.kp, F_is_record.binds (ps := ["value"]) fun _ _ _ _ _ _ us hl => match us, hl with | [_], _ => rfl⟩⟩
  have G_need_number : CalK P w K mg base 2 "need_number" ["value", "least", "most"] 1 ["least", "most"] sp_need_number := ⟨⟨_, _, ok_need_number F_need_number T G_is_integer, He.glo_ok X G (c.fact 6 (f := .glo "need_number") rfl), F_need_number.kp, kbn_need F_need_number⟩⟩
  have G_need_records : Cal P w K mg base 3 "need_records" ["value"] sp_need_records := ⟨⟨_, _, ok_need_records F_need_records T G_is_list G_is_record, He.glo_ok X G (c.fact 7 (f := .glo "need_records") rfl), F_need_records.kp, F_need_records.binds (ps := ["value"]) fun _ _ _ _ _ _ us hl => match us, hl with | [_], _ => rfl⟩⟩
  have G_simplest_rate : Cal P w K mg base 1 "simplest_rate" ["low", "high"] sp_simplest_rate := ⟨⟨_, _, ok_simplest_rate F_simplest_rate T , He.glo_ok X G (c.fact 8 (f := .glo "simplest_rate") rfl), F_simplest_rate.kp, F_simplest_rate.binds (ps := ["low", "high"]) fun _ _ _ _ _ _ us hl => match us, hl with | [_, _], _ => rfl⟩⟩
  have G_simplest_between : Cal P w K mg base 4 "simplest_between" ["low", "high"] sp_simplest_between := ⟨⟨_, _, ok_simplest_between F_simplest_between T G_is_rate G_simplest_rate, He.glo_ok X G (c.fact 9 (f := .glo "simplest_between") rfl), F_simplest_between.kp, F_simplest_between.binds (ps := ["low", "high"]) fun _ _ _ _ _ _ us hl => match us, hl with | [_, _], _ => rfl⟩⟩
  have G_lowest_terms : Cal P w K mg base 2 "lowest_terms" ["top", "bottom"] sp_lowest_terms := ⟨⟨_, _, ok_lowest_terms F_lowest_terms T G_common_divisor, He.glo_ok X G (c.fact 10 (f := .glo "lowest_terms") rfl), F_lowest_terms.kp, F_lowest_terms.binds (ps := ["top", "bottom"]) fun _ _ _ _ _ _ us hl => match us, hl with | [_, _], _ => rfl⟩⟩
  have G_is_less : Cal P w K mg base 1 "is_less" ["one", "other"] sp_is_less := ⟨⟨_, _, ok_is_less F_is_less T , He.glo_ok X G (c.fact 11 (f := .glo "is_less") rfl), F_is_less.kp, F_is_less.binds (ps := ["one", "other"]) fun _ _ _ _ _ _ us hl => match us, hl with | [_, _], _ => rfl⟩⟩
  have G_RateBounds_tighten : CalM P w K mg base 2 (He.ga K "RateBounds") "tighten" ["self", "pair", "one", "other"] (sp_RateBounds_tighten (cRB K)) := ⟨⟨_, _, ok_RateBounds_tighten F_RateBounds_tighten T G_is_less, He.meth_ok (c.fact 70 (f := .meth "RateBounds" "tighten") rfl), F_RateBounds_tighten.binds (ps := ["self", "pair", "one", "other"]) fun _ _ _ _ _ _ us hl => match us, hl with | [_, _, _, _], _ => rfl⟩⟩
  have G_RateBounds : CalC P w K mg base 3 "RateBounds" (He.ga K "RateBounds") ["self", "records"] (sp_RateBounds (cRB K)) := ⟨⟨_, _, ok_RateBounds_init F_RateBounds_init T G_RateBounds_tighten, He.glo_ok X G (c.fact 34 (f := .glo "RateBounds") rfl), He.mkr_ok (c.fact 55 (f := .mkr "RateBounds") rfl), F_RateBounds_init.binds (ps := ["self", "records"]) fun _ _ _ _ _ _ us hl => match us, hl with | [_, _], _ => rfl⟩⟩
  have G_RateBounds_is_empty : CalM P w K mg base 2 (He.ga K "RateBounds") "is_empty" ["self"] (sp_RateBounds_is_empty (cRB K)) := ⟨⟨_, _, ok_RateBounds_is_empty F_RateBounds_is_empty T G_is_less, He.meth_ok (c.fact 71 (f := .meth "RateBounds" "is_empty") rfl), F_RateBounds_is_empty.binds (ps := ["self"]) fun _ _ _ _ _ _ us hl => match us, hl with | [_], _ => rfl⟩⟩
  have G_RateBounds_ends : CalM P w K mg base 3 (He.ga K "RateBounds") "ends" ["self"] (sp_RateBounds_ends (cRB K)) := ⟨⟨_, _, ok_RateBounds_ends F_RateBounds_ends T G_lowest_terms, He.meth_ok (c.fact 72 (f := .meth "RateBounds" "ends") rfl), F_RateBounds_ends.binds (ps := ["self"]) fun _ _ _ _ _ _ us hl => match us, hl with | [_], _ => rfl⟩⟩
  have G_ends_of : Cal P w K mg base 5 "ends_of" ["records"] sp_ends_of := ⟨⟨_, _, ok_ends_of F_ends_of T G_RateBounds G_RateBounds_is_empty G_RateBounds_ends, He.glo_ok X G (c.fact 12 (f := .glo "ends_of") rfl), F_ends_of.kp, F_ends_of.binds (ps := ["records"]) fun _ _ _ _ _ _ us hl => match us, hl with | [_], _ => rfl⟩⟩
  have G_rates : Cal P w K mg base 6 "rates" ["records"] sp_ends_of := ⟨⟨_, _, ok_rates F_rates T G_need_records G_ends_of, He.glo_ok X G (c.fact 13 (f := .glo "rates") rfl), F_rates.kp, F_rates.binds (ps := ["records"]) fun _ _ _ _ _ _ us hl => match us, hl with | [_], _ => rfl⟩⟩
  have G_phase_range : Cal P w K mg base 1 "phase_range" ["records", "rate"] sp_phase_range := ⟨⟨_, _, ok_phase_range F_phase_range T , He.glo_ok X G (c.fact 14 (f := .glo "phase_range") rfl), F_phase_range.kp, F_phase_range.binds (ps := ["records", "rate"]) fun _ _ _ _ _ _ us hl => match us, hl with | [_, _], _ => rfl⟩⟩
  have G_some_rule : Cal P w K mg base 6 "some_rule" ["records"] sp_some_rule := ⟨⟨_, _, ok_some_rule F_some_rule T G_ends_of G_simplest_between G_phase_range, He.glo_ok X G (c.fact 15 (f := .glo "some_rule") rfl), F_some_rule.kp, F_some_rule.binds (ps := ["records"]) fun _ _ _ _ _ _ us hl => match us, hl with | [_], _ => rfl⟩⟩
  have G_least_rule : Cal P w K mg base 7 "least_rule" ["records"] sp_some_rule := ⟨⟨_, _, ok_least_rule F_least_rule T G_need_records G_some_rule, He.glo_ok X G (c.fact 16 (f := .glo "least_rule") rfl), F_least_rule.kp, F_least_rule.binds (ps := ["records"]) fun _ _ _ _ _ _ us hl => match us, hl with | [_], _ => rfl⟩⟩
  have G_least_cycle : Cal P w K mg base 8 "least_cycle" ["records"] sp_least_cycle := ⟨⟨_, _, ok_least_cycle F_least_cycle T G_least_rule, He.glo_ok X G (c.fact 17 (f := .glo "least_cycle") rfl), F_least_cycle.kp, F_least_cycle.binds (ps := ["records"]) fun _ _ _ _ _ _ us hl => match us, hl with | [_], _ => rfl⟩⟩
  have G_Line : CalC P w K mg base 1 "Line" (He.ga K "Line") ["self", "slope", "offset"] (sp_Line (cLine_ K)) := ⟨⟨_, _, ok_Line_init F_Line_init T , He.glo_ok X G (c.fact 35 (f := .glo "Line") rfl), He.mkr_ok (c.fact 62 (f := .mkr "Line") rfl), F_Line_init.binds (ps := ["self", "slope", "offset"]) fun _ _ _ _ _ _ us hl => match us, hl with | [_, _, _], _ => rfl⟩⟩
  have G_lower_envelope : Cal P w K mg base 1 "lower_envelope" ["lines", "first", "last"] sp_lower_envelope := ⟨⟨_, _, ok_lower_envelope F_lower_envelope T , He.glo_ok X G (c.fact 18 (f := .glo "lower_envelope") rfl), F_lower_envelope.kp, F_lower_envelope.binds (ps := ["lines", "first", "last"]) fun _ _ _ _ _ _ us hl => match us, hl with | [_, _, _], _ => rfl⟩⟩
  have G_Pairs : CalC P w K mg base 6 "Pairs" (He.ga K "Pairs") ["self", "records", "cycle"] (sp_Pairs (cPa K)) := ⟨⟨_, _, ok_Pairs_init F_Pairs_init T G_ends_of G_Line G_lower_envelope, He.glo_ok X G (c.fact 36 (f := .glo "Pairs") rfl), He.mkr_ok (c.fact 66 (f := .mkr "Pairs") rfl), F_Pairs_init.binds (ps := ["self", "records", "cycle"]) fun _ _ _ _ _ _ us hl => match us, hl with | [_, _, _], _ => rfl⟩⟩
  have G_Pairs_total : CalM P w K mg base 1 (He.ga K "Pairs") "total" ["self", "last", "step"] (sp_Pairs_total (cPa K)) := ⟨⟨_, _, ok_Pairs_total F_Pairs_total T , He.meth_ok (c.fact 73 (f := .meth "Pairs" "total") rfl), F_Pairs_total.binds (ps := ["self", "last", "step"]) fun _ _ _ _ _ _ us hl => match us, hl with | [_, _, _], _ => rfl⟩⟩
  have G_count_pairs : Cal P w K mg base 8 "count_pairs" ["records", "cycle"] sp_count_pairs := ⟨⟨_, _, ok_count_pairs F_count_pairs T G_need_records G_need_number G_Pairs G_Pairs_total, He.glo_ok X G (c.fact 19 (f := .glo "count_pairs") rfl), F_count_pairs.kp, F_count_pairs.binds (ps := ["records", "cycle"]) fun _ _ _ _ _ _ us hl => match us, hl with | [_, _], _ => rfl⟩⟩
  have G__law_pen : Cal P w K mg base 1 "_law_pen" ["_law_script"] (sp_law_pen K) := ⟨⟨_, _, ok_law_pen F__law_pen T , He.glo_ok X G (c.fact 20 (f := .glo "_law_pen") rfl), F__law_pen.kp, F__law_pen.binds (ps := ["_law_script"]) fun _ _ _ _ _ _ us hl => match us, hl with | [_], _ => rfl⟩⟩
  have G__law_draw : Cal P w K mg base 1 "_law_draw" ["_law_pen_here", "_law_many"] sp_law_draw := ⟨⟨_, _, ok_law_draw F__law_draw T , He.glo_ok X G (c.fact 21 (f := .glo "_law_draw") rfl), F__law_draw.kp, F__law_draw.binds (ps := ["_law_pen_here", "_law_many"]) fun _ _ _ _ _ _ us hl => match us, hl with | [_, _], _ => rfl⟩⟩
  have G__law_pick : Cal P w K mg base 2 "_law_pick" ["_law_pen_here", "_law_options"] sp_law_pick := ⟨⟨_, _, ok_law_pick F__law_pick T G__law_draw, He.glo_ok X G (c.fact 22 (f := .glo "_law_pick") rfl), F__law_pick.kp, F__law_pick.binds (ps := ["_law_pen_here", "_law_options"]) fun _ _ _ _ _ _ us hl => match us, hl with | [_, _], _ => rfl⟩⟩
  have G__law_shuffled : Cal P w K mg base 2 "_law_shuffled" ["_law_pen_here", "_law_items"] sp_law_shuffled := ⟨⟨_, _, ok_law_shuffled F__law_shuffled T G__law_draw, He.glo_ok X G (c.fact 23 (f := .glo "_law_shuffled") rfl), F__law_shuffled.kp, F__law_shuffled.binds (ps := ["_law_pen_here", "_law_items"]) fun _ _ _ _ _ _ us hl => match us, hl with | [_, _], _ => rfl⟩⟩
  have G__law_natural : Cal P w K mg base 2 "_law_natural" ["_law_pen_here", "_law_figures"] sp_law_natural := ⟨⟨_, _, ok_law_natural F__law_natural T G__law_draw, He.glo_ok X G (c.fact 24 (f := .glo "_law_natural") rfl), F__law_natural.kp, F__law_natural.binds (ps := ["_law_pen_here", "_law_figures"]) fun _ _ _ _ _ _ us hl => match us, hl with | [_, _], _ => rfl⟩⟩
  have G__law_integer : Cal P w K mg base 3 "_law_integer" ["_law_pen_here", "_law_figures"] sp_law_integer := ⟨⟨_, _, ok_law_integer F__law_integer T G__law_natural G__law_pick, He.glo_ok X G (c.fact 25 (f := .glo "_law_integer") rfl), F__law_integer.kp, F__law_integer.binds (ps := ["_law_pen_here", "_law_figures"]) fun _ _ _ _ _ _ us hl => match us, hl with | [_, _], _ => rfl⟩⟩
  have G__law_gcd : Cal P w K mg base 1 "_law_gcd" ["_law_one", "_law_two"] sp_law_gcd := ⟨⟨_, _, ok_law_gcd F__law_gcd T , He.glo_ok X G (c.fact 26 (f := .glo "_law_gcd") rfl), F__law_gcd.kp, F__law_gcd.binds (ps := ["_law_one", "_law_two"]) fun _ _ _ _ _ _ us hl => match us, hl with | [_, _], _ => rfl⟩⟩
  have G__law_hidden : Cal P w K mg base 4 "_law_hidden" ["_law_pen_here", "_law_figures"] sp_law_hidden := ⟨⟨_, _, ok_law_hidden F__law_hidden T G__law_draw G__law_natural G__law_integer G__law_gcd, He.glo_ok X G (c.fact 27 (f := .glo "_law_hidden") rfl), F__law_hidden.kp, F__law_hidden.binds (ps := ["_law_pen_here", "_law_figures"]) fun _ _ _ _ _ _ us hl => match us, hl with | [_, _], _ => rfl⟩⟩
  have G__law_count_at : Cal P w K mg base 1 "_law_count_at" ["_law_rule", "_law_t"] sp_law_count_at := ⟨⟨_, _, ok_law_count_at F__law_count_at T , He.glo_ok X G (c.fact 28 (f := .glo "_law_count_at") rfl), F__law_count_at.kp, F__law_count_at.binds (ps := ["_law_rule", "_law_t"]) fun _ _ _ _ _ _ us hl => match us, hl with | [_, _], _ => rfl⟩⟩
  have G__law_records : Cal P w K mg base 4 "_law_records" ["_law_pen_here", "_law_rule", "_law_most", "_law_figures"] sp_law_records := ⟨⟨_, _, ok_law_records F__law_records T G__law_draw G__law_natural G__law_integer G__law_pick G__law_count_at, He.glo_ok X G (c.fact 29 (f := .glo "_law_records") rfl), F__law_records.kp, F__law_records.binds (ps := ["_law_pen_here", "_law_rule", "_law_most", "_law_figures"]) fun _ _ _ _ _ _ us hl => match us, hl with | [_, _, _, _], _ => rfl⟩⟩
  have G__law_fits_all : Cal P w K mg base 2 "_law_fits_all" ["_law_rule", "_law_records_here"] sp_law_fits_all := ⟨⟨_, _, ok_law_fits_all F__law_fits_all T G__law_gcd G__law_count_at, He.glo_ok X G (c.fact 30 (f := .glo "_law_fits_all") rfl), F__law_fits_all.kp, F__law_fits_all.binds (ps := ["_law_rule", "_law_records_here"]) fun _ _ _ _ _ _ us hl => match us, hl with | [_, _], _ => rfl⟩⟩
  have G__law_no_pairs : Cal P w K mg base 9 "_law_no_pairs" ["_law_records_here", "_law_q"] sp_law_no_pairs := ⟨⟨_, _, ok_law_no_pairs F__law_no_pairs T G_count_pairs, He.glo_ok X G (c.fact 31 (f := .glo "_law_no_pairs") rfl), F__law_no_pairs.kp, F__law_no_pairs.binds (ps := ["_law_records_here", "_law_q"]) fun _ _ _ _ _ _ us hl => match us, hl with | [_, _], _ => rfl⟩⟩
  have G__law_more : Cal P w K mg base 4 "_law_more" ["_law_pen_here", "_law_records_here", "_law_rule", "_law_figures"] sp_law_more := ⟨⟨_, _, ok_law_more F__law_more T G__law_draw G__law_integer G__law_pick G__law_count_at, He.glo_ok X G (c.fact 32 (f := .glo "_law_more") rfl), F__law_more.kp, F__law_more.binds (ps := ["_law_pen_here", "_law_records_here", "_law_rule", "_law_figures"]) fun _ _ _ _ _ _ us hl => match us, hl with | [_, _, _, _], _ => rfl⟩⟩
  exact ok_law F_law T G__law_pen G__law_pick G__law_hidden G__law_records G_least_rule G_rates G__law_fits_all G_simplest_between G_least_cycle G__law_no_pairs G__law_natural G__law_more G__law_shuffled
end LF


open PySem PySem.W PySem.Calls PyProof.Rows
theorem PySem.Challenge.cw_leapfit_k59_whole_least_rules_far_holds : PySem.Challenge.rw_leapfit_k59_whole_least_rules_far.Holds := by
  w_on; o_law
  refine HandSHeadRun.head_any (r := OpenLaw.row PySem.Challenge.rw_leapfit_k59_whole_least_rules_far) (q := view (OpenLaw.row PySem.Challenge.rw_leapfit_k59_whole_least_rules_far).prog [52]) (H := LF.hk) (ob := LF.ob) (M := 6000) (loose := LF.names) (d := HandSHeadRun.topDef (OpenLaw.row PySem.Challenge.rw_leapfit_k59_whole_least_rules_far).prog 52) (kwd := []) LF.ob_eq
    (by kernel_rfl) (fun s => by kernel_rfl) LF.run (by kernel_rfl) (by kernel_rfl) (by kernel_rfl) (by rfl) (by first | assumption | decide +kernel) (by decide +kernel) ⟨rfl, rfl, rfl, rfl, rfl, by decide +kernel⟩ ?hw ?hc
  case hw => w_witness2
  case hc =>
    refine L2.walk_ofE (l := PySem.Challenge.rw_leapfit_k59_whole_least_rules_far) (n := 63) (k := 10) (x := "_law_script") (CX := L2.CX0) rfl (by decide) (by kernel_rfl) ⟨rfl, by decide, by decide⟩ ?F (fun _ _ _ _ z => z)
    intro w mg fa h Y G hmg0
    obtain ⟨K, KX, c⟩ := Y
    have hmg : mg ("law" : PySem.Str) = some (.ref fa) := by
      have e : (HandSHeadRun.topDef (OpenLaw.row PySem.Challenge.rw_leapfit_k59_whole_least_rules_far).prog 52).name = ("law" : PySem.Str) := by kernel_rfl
      rw [← e]
      exact hmg0
    obtain ⟨fd, hb, hF⟩ := LF.facts (P := (PySem.Challenge.rw_leapfit_k59_whole_least_rules_far).prog) (w := w) KX G hmg c.t.d c.more
    exact ⟨K, fd, LF.sp_law K, KX, hb, fun H a ns hl _ hS => ⟨a, ns, rfl, hS, fun _ => rfl⟩, hF⟩


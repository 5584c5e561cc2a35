import PyProof.Rows.All
import Wide.All
import OpenK.AllK
import Wide.FinOn
import HandS.ForMost
import HandS.Style
import HandS.TupMul
import HandS.Flow
import HandS.Walk
import KE.KTupSum
import KE.GoesEnum
import HandS.WordsExc
import HandS.Defaults
import HandS.Zip
import PySem.Challenge.RW_wantprices_k98_whole_a_hand_more
import KE.BitLaws
import KE.OsArith
import KE.KStateDown
import Lean
import HandS.Head0
import HandS.Head1
import HandS.Head2
import HandS.HeadEnd
import HandS.HeadHook1
import HandS.HeadHook2
set_option Elab.async false
set_option linter.all false
/-! K98 mathematics, part A: finite sums of functions, the conformal walk, the exchange of two families. -/
namespace K98

def sumN : Nat → (Nat → Int) → Int
  | 0, _ => 0
  | n + 1, f => sumN n f + f n

theorem sumN_congr {n : Nat} {f g : Nat → Int} (h : ∀ i, i < n → f i = g i) : sumN n f = sumN n g := by
  induction n with
  | zero => rfl
  | succ n ih =>
    show sumN n f + f n = sumN n g + g n
    rw [ih (fun i hi => h i (by omega)), h n (by omega)]
theorem sumN_le {n : Nat} {f g : Nat → Int} (h : ∀ i, i < n → f i ≤ g i) : sumN n f ≤ sumN n g := by
  induction n with
  | zero => exact Int.le_refl _
  | succ n ih =>
    show sumN n f + f n ≤ sumN n g + g n
    have h1 := ih (fun i hi => h i (by omega))
    have h2 := h n (by omega)
    omega
theorem sumN_add (n : Nat) (f g : Nat → Int) : sumN n (fun i => f i + g i) = sumN n f + sumN n g := by
  induction n with
  | zero => rfl
  | succ n ih =>
    show sumN n _ + (f n + g n) = (sumN n f + f n) + (sumN n g + g n)
    rw [ih]; omega
theorem sumN_sub (n : Nat) (f g : Nat → Int) : sumN n (fun i => f i - g i) = sumN n f - sumN n g := by
  induction n with
  | zero => rfl
  | succ n ih =>
    show sumN n _ + (f n - g n) = (sumN n f + f n) - (sumN n g + g n)
    rw [ih]; omega
theorem sumN_zero (n : Nat) : sumN n (fun _ => 0) = 0 := by
  induction n with
  | zero => rfl
  | succ n ih => show sumN n _ + 0 = 0; rw [ih]; rfl
theorem sumN_mul (n : Nat) (c : Int) (f : Nat → Int) : sumN n (fun i => c * f i) = c * sumN n f := by
  induction n with
  | zero => show (0 : Int) = c * 0; omega
  | succ n ih =>
    show sumN n _ + c * f n = c * (sumN n f + f n)
    rw [ih, Int.mul_add]
theorem sumN_nonneg {n : Nat} {f : Nat → Int} (h : ∀ i, i < n → 0 ≤ f i) : 0 ≤ sumN n f := by
  have := sumN_le (n := n) (f := fun _ => 0) (g := f) h
  rw [sumN_zero] at this
  exact this
/-- one place told apart -/
theorem sumN_single {n : Nat} {f : Nat → Int} {j : Nat} (hj : j < n) : sumN n (fun i => if i = j then f i else 0) = f j := by
  induction n with
  | zero => omega
  | succ n ih =>
    show sumN n _ + (if n = j then f n else 0) = f j
    by_cases e : n = j
    · subst e
      rw [if_pos rfl]
      have : sumN n (fun i => if i = n then f i else 0) = sumN n (fun _ => 0) := sumN_congr fun i hi => if_neg (by omega)
      rw [this, sumN_zero]; omega
    · rw [if_neg e, ih (by omega)]; omega
theorem sumN_le_one {n : Nat} {f : Nat → Int} {j : Nat} (hj : j < n) (h : ∀ i, i < n → 0 ≤ f i) : f j ≤ sumN n f := by
  have h1 := sumN_le (n := n) (f := fun i => if i = j then f i else 0) (g := f) (fun i hi => by
    by_cases e : i = j
    · rw [if_pos e]; exact Int.le_refl _
    · rw [if_neg e]; exact h i hi)
  rw [sumN_single hj] at h1
  exact h1
theorem sumN_pos {n : Nat} {f : Nat → Int} (h : 0 < sumN n f) : ∃ i, i < n ∧ 0 < f i := by
  induction n with
  | zero => exact absurd h (by show ¬ (0 : Int) < 0; omega)
  | succ n ih =>
    by_cases h1 : 0 < f n
    · exact ⟨n, by omega, h1⟩
    · have h2 : 0 < sumN n f + f n := h
      obtain ⟨i, hi, q⟩ := ih (by omega)
      exact ⟨i, by omega, q⟩
theorem sumN_neg {n : Nat} {f : Nat → Int} (h : sumN n f < 0) : ∃ i, i < n ∧ f i < 0 := by
  have e : sumN n (fun i => 0 - f i) = 0 - sumN n f := by
    rw [sumN_sub n (fun _ => 0) f, sumN_zero]
  obtain ⟨i, hi, q⟩ := sumN_pos (n := n) (f := fun i => 0 - f i) (by rw [e]; omega)
  exact ⟨i, hi, by omega⟩
/-- a sum that is not positive, with a positive item, has a negative one -/
theorem sumN_other {n : Nat} {f : Nat → Int} {j : Nat} (hj : j < n) (hp : 0 < f j) (h : sumN n f ≤ 0) : ∃ i, i < n ∧ f i < 0 := by
  have e : sumN n (fun i => f i - if i = j then f i else 0) = sumN n f - f j := by
    rw [sumN_sub n f (fun i => if i = j then f i else 0), sumN_single hj]
  obtain ⟨i, hi, q⟩ := sumN_neg (n := n) (f := fun i => f i - if i = j then f i else 0) (by rw [e]; omega)
  refine ⟨i, hi, ?_⟩
  by_cases e : i = j
  · rw [if_pos e] at q; omega
  · rw [if_neg e] at q; omega
/-- a function changed at one place -/
theorem sumN_change {n : Nat} {f g : Nat → Int} {j : Nat} (hj : j < n) (h : ∀ i, i < n → i ≠ j → g i = f i) : sumN n g = sumN n f - f j + g j := by
  have e : sumN n g = sumN n (fun i => f i + (if i = j then g i - f i else 0)) := sumN_congr fun i hi => by
    by_cases e : i = j
    · rw [if_pos e]; omega
    · rw [if_neg e, h i hi e]; omega
  rw [e, sumN_add n f (fun i => if i = j then g i - f i else 0), sumN_single (f := fun i => g i - f i) hj]
  omega
theorem sumN_swap (n m : Nat) (f : Nat → Nat → Int) : sumN n (fun i => sumN m (fun t => f i t)) = sumN m (fun t => sumN n (fun i => f i t)) := by
  induction n with
  | zero => exact (sumN_zero m).symm
  | succ n ih =>
    show sumN n (fun i => sumN m (fun t => f i t)) + sumN m (fun t => f n t) = sumN m (fun t => sumN n (fun i => f i t) + f n t)
    rw [ih, sumN_add m (fun t => sumN n (fun i => f i t)) (fun t => f n t)]

/-- 1 where it holds -/
def ind (b : Bool) : Int := if b then 1 else 0
theorem ind_nonneg (b : Bool) : 0 ≤ ind b := by cases b <;> decide
theorem ind_le_one (b : Bool) : ind b ≤ 1 := by cases b <;> decide
theorem ind_true : ind true = 1 := rfl
theorem ind_false : ind false = 0 := rfl

/-! ### the conformal walk -/
abbrev Bt := Nat → Nat → Bool
/-- what the pairs of r sum to at a thing, at a hand -/
def sT (n : Nat) (d : Nat → Nat → Int) (r : Bt) (t : Nat) : Int := sumN n fun i => if r i t then d i t else 0
def sH (m : Nat) (b : Nat → Nat → Int) (r : Bt) (i : Nat) : Int := sumN m fun t => if r i t then b i t else 0
def siz (n m : Nat) (r : Bt) : Int := sumN n fun i => sumN m fun t => ind (r i t)
/-- r without, z with, the pair (i, t) -/
def rm (r : Bt) (i t : Nat) : Bt := fun i' t' => if i' = i ∧ t' = t then false else r i' t'
def ad (z : Bt) (i t : Nat) : Bt := fun i' t' => if i' = i ∧ t' = t then true else z i' t'
theorem rm_at (r : Bt) (i t : Nat) : rm r i t i t = false := if_pos ⟨rfl, rfl⟩
theorem ad_at (r : Bt) (i t : Nat) : ad r i t i t = true := if_pos ⟨rfl, rfl⟩
theorem rm_ne {r : Bt} {i t i' t' : Nat} (h : ¬ (i' = i ∧ t' = t)) : rm r i t i' t' = r i' t' := if_neg h
theorem ad_ne {r : Bt} {i t i' t' : Nat} (h : ¬ (i' = i ∧ t' = t)) : ad r i t i' t' = r i' t' := if_neg h
section
variable {n m : Nat} {d b : Nat → Nat → Int} {r z : Bt} {i t : Nat}
theorem sT_rm (hi : i < n) (hr : r i t = true) (t' : Nat) : sT n d (rm r i t) t' = sT n d r t' - if t' = t then d i t else 0 := by
  unfold sT
  by_cases e : t' = t
  · subst e
    rw [if_pos rfl, sumN_change (f := fun i => if r i t' then d i t' else 0) hi (fun i' _ hne => by
      show (if rm r i t' i' t' then d i' t' else 0) = _
      rw [rm_ne (fun q => hne q.1)])]
    show _ - (if r i t' then d i t' else 0) + (if rm r i t' i t' then d i t' else 0) = _
    rw [rm_at, hr, if_pos rfl, if_neg Bool.false_ne_true]; omega
  · rw [if_neg e]
    have : sumN n (fun i' => if rm r i t i' t' then d i' t' else 0) = sumN n (fun i' => if r i' t' then d i' t' else 0) := sumN_congr fun i' _ => by rw [rm_ne (fun q => e q.2)]
    rw [this]; omega
theorem sH_rm (ht : t < m) (hr : r i t = true) (i' : Nat) : sH m b (rm r i t) i' = sH m b r i' - if i' = i then b i t else 0 := by
  unfold sH
  by_cases e : i' = i
  · subst e
    rw [if_pos rfl, sumN_change (f := fun t => if r i' t then b i' t else 0) ht (fun t' _ hne => by
      show (if rm r i' t i' t' then b i' t' else 0) = _
      rw [rm_ne (fun q => hne q.2)])]
    show _ - (if r i' t then b i' t else 0) + (if rm r i' t i' t then b i' t else 0) = _
    rw [rm_at, hr, if_pos rfl, if_neg Bool.false_ne_true]; omega
  · rw [if_neg e]
    have : sumN m (fun t' => if rm r i t i' t' then b i' t' else 0) = sumN m (fun t' => if r i' t' then b i' t' else 0) := sumN_congr fun t' _ => by rw [rm_ne (fun q => e q.1)]
    rw [this]; omega
theorem sT_ad (hi : i < n) (hz : z i t = false) (t' : Nat) : sT n d (ad z i t) t' = sT n d z t' + if t' = t then d i t else 0 := by
  unfold sT
  by_cases e : t' = t
  · subst e
    rw [if_pos rfl, sumN_change (f := fun i => if z i t' then d i t' else 0) hi (fun i' _ hne => by
      show (if ad z i t' i' t' then d i' t' else 0) = _
      rw [ad_ne (fun q => hne q.1)])]
    show _ - (if z i t' then d i t' else 0) + (if ad z i t' i t' then d i t' else 0) = _
    rw [ad_at, hz, if_pos rfl, if_neg Bool.false_ne_true]; omega
  · rw [if_neg e]
    have : sumN n (fun i' => if ad z i t i' t' then d i' t' else 0) = sumN n (fun i' => if z i' t' then d i' t' else 0) := sumN_congr fun i' _ => by rw [ad_ne (fun q => e q.2)]
    rw [this]; omega
theorem sH_ad (ht : t < m) (hz : z i t = false) (i' : Nat) : sH m b (ad z i t) i' = sH m b z i' + if i' = i then b i t else 0 := by
  unfold sH
  by_cases e : i' = i
  · subst e
    rw [if_pos rfl, sumN_change (f := fun t => if z i' t then b i' t else 0) ht (fun t' _ hne => by
      show (if ad z i' t i' t' then b i' t' else 0) = _
      rw [ad_ne (fun q => hne q.2)])]
    show _ - (if z i' t then b i' t else 0) + (if ad z i' t i' t then b i' t else 0) = _
    rw [ad_at, hz, if_pos rfl, if_neg Bool.false_ne_true]; omega
  · rw [if_neg e]
    have : sumN m (fun t' => if ad z i t i' t' then b i' t' else 0) = sumN m (fun t' => if z i' t' then b i' t' else 0) := sumN_congr fun t' _ => by rw [ad_ne (fun q => e q.1)]
    rw [this]; omega
theorem siz_rm (hi : i < n) (ht : t < m) (hr : r i t = true) : siz n m (rm r i t) = siz n m r - 1 := by
  unfold siz
  rw [sumN_change (f := fun i => sumN m fun t => ind (r i t)) hi (fun i' _ hne => sumN_congr fun t' _ => by rw [rm_ne (fun q => hne q.1)])]
  show _ - sumN m (fun t => ind (r i t)) + sumN m (fun t' => ind (rm r i t i t')) = _
  have e := sumN_change (f := fun t => ind (r i t)) (g := fun t' => ind (rm r i t i t')) ht (fun t' _ hne => by
    show ind (rm r i t i t') = ind (r i t')
    rw [rm_ne (fun q => hne q.2)])
  rw [e]
  show _ - sumN m (fun t => ind (r i t)) + (sumN m (fun t => ind (r i t)) - ind (r i t) + ind (rm r i t i t)) = _
  rw [rm_at, hr, ind_true, ind_false]; omega
end
def emp : Bt := fun _ _ => false
theorem sT_emp (n : Nat) (d : Nat → Nat → Int) (t : Nat) : sT n d emp t = 0 := by
  unfold sT emp
  rw [show (fun i => if false = true then d i t else (0 : Int)) = fun _ => 0 from funext fun _ => if_neg Bool.false_ne_true, sumN_zero]
theorem sH_emp (m : Nat) (b : Nat → Nat → Int) (i : Nat) : sH m b emp i = 0 := by
  unfold sH emp
  rw [show (fun t => if false = true then b i t else (0 : Int)) = fun _ => 0 from funext fun _ => if_neg Bool.false_ne_true, sumN_zero]
theorem siz_nonneg (n m : Nat) (r : Bt) : 0 ≤ siz n m r := sumN_nonneg fun i _ => sumN_nonneg fun t _ => ind_nonneg _

/-- the walk: from a thing with too much, over pairs of r, to where it may end -/
theorem walk {n m : Nat} {d b : Nat → Nat → Int} (term : Nat → Prop)
    (hd : ∀ i t, i < n → t < m → -1 ≤ d i t ∧ d i t ≤ 1) (hb : ∀ i t, i < n → t < m → -1 ≤ b i t ∧ b i t ≤ 1)
    (h1 : ∀ i t, i < n → t < m → d i t = 1 → 0 ≤ b i t) (h2 : ∀ i t, i < n → t < m → d i t = -1 → b i t ≤ 0) :
    ∀ (N : Nat) (r : Bt) (i0 : Nat), siz n m r ≤ N → i0 < m → ¬ term i0 → (∀ t, t < m → ¬ term t → 0 ≤ sT n d r t) → 1 ≤ sT n d r i0 →
      ∃ z : Bt, (∀ i t, z i t = true → r i t = true) ∧
        ((((∀ t, t < m → sT n d z t = if t = i0 then 1 else 0) ∧ ((∀ i, i < n → sH m b z i = 0) ∨ ∃ h0, h0 < n ∧ 1 ≤ sH m b r h0 ∧ ∀ i, i < n → sH m b z i = if i = h0 then 1 else 0)) ∨
          (∃ j, j < m ∧ term j ∧ (∀ t, t < m → sT n d z t = (if t = i0 then 1 else 0) - if t = j then 1 else 0) ∧ ∀ i, i < n → sH m b z i = 0))) := by
  intro N
  induction N with
  | zero =>
    intro r i0 hs hi0 _ _ hp
    obtain ⟨i, hi, q⟩ := sumN_pos (n := n) (f := fun i => if r i i0 then d i i0 else 0) (by show 0 < sT n d r i0; omega)
    have hr : r i i0 = true := by
      cases e : r i i0 with
      | true => rfl
      | false => simp [e] at q
    have := siz_rm hi hi0 hr
    have := siz_nonneg n m (rm r i i0)
    have : siz n m r ≤ 0 := hs
    omega
  | succ N ih =>
    intro r i0 hs hi0 hnt hT hp
    obtain ⟨i, hi, q⟩ := sumN_pos (n := n) (f := fun i => if r i i0 then d i i0 else 0) (by show 0 < sT n d r i0; omega)
    have hr : r i i0 = true := by
      cases e : r i i0 with
      | true => rfl
      | false => simp [e] at q
    have hdi : d i i0 = 1 := by
      have := hd i i0 hi hi0
      rw [hr, if_pos rfl] at q
      omega
    have hbi := h1 i i0 hi hi0 hdi
    have hbi' := hb i i0 hi hi0
    -- the pair alone
    have z1 : ∀ t, sT n d (ad emp i i0) t = if t = i0 then 1 else 0 := fun t => by
      rw [sT_ad hi rfl, sT_emp]
      split <;> omega
    have z1h : ∀ i', sH m b (ad emp i i0) i' = if i' = i then b i i0 else 0 := fun i' => by
      rw [sH_ad hi0 rfl, sH_emp]
      split <;> omega
    have z1r : ∀ i' t', ad emp i i0 i' t' = true → r i' t' = true := fun i' t' e => by
      by_cases c : i' = i ∧ t' = i0
      · rw [c.1, c.2]; exact hr
      · rw [ad_ne c] at e
        exact absurd e Bool.false_ne_true
    by_cases hb0 : b i i0 = 0
    · refine ⟨ad emp i i0, z1r, .inl ⟨fun t _ => z1 t, .inl fun i' _ => ?_⟩⟩
      rw [z1h, hb0]; split <;> rfl
    · have hb1 : b i i0 = 1 := by omega
      by_cases hS : 1 ≤ sH m b r i
      · refine ⟨ad emp i i0, z1r, .inl ⟨fun t _ => z1 t, .inr ⟨i, hi, hS, fun i' _ => ?_⟩⟩⟩
        rw [z1h, hb1]
      · obtain ⟨t2, ht2, q2⟩ := sumN_other (n := m) (f := fun t => if r i t then b i t else 0) (j := i0) hi0 (by show 0 < if r i i0 then b i i0 else 0; rw [hr, if_pos rfl, hb1]; decide) (by show sH m b r i ≤ 0; omega)
        have hr2 : r i t2 = true := by
          cases e : r i t2 with
          | true => rfl
          | false => simp [e] at q2
        have hb2 : b i t2 = -1 := by
          have := hb i t2 hi ht2
          rw [hr2, if_pos rfl] at q2
          omega
        have ne2 : t2 ≠ i0 := fun e => by rw [e, hb1] at hb2; omega
        have hd2 := hd i t2 hi ht2
        have hd2' : d i t2 ≠ 1 := fun e => by
          have := h1 i t2 hi ht2 e
          omega
        have hr2' : rm r i i0 i t2 = true := by
          rw [rm_ne (fun q => ne2 q.2)]; exact hr2
        have e2 : (ad emp i i0) i t2 = false := by
          rw [ad_ne (fun q => ne2 q.2)]; rfl
        -- both pairs
        have y1 : ∀ t, sT n d (ad (ad emp i i0) i t2) t = (if t = i0 then 1 else 0) + if t = t2 then d i t2 else 0 := fun t => by
          rw [sT_ad hi e2, z1]
        have y1h : ∀ i', sH m b (ad (ad emp i i0) i t2) i' = 0 := fun i' => by
          rw [sH_ad ht2 e2, z1h, hb1, hb2]
          split <;> omega
        have y1r : ∀ i' t', ad (ad emp i i0) i t2 i' t' = true → r i' t' = true := fun i' t' e => by
          by_cases c : i' = i ∧ t' = t2
          · rw [c.1, c.2]; exact hr2
          · rw [ad_ne c] at e
            exact z1r i' t' e
        by_cases hd0 : d i t2 = 0
        · refine ⟨_, y1r, .inl ⟨fun t _ => ?_, .inl fun i' _ => y1h i'⟩⟩
          rw [y1, hd0]; split <;> split <;> omega
        · have hdm : d i t2 = -1 := by omega
          by_cases hterm : term t2
          · refine ⟨_, y1r, .inr ⟨t2, ht2, hterm, fun t _ => ?_, fun i' _ => y1h i'⟩⟩
            rw [y1, hdm]; split <;> split <;> omega
          · -- go on from t2, the two pairs taken out
            have r1 : ∀ t, sT n d (rm (rm r i i0) i t2) t = sT n d r t - (if t = i0 then 1 else 0) + if t = t2 then 1 else 0 := fun t => by
              rw [sT_rm hi hr2', sT_rm hi hr, hdi, hdm]
              split <;> split <;> omega
            have r1h : ∀ i', sH m b (rm (rm r i i0) i t2) i' = sH m b r i' := fun i' => by
              rw [sH_rm ht2 hr2', sH_rm hi0 hr, hb1, hb2]
              split <;> omega
            have hsz : siz n m (rm (rm r i i0) i t2) ≤ N := by
              rw [siz_rm hi ht2 hr2', siz_rm hi hi0 hr]
              have : siz n m r ≤ ((N + 1 : Nat) : Int) := hs
              omega
            obtain ⟨z, zr, zz⟩ := ih (rm (rm r i i0) i t2) t2 hsz ht2 hterm
              (fun t ht hnt' => by
                rw [r1]
                have := hT t ht hnt'
                by_cases e : t = i0
                · subst e
                  rw [if_pos rfl]
                  split <;> omega
                · rw [if_neg e]
                  split <;> omega)
              (by
                rw [r1, if_neg ne2, if_pos rfl]
                have := hT t2 ht2 hterm
                omega)
            have ez2 : z i t2 = false := by
              cases e : z i t2 with
              | false => rfl
              | true =>
                have := zr i t2 e
                rw [rm_at] at this
                exact absurd this Bool.false_ne_true
            have ez0 : (ad z i t2) i i0 = false := by
              rw [ad_ne (fun q => ne2 q.2.symm)]
              cases e : z i i0 with
              | false => rfl
              | true =>
                have := zr i i0 e
                rw [rm_ne (fun q => ne2 q.2.symm), rm_at] at this
                exact absurd this Bool.false_ne_true
            have w1 : ∀ t, sT n d (ad (ad z i t2) i i0) t = sT n d z t + (if t = t2 then -1 else 0) + if t = i0 then 1 else 0 := fun t => by
              rw [sT_ad hi ez0, sT_ad hi ez2, hdi, hdm]
            have w1h : ∀ i', sH m b (ad (ad z i t2) i i0) i' = sH m b z i' := fun i' => by
              rw [sH_ad hi0 ez0, sH_ad ht2 ez2, hb1, hb2]
              split <;> omega
            refine ⟨ad (ad z i t2) i i0, fun i' t' e => ?_, ?_⟩
            · by_cases c : i' = i ∧ t' = i0
              · rw [c.1, c.2]; exact hr
              · rw [ad_ne c] at e
                by_cases c2 : i' = i ∧ t' = t2
                · rw [c2.1, c2.2]; exact hr2
                · rw [ad_ne c2] at e
                  have := zr i' t' e
                  rw [rm_ne c2, rm_ne c] at this
                  exact this
            · rcases zz with ⟨zt, zh⟩ | ⟨j, hj, tj, zt, zh⟩
              · refine .inl ⟨fun t ht => ?_, ?_⟩
                · rw [w1, zt t ht]
                  split <;> split <;> omega
                · rcases zh with zh | ⟨h0, hh0, ge, zh⟩
                  · exact .inl fun i' hi' => by rw [w1h]; exact zh i' hi'
                  · refine .inr ⟨h0, hh0, ?_, fun i' hi' => by rw [w1h]; exact zh i' hi'⟩
                    rw [r1h] at ge
                    exact ge
              · refine .inr ⟨j, hj, tj, fun t ht => ?_, fun i' hi' => by rw [w1h]; exact zh i' hi'⟩
                rw [w1, zt t ht]
                by_cases e1 : t = t2 <;> by_cases e2 : t = i0 <;> by_cases e3 : t = j <;> simp [e1, e2, e3] <;> omega
end K98
set_option Elab.async false
set_option linter.all false
/-! K98 mathematics, part B: wants of the form a(S) + the k best bonuses; the exchange of two families; the greatest sum W over supplies. -/
namespace K98

theorem skol {β : Type} [Inhabited β] {n : Nat} {P : Nat → β → Prop} (h : ∀ i, i < n → ∃ b, P i b) : ∃ f : Nat → β, ∀ i, i < n → P i (f i) := by
  classical
  refine ⟨fun i => if q : i < n then Classical.choose (h i q) else default, fun i hi => ?_⟩
  show P i (if q : i < n then Classical.choose (h i q) else default)
  rw [dif_pos hi]
  exact Classical.choose_spec (h i hi)

abbrev St1 := Nat → Bool
def valSB (m : Nat) (a c : Nat → Int) (S B : St1) : Int := sumN m fun t => (if S t then a t else 0) + (if B t then c t else 0)
def cnt (m : Nat) (B : St1) : Int := sumN m fun t => ind (B t)
def Sub (m : Nat) (B S : St1) : Prop := ∀ t, t < m → B t = true → S t = true
/-- a want of sets of m things: each thing's own worth, and the k best bonuses -/
structure Rep (m : Nat) (V : St1 → Int) (a c : Nat → Int) (k : Int) : Prop where
  a0 : ∀ t, t < m → 0 ≤ a t
  c0 : ∀ t, t < m → 0 ≤ c t
  k0 : 0 ≤ k
  up : ∀ S, ∃ B, Sub m B S ∧ cnt m B ≤ k ∧ V S ≤ valSB m a c S B
  lo : ∀ S B, Sub m B S → cnt m B ≤ k → valSB m a c S B ≤ V S
theorem Rep.mono {m : Nat} {V : St1 → Int} {a c : Nat → Int} {k : Int} (R : Rep m V a c k) {S T : St1} (h : Sub m S T) : V S ≤ V T := by
  obtain ⟨B, hB, hc, hv⟩ := R.up S
  refine Int.le_trans hv (Int.le_trans ?_ (R.lo T B (fun t ht q => h t ht (hB t ht q)) hc))
  refine sumN_le fun t ht => ?_
  have := R.a0 t ht
  cases e : S t with
  | false => cases T t <;> simp <;> omega
  | true => rw [h t ht e]; exact Int.le_refl _
theorem Rep.congr {m : Nat} {V : St1 → Int} {a c : Nat → Int} {k : Int} (R : Rep m V a c k) {S T : St1} (h : ∀ t, t < m → S t = T t) : V S = V T :=
  Int.le_antisymm (R.mono fun t ht q => by rw [← h t ht]; exact q) (R.mono fun t ht q => by rw [h t ht]; exact q)
theorem Rep.empty {m : Nat} {V : St1 → Int} {a c : Nat → Int} {k : Int} (R : Rep m V a c k) : V (fun _ => false) = 0 := by
  have e : ∀ B : St1, Sub m B (fun _ => false) → valSB m a c (fun _ => false) B = 0 := fun B hB => by
    unfold valSB
    refine Eq.trans (sumN_congr (g := fun _ => 0) fun t ht => ?_) (sumN_zero m)
    cases q : B t with
    | false => rfl
    | true => exact absurd (hB t ht q) Bool.false_ne_true
  obtain ⟨B, hB, _, hv⟩ := R.up fun _ => false
  rw [e B hB] at hv
  have h2 := R.lo (fun _ => false) (fun _ => false) (fun _ _ q => q) (by
    show sumN m (fun _ => 0) ≤ k
    rw [sumN_zero]; exact R.k0)
  rw [e _ (fun _ _ q => q)] at h2
  omega

def cntT (n : Nat) (S : Bt) (t : Nat) : Int := sumN n fun i => ind (S i t)
def tot (n : Nat) (V : Nat → St1 → Int) (S : Bt) : Int := sumN n fun i => V i (S i)
/-- what each side has behind a swap of the pairs z -/
def swp (z S T : Bt) : Bt := fun i t => if z i t then T i t else S i t

theorem cntT_swp (n : Nat) (z S T : Bt) (t : Nat) : cntT n (swp z S T) t = cntT n S t - sT n (fun i t => ind (S i t) - ind (T i t)) z t := by
  unfold cntT sT
  rw [← sumN_sub]
  refine sumN_congr fun i _ => ?_
  show ind (if z i t then T i t else S i t) = ind (S i t) - if z i t then ind (S i t) - ind (T i t) else 0
  cases z i t
  · show ind (S i t) = ind (S i t) - 0
    omega
  · show ind (T i t) = ind (S i t) - (ind (S i t) - ind (T i t))
    omega
theorem cntT_swp' (n : Nat) (z S T : Bt) (t : Nat) : cntT n (swp z T S) t = cntT n T t + sT n (fun i t => ind (S i t) - ind (T i t)) z t := by
  unfold cntT sT
  rw [← sumN_add]
  refine sumN_congr fun i _ => ?_
  show ind (if z i t then S i t else T i t) = ind (T i t) + if z i t then ind (S i t) - ind (T i t) else 0
  cases z i t
  · show ind (T i t) = ind (T i t) + 0
    omega
  · show ind (S i t) = ind (T i t) + (ind (S i t) - ind (T i t))
    omega
theorem cnt_swp (m : Nat) (z S T : Bt) (i : Nat) : cnt m (swp z S T i) = cnt m (S i) - sH m (fun i t => ind (S i t) - ind (T i t)) z i := by
  unfold cnt sH
  rw [← sumN_sub]
  refine sumN_congr fun t _ => ?_
  show ind (if z i t then T i t else S i t) = ind (S i t) - if z i t then ind (S i t) - ind (T i t) else 0
  cases z i t
  · show ind (S i t) = ind (S i t) - 0
    omega
  · show ind (T i t) = ind (S i t) - (ind (S i t) - ind (T i t))
    omega
theorem cnt_swp' (m : Nat) (z S T : Bt) (i : Nat) : cnt m (swp z T S i) = cnt m (T i) + sH m (fun i t => ind (S i t) - ind (T i t)) z i := by
  unfold cnt sH
  rw [← sumN_add]
  refine sumN_congr fun t _ => ?_
  show ind (if z i t then S i t else T i t) = ind (T i t) + if z i t then ind (S i t) - ind (T i t) else 0
  cases z i t
  · show ind (T i t) = ind (T i t) + 0
    omega
  · show ind (S i t) = ind (T i t) + (ind (S i t) - ind (T i t))
    omega
def full : Bt := fun _ _ => true
theorem sT_full (n : Nat) (d : Nat → Nat → Int) (t : Nat) : sT n d full t = sumN n fun i => d i t := rfl
theorem sH_full (m : Nat) (b : Nat → Nat → Int) (i : Nat) : sH m b full i = sumN m fun t => b i t := rfl
theorem sub_swp {m : Nat} {z S T B C : Bt} {i : Nat} (h1 : Sub m (B i) (S i)) (h2 : Sub m (C i) (T i)) : Sub m (swp z B C i) (swp z S T i) := fun t ht q => by
  have q' : (if z i t then C i t else B i t) = true := q
  show (if z i t then T i t else S i t) = true
  cases e : z i t with
  | false => rw [e] at q'; exact h1 t ht q'
  | true => rw [e] at q'; exact h2 t ht q'
theorem val_swp (m : Nat) (a c : Nat → Int) (z S T B C : Bt) (i : Nat) :
    valSB m a c (swp z S T i) (swp z B C i) + valSB m a c (swp z T S i) (swp z C B i) = valSB m a c (S i) (B i) + valSB m a c (T i) (C i) := by
  unfold valSB
  rw [← sumN_add, ← sumN_add]
  refine sumN_congr fun t _ => ?_
  unfold swp
  cases z i t
  · rfl
  · show ((if T i t then a t else 0) + (if C i t then c t else 0)) + ((if S i t then a t else 0) + (if B i t then c t else 0)) = ((if S i t then a t else 0) + (if B i t then c t else 0)) + ((if T i t then a t else 0) + (if C i t then c t else 0))
    omega

section
variable {n m : Nat} {V : Nat → St1 → Int} {a c : Nat → Nat → Int} {k : Nat → Int}
abbrev Reps (n m : Nat) (V : Nat → St1 → Int) (a c : Nat → Nat → Int) (k : Nat → Int) : Prop := ∀ i, i < n → Rep m (V i) (a i) (c i) (k i)
/-- 1 at j -/
def e1 (j t : Nat) : Int := if t = j then 1 else 0

theorem exch (R : Reps n m V a c k) {x y : Nat → Int} {S T : Bt} (hS : ∀ t, t < m → cntT n S t ≤ x t) (hT : ∀ t, t < m → cntT n T t ≤ y t) {i0 : Nat} (hi0 : i0 < m) (hxy : y i0 < x i0) :
    ∃ S' T' : Bt, tot n V S + tot n V T ≤ tot n V S' + tot n V T' ∧
      (((∀ t, t < m → cntT n S' t ≤ x t - e1 i0 t) ∧ (∀ t, t < m → cntT n T' t ≤ y t + e1 i0 t)) ∨
       (∃ j, j < m ∧ x j < y j ∧ (∀ t, t < m → cntT n S' t ≤ x t - e1 i0 t + e1 j t) ∧ (∀ t, t < m → cntT n T' t ≤ y t + e1 i0 t - e1 j t))) := by
  by_cases hsl : cntT n S i0 < x i0
  · refine ⟨S, T, Int.le_refl _, .inl ⟨fun t ht => ?_, fun t ht => ?_⟩⟩
    · unfold e1
      have := hS t ht
      split
      · rename_i e; subst e; omega
      · omega
    · unfold e1
      have := hT t ht
      split <;> omega
  · obtain ⟨B, hB⟩ := skol (P := fun i (B : St1) => Sub m B (S i) ∧ cnt m B ≤ k i ∧ V i (S i) ≤ valSB m (a i) (c i) (S i) B) fun i hi => (R i hi).up (S i)
    obtain ⟨C, hC⟩ := skol (P := fun i (B : St1) => Sub m B (T i) ∧ cnt m B ≤ k i ∧ V i (T i) ≤ valSB m (a i) (c i) (T i) B) fun i hi => (R i hi).up (T i)
    have hd : ∀ i t, i < n → t < m → -1 ≤ ind (S i t) - ind (T i t) ∧ ind (S i t) - ind (T i t) ≤ 1 := fun i t _ _ => by
      have := ind_nonneg (S i t); have := ind_nonneg (T i t); have := ind_le_one (S i t); have := ind_le_one (T i t)
      omega
    have hb : ∀ i t, i < n → t < m → -1 ≤ ind (B i t) - ind (C i t) ∧ ind (B i t) - ind (C i t) ≤ 1 := fun i t _ _ => by
      have := ind_nonneg (B i t); have := ind_nonneg (C i t); have := ind_le_one (B i t); have := ind_le_one (C i t)
      omega
    have h1 : ∀ i t, i < n → t < m → ind (S i t) - ind (T i t) = 1 → 0 ≤ ind (B i t) - ind (C i t) := fun i t hi ht e => by
      have hc : C i t = false := by
        cases q : C i t with
        | false => rfl
        | true =>
          rw [(hC i hi).1 t ht q] at e
          have := ind_le_one (S i t)
          rw [ind_true] at e
          omega
      rw [hc, ind_false]
      have := ind_nonneg (B i t)
      omega
    have h2 : ∀ i t, i < n → t < m → ind (S i t) - ind (T i t) = -1 → ind (B i t) - ind (C i t) ≤ 0 := fun i t hi ht e => by
      have hc : B i t = false := by
        cases q : B i t with
        | false => rfl
        | true =>
          rw [(hB i hi).1 t ht q] at e
          have := ind_le_one (T i t)
          rw [ind_true] at e
          omega
      rw [hc, ind_false]
      have := ind_nonneg (C i t)
      omega
    have sf : ∀ t, sT n (fun i t => ind (S i t) - ind (T i t)) full t = cntT n S t - cntT n T t := fun t => by
      rw [sT_full, sumN_sub]; rfl
    have sfH : ∀ i, sH m (fun i t => ind (B i t) - ind (C i t)) full i = cnt m (B i) - cnt m (C i) := fun i => by
      rw [sH_full, sumN_sub]; rfl
    obtain ⟨z, _, hz⟩ := walk (n := n) (m := m) (d := fun i t => ind (S i t) - ind (T i t)) (b := fun i t => ind (B i t) - ind (C i t))
      (fun t => x t < y t ∨ cntT n S t < x t) hd hb h1 h2 (siz n m full).toNat full i0 (by
        have := siz_nonneg n m full
        omega) hi0 (fun q => by omega)
      (fun t ht q => by
        rw [sf]
        have := hS t ht; have := hT t ht
        omega)
      (by
        rw [sf]
        have := hS i0 hi0; have := hT i0 hi0
        omega)
    have hcap : ∀ i, i < n → cnt m (swp z B C i) ≤ k i ∧ cnt m (swp z C B i) ≤ k i := fun i hi => by
      rw [cnt_swp, cnt_swp']
      have q1 := (hB i hi).2.1
      have q2 := (hC i hi).2.1
      rcases hz with ⟨_, zh | ⟨h0, hh0, ge, zh⟩⟩ | ⟨j, _, _, _, zh⟩
      · rw [zh i hi]; omega
      · rw [zh i hi]
        rw [sfH] at ge
        split
        · rename_i e; subst e; omega
        · omega
      · rw [zh i hi]; omega
    have hval : tot n V S + tot n V T ≤ tot n V (swp z S T) + tot n V (swp z T S) := by
      unfold tot
      rw [← sumN_add, ← sumN_add]
      refine sumN_le fun i hi => ?_
      have l1 := (R i hi).lo (swp z S T i) (swp z B C i) (sub_swp (hB i hi).1 (hC i hi).1) (hcap i hi).1
      have l2 := (R i hi).lo (swp z T S i) (swp z C B i) (sub_swp (hC i hi).1 (hB i hi).1) (hcap i hi).2
      have e := val_swp m (a i) (c i) z S T B C i
      have u1 := (hB i hi).2.2
      have u2 := (hC i hi).2.2
      omega
    refine ⟨swp z S T, swp z T S, hval, ?_⟩
    rcases hz with ⟨zt, _⟩ | ⟨j, hj, tj, zt, _⟩
    · refine .inl ⟨fun t ht => ?_, fun t ht => ?_⟩
      · rw [cntT_swp, zt t ht]
        have := hS t ht
        unfold e1; omega
      · rw [cntT_swp', zt t ht]
        have := hT t ht
        unfold e1; omega
    · by_cases hxj : x j < y j
      · refine .inr ⟨j, hj, hxj, fun t ht => ?_, fun t ht => ?_⟩
        · rw [cntT_swp, zt t ht]
          have := hS t ht
          unfold e1; omega
        · rw [cntT_swp', zt t ht]
          have := hT t ht
          unfold e1; omega
      · have hlt : cntT n S j < x j := by
          rcases tj with q | q
          · exact absurd q hxj
          · exact q
        refine .inl ⟨fun t ht => ?_, fun t ht => ?_⟩
        · rw [cntT_swp, zt t ht]
          have := hS t ht
          unfold e1
          by_cases e : t = j
          · subst e
            rw [if_pos rfl]
            omega
          · rw [if_neg e]; omega
        · rw [cntT_swp', zt t ht]
          have := hT t ht
          unfold e1
          split <;> split <;> omega
end
end K98
set_option Elab.async false
set_option linter.all false
/-! K98 mathematics, part C: W over supplies, its exchange, prices that meet. -/
namespace K98

theorem max_ex {P : Int → Prop} {b v : Int} (hv : P v) (hb : ∀ u, P u → u ≤ b) : ∃ w, P w ∧ ∀ u, P u → u ≤ w := by
  have : ∀ (N : Nat) (v : Int), P v → b - v ≤ N → ∃ w, P w ∧ ∀ u, P u → u ≤ w := by
    intro N
    induction N with
    | zero =>
      intro v hv h
      exact ⟨v, hv, fun u hu => by have := hb u hu; omega⟩
    | succ N ih =>
      intro v hv h
      by_cases q : ∃ u, P u ∧ v < u
      · obtain ⟨u, hu, hlt⟩ := q
        exact ih u hu (by omega)
      · refine ⟨v, hv, fun u hu => ?_⟩
        by_cases r : v < u
        · exact absurd ⟨u, hu, r⟩ q
        · omega
  exact this (b - v).toNat v hv (by omega)

def feas (n m : Nat) (S : Bt) (x : Nat → Int) : Prop := ∀ t, t < m → cntT n S t ≤ x t
def IsW (n m : Nat) (V : Nat → St1 → Int) (x : Nat → Int) (w : Int) : Prop := (∃ S, feas n m S x ∧ tot n V S = w) ∧ ∀ S, feas n m S x → tot n V S ≤ w
open Classical in
noncomputable def W (n m : Nat) (V : Nat → St1 → Int) (x : Nat → Int) : Int := if h : ∃ w, IsW n m V x w then Classical.choose h else 0

theorem e1_same (j : Nat) : e1 j j = 1 := if_pos rfl
theorem e1_ne {j t : Nat} (h : t ≠ j) : e1 j t = 0 := if_neg h
theorem e1_nonneg (j t : Nat) : 0 ≤ e1 j t := by unfold e1; split <;> decide

section
variable {n m : Nat} {V : Nat → St1 → Int} {a c : Nat → Nat → Int} {k : Nat → Int}
theorem W_spec (R : Reps n m V a c k) {x : Nat → Int} (hx : ∀ t, t < m → 0 ≤ x t) : IsW n m V x (W n m V x) := by
  have ex : ∃ w, IsW n m V x w := by
    obtain ⟨w, ⟨S, hS, e⟩, hw⟩ := max_ex (P := fun v => ∃ S, feas n m S x ∧ tot n V S = v) (b := sumN n fun i => V i fun _ => true) (v := tot n V fun _ _ => false)
      ⟨_, fun t ht => by
        show sumN n (fun _ => 0) ≤ _
        rw [sumN_zero]; exact hx t ht, rfl⟩
      (by
        rintro u ⟨S, _, rfl⟩
        exact sumN_le fun i hi => (R i hi).mono fun _ _ _ => rfl)
    exact ⟨w, ⟨S, hS, e⟩, fun S hS => hw _ ⟨S, hS, rfl⟩⟩
  unfold W
  rw [dif_pos ex]
  exact Classical.choose_spec ex
theorem W_ge (R : Reps n m V a c k) {x : Nat → Int} {S : Bt} (h : feas n m S x) : tot n V S ≤ W n m V x :=
  (W_spec R fun t ht => Int.le_trans (sumN_nonneg fun i _ => ind_nonneg _) (h t ht)).2 S h
theorem W_att (R : Reps n m V a c k) {x : Nat → Int} (hx : ∀ t, t < m → 0 ≤ x t) : ∃ S, feas n m S x ∧ tot n V S = W n m V x := (W_spec R hx).1
theorem W_mono (R : Reps n m V a c k) {x y : Nat → Int} (hx : ∀ t, t < m → 0 ≤ x t) (h : ∀ t, t < m → x t ≤ y t) : W n m V x ≤ W n m V y := by
  obtain ⟨S, hS, e⟩ := W_att R hx
  rw [← e]
  exact W_ge R fun t ht => Int.le_trans (hS t ht) (h t ht)
theorem W_congr (R : Reps n m V a c k) {x y : Nat → Int} (hx : ∀ t, t < m → 0 ≤ x t) (h : ∀ t, t < m → x t = y t) : W n m V x = W n m V y :=
  Int.le_antisymm (W_mono R hx fun t ht => by rw [h t ht]; exact Int.le_refl _) (W_mono R (fun t ht => by rw [← h t ht]; exact hx t ht) fun t ht => by rw [h t ht]; exact Int.le_refl _)
theorem W_nonneg (R : Reps n m V a c k) {x : Nat → Int} (hx : ∀ t, t < m → 0 ≤ x t) : 0 ≤ W n m V x := by
  have h : tot n V (fun _ _ => false) = 0 := by
    show sumN n (fun i => V i fun _ => false) = 0
    exact Eq.trans (sumN_congr (g := fun _ => 0) fun i hi => (R i hi).empty) (sumN_zero n)
  rw [← h]
  exact W_ge R fun t ht => by
    show sumN n (fun _ => 0) ≤ _
    rw [sumN_zero]; exact hx t ht

/-- the exchange of two supplies -/
theorem W_exch (R : Reps n m V a c k) {x y : Nat → Int} (hx : ∀ t, t < m → 0 ≤ x t) (hy : ∀ t, t < m → 0 ≤ y t) {i : Nat} (hi : i < m) (h : y i < x i) :
    W n m V x + W n m V y ≤ W n m V (fun t => x t - e1 i t) + W n m V (fun t => y t + e1 i t) ∨
    ∃ j, j < m ∧ x j < y j ∧ W n m V x + W n m V y ≤ W n m V (fun t => x t - e1 i t + e1 j t) + W n m V (fun t => y t + e1 i t - e1 j t) := by
  obtain ⟨S, hS, eS⟩ := W_att R hx
  obtain ⟨T, hT, eT⟩ := W_att R hy
  obtain ⟨S', T', hv, q⟩ := exch R hS hT hi h
  rw [eS, eT] at hv
  rcases q with ⟨q1, q2⟩ | ⟨j, hj, hl, q1, q2⟩
  · have w1 := W_ge (x := fun t => x t - e1 i t) R q1
    have w2 := W_ge (x := fun t => y t + e1 i t) R q2
    exact .inl (by omega)
  · have w1 := W_ge (x := fun t => x t - e1 i t + e1 j t) R q1
    have w2 := W_ge (x := fun t => y t + e1 i t - e1 j t) R q2
    exact .inr ⟨j, hj, hl, by omega⟩

/-! ### sums of prices -/
def dot (m : Nat) (p x : Nat → Int) : Int := sumN m fun t => p t * x t
theorem dot_upd {p x y : Nat → Int} {j : Nat} (hj : j < m) (h : ∀ t, t < m → t ≠ j → y t = x t) : dot m p y = dot m p x + p j * (y j - x j) := by
  unfold dot
  rw [sumN_change (f := fun t => p t * x t) (g := fun t => p t * y t) hj (fun t ht hne => by
    show p t * y t = p t * x t
    rw [h t ht hne])]
  show _ - p j * x j + p j * y j = _
  rw [Int.mul_sub]; omega
theorem dot_congr {p x y : Nat → Int} (h : ∀ t, t < m → x t = y t) : dot m p x = dot m p y := sumN_congr fun t ht => by rw [h t ht]
theorem dot_sub1 (p x : Nat → Int) {j : Nat} (hj : j < m) : dot m p (fun t => x t - e1 j t) = dot m p x - p j := by
  rw [dot_upd (x := x) hj (fun t _ hne => by show x t - e1 j t = x t; rw [e1_ne hne]; omega)]
  show _ + p j * (x j - e1 j j - x j) = _
  rw [e1_same, show x j - 1 - x j = -1 by omega, Int.mul_neg, Int.mul_one]; omega
theorem dot_add1 (p x : Nat → Int) {j : Nat} (hj : j < m) : dot m p (fun t => x t + e1 j t) = dot m p x + p j := by
  rw [dot_upd (x := x) hj (fun t _ hne => by show x t + e1 j t = x t; rw [e1_ne hne]; omega)]
  show _ + p j * (x j + e1 j j - x j) = _
  rw [e1_same, show x j + 1 - x j = 1 by omega, Int.mul_one]
theorem dot_one (p : Nat → Int) : dot m p (fun _ => 1) = sumN m p := sumN_congr fun t _ => Int.mul_one _

def far (m : Nat) (x : Nat → Int) : Int := sumN m fun t => ((x t - 1).natAbs : Int)
theorem far_upd {x y : Nat → Int} {j : Nat} (hj : j < m) (h : ∀ t, t < m → t ≠ j → y t = x t) : far m y = far m x - ((x j - 1).natAbs : Int) + ((y j - 1).natAbs : Int) :=
  sumN_change (f := fun t => ((x t - 1).natAbs : Int)) (g := fun t => ((y t - 1).natAbs : Int)) hj fun t ht hne => by rw [h t ht hne]

def one : Nat → Int := fun _ => 1
/-- prices between the two ends, with the differences that exchanges allow, are no worse anywhere than at one of each -/
theorem dual (R : Reps n m V a c k) {p : Nat → Int} (ha : ∀ i, i < m → W n m V (fun t => one t + e1 i t) ≤ W n m V one + p i)
    (hb : ∀ i, i < m → W n m V (fun t => one t - e1 i t) ≤ W n m V one - p i)
    (hc : ∀ i j, i < m → j < m → i ≠ j → W n m V (fun t => one t + e1 i t - e1 j t) ≤ W n m V one + p i - p j) :
    ∀ (N : Nat) (x : Nat → Int), (∀ t, t < m → 0 ≤ x t) → far m x ≤ N → W n m V x - dot m p x ≤ W n m V one - sumN m p := by
  intro N
  have h1 : ∀ t, t < m → 0 ≤ one t := fun _ _ => by show (0 : Int) ≤ 1; decide
  have same : ∀ x : Nat → Int, (∀ t, t < m → x t = 1) → W n m V x - dot m p x ≤ W n m V one - sumN m p := fun x e => by
    rw [W_congr (y := one) R (fun t ht => by rw [e t ht]; decide) e, dot_congr (y := one) e, show dot m p one = sumN m p from dot_one p]
    exact Int.le_refl _
  induction N with
  | zero =>
    intro x hx hf
    refine same x fun t ht => ?_
    have := sumN_le_one (f := fun t => ((x t - 1).natAbs : Int)) ht (fun i _ => by omega)
    have : ((x t - 1).natAbs : Int) ≤ 0 := Int.le_trans this hf
    omega
  | succ N ih =>
    intro x hx hf
    by_cases hbig : ∃ t, t < m ∧ 1 < x t
    · obtain ⟨t, ht, hgt⟩ := hbig
      rcases W_exch R hx h1 ht (show one t < x t from hgt) with q | ⟨j, hj, hlt, q⟩
      · have := ih (fun t' => x t' - e1 t t') (fun t' ht' => by
            have := hx t' ht'
            by_cases e : t' = t
            · subst e; rw [e1_same]; omega
            · rw [e1_ne e]; omega)
          (by
            rw [far_upd (x := x) ht (fun t' _ hne => by show x t' - e1 t t' = x t'; rw [e1_ne hne]; omega)]
            show _ + ((x t - e1 t t - 1).natAbs : Int) ≤ _
            rw [e1_same]
            have : far m x ≤ ((N + 1 : Nat) : Int) := hf
            omega)
        rw [dot_sub1 p x ht] at this
        have := ha t ht
        omega
      · have hlt' : x j < 1 := hlt
        have hxj := hx j hj
        have ne : j ≠ t := fun e => by subst e; omega
        have fz : far m (fun t' => x t' - e1 t t' + e1 j t') ≤ N := by
          rw [far_upd (x := fun t' => x t' - e1 t t') hj (fun t' _ hne => by show x t' - e1 t t' + e1 j t' = x t' - e1 t t'; rw [e1_ne hne]; omega),
            far_upd (x := x) ht (fun t' _ hne => by show x t' - e1 t t' = x t'; rw [e1_ne hne]; omega)]
          show far m x - _ + ((x t - e1 t t - 1).natAbs : Int) - ((x j - e1 t j - 1).natAbs : Int) + ((x j - e1 t j + e1 j j - 1).natAbs : Int) ≤ _
          rw [e1_same, e1_same, e1_ne ne]
          have : far m x ≤ ((N + 1 : Nat) : Int) := hf
          omega
        have := ih (fun t' => x t' - e1 t t' + e1 j t') (fun t' ht' => by
            have := hx t' ht'
            have := e1_nonneg j t'
            by_cases e : t' = t
            · subst e; rw [e1_same]; omega
            · rw [e1_ne e]; omega) fz
        rw [dot_add1 p (fun t' => x t' - e1 t t') hj, dot_sub1 p x ht] at this
        have := hc t j ht hj (fun e => ne e.symm)
        omega
    · have hle : ∀ t, t < m → x t ≤ 1 := fun t ht => by
        by_cases q : 1 < x t
        · exact absurd ⟨t, ht, q⟩ hbig
        · omega
      by_cases hsm : ∃ t, t < m ∧ x t < 1
      · obtain ⟨t, ht, hlt⟩ := hsm
        have hx0 := hx t ht
        rcases W_exch R h1 hx ht (show x t < one t from hlt) with q | ⟨j, hj, hgt, q⟩
        · have := ih (fun t' => x t' + e1 t t') (fun t' ht' => by
              have := hx t' ht'
              have := e1_nonneg t t'
              omega)
            (by
              rw [far_upd (x := x) ht (fun t' _ hne => by show x t' + e1 t t' = x t'; rw [e1_ne hne]; omega)]
              show _ + ((x t + e1 t t - 1).natAbs : Int) ≤ _
              rw [e1_same]
              have : far m x ≤ ((N + 1 : Nat) : Int) := hf
              omega)
          rw [dot_add1 p x ht] at this
          have := hb t ht
          omega
        · have : (1 : Int) < x j := hgt
          have := hle j hj
          omega
      · refine same x fun t ht => ?_
        have := hle t ht
        by_cases q : x t < 1
        · exact absurd ⟨t, ht, q⟩ hsm
        · omega

/-! ### gains at prices -/
def cost (m : Nat) (p : Nat → Int) (S : St1) : Int := sumN m fun t => if S t then p t else 0
structure Gain (m : Nat) (V : St1 → Int) (g : (Nat → Int) → Int) : Prop where
  att : ∀ p, ∃ S, g p = V S - cost m p S
  ge : ∀ p S, V S - cost m p S ≤ g p
abbrev Gains (n m : Nat) (V : Nat → St1 → Int) (g : Nat → (Nat → Int) → Int) : Prop := ∀ i, i < n → Gain m (V i) (g i)
/-- all gains and all prices together -/
def Lf (n m : Nat) (g : Nat → (Nat → Int) → Int) (p : Nat → Int) : Int := sumN n (fun i => g i p) + sumN m p
variable {g : Nat → (Nat → Int) → Int}
theorem cost_all (n m : Nat) (p : Nat → Int) (S : Bt) : sumN n (fun i => cost m p (S i)) = dot m p (cntT n S) := by
  unfold cost dot cntT
  rw [sumN_swap]
  refine sumN_congr fun t _ => ?_
  rw [← sumN_mul]
  refine sumN_congr fun i _ => ?_
  cases S i t
  · show (0 : Int) = p t * 0
    omega
  · show p t = p t * 1
    omega
theorem weak (R : Reps n m V a c k) (G : Gains n m V g) {p x : Nat → Int} (hp : ∀ t, t < m → 0 ≤ p t) (hx : ∀ t, t < m → 0 ≤ x t) : W n m V x ≤ sumN n (fun i => g i p) + dot m p x := by
  obtain ⟨S, hS, e⟩ := W_att R hx
  rw [← e]
  have h1 : tot n V S ≤ sumN n (fun i => g i p) + sumN n (fun i => cost m p (S i)) := by
    unfold tot
    rw [← sumN_add]
    refine sumN_le fun i hi => ?_
    have := (G i hi).ge p (S i)
    omega
  rw [cost_all] at h1
  have h2 : dot m p (cntT n S) ≤ dot m p x := sumN_le fun t ht => Int.mul_le_mul_of_nonneg_left (hS t ht) (hp t ht)
  omega
theorem strong (R : Reps n m V a c k) (G : Gains n m V g) {p : Nat → Int} (h : ∀ x : Nat → Int, (∀ t, t < m → 0 ≤ x t) → W n m V x - dot m p x ≤ W n m V one - sumN m p) : Lf n m g p ≤ W n m V one := by
  obtain ⟨S, hS⟩ := skol (P := fun i (S : St1) => g i p = V i S - cost m p S) fun i hi => (G i hi).att p
  have e : sumN n (fun i => g i p) = tot n V S - dot m p (cntT n S) := by
    rw [← cost_all]
    unfold tot
    rw [← sumN_sub]
    exact sumN_congr fun i hi => hS i hi
  have h1 := W_ge (x := cntT n S) R (S := S) fun t _ => Int.le_refl _
  have h2 := h (cntT n S) fun t _ => sumN_nonneg fun i _ => ind_nonneg _
  unfold Lf
  omega

/-- the low and the high prices -/
noncomputable def plow (n m : Nat) (V : Nat → St1 → Int) (i : Nat) : Int := W n m V (fun t => one t + e1 i t) - W n m V one
noncomputable def phigh (n m : Nat) (V : Nat → St1 → Int) (i : Nat) : Int := W n m V one - W n m V (fun t => one t - e1 i t)
theorem one_nonneg (m : Nat) : ∀ t, t < m → 0 ≤ one t := fun _ _ => by show (0 : Int) ≤ 1; decide
theorem add_nonneg (m i : Nat) : ∀ t, t < m → 0 ≤ (fun t => one t + e1 i t) t := fun t _ => by
  show (0 : Int) ≤ 1 + e1 i t
  have := e1_nonneg i t
  omega
theorem sub_nonneg (m i : Nat) : ∀ t, t < m → 0 ≤ (fun t => one t - e1 i t) t := fun t _ => by
  show (0 : Int) ≤ 1 - e1 i t
  unfold e1
  split <;> decide
theorem add_sub_nonneg (m i j : Nat) : ∀ t, t < m → 0 ≤ (fun t => one t + e1 i t - e1 j t) t := fun t _ => by
  show (0 : Int) ≤ 1 + e1 i t - e1 j t
  unfold e1
  split <;> split <;> decide
theorem plow_nonneg (R : Reps n m V a c k) (i : Nat) : 0 ≤ plow n m V i := by
  have := W_mono (x := one) (y := fun t => one t + e1 i t) R (one_nonneg m) fun t _ => by
    show one t ≤ one t + e1 i t
    have := e1_nonneg i t
    omega
  unfold plow; omega
theorem phigh_nonneg (R : Reps n m V a c k) (i : Nat) : 0 ≤ phigh n m V i := by
  have := W_mono (x := fun t => one t - e1 i t) (y := one) R (sub_nonneg m i) fun t _ => by
    show one t - e1 i t ≤ one t
    have := e1_nonneg i t
    omega
  unfold phigh; omega
theorem concave (R : Reps n m V a c k) {i : Nat} (hi : i < m) : W n m V (fun t => one t + e1 i t) + W n m V (fun t => one t - e1 i t) ≤ W n m V one + W n m V one := by
  rcases W_exch R (add_nonneg m i) (sub_nonneg m i) hi (by show one i - e1 i i < one i + e1 i i; rw [e1_same]; omega) with q | ⟨j, hj, hlt, _⟩
  · have e1' : W n m V (fun t => (fun t => one t + e1 i t) t - e1 i t) = W n m V one := (W_congr R (one_nonneg m) fun t _ => by show one t = one t + e1 i t - e1 i t; omega).symm
    have e2' : W n m V (fun t => (fun t => one t - e1 i t) t + e1 i t) = W n m V one := (W_congr R (one_nonneg m) fun t _ => by show one t = one t - e1 i t + e1 i t; omega).symm
    rw [e1', e2'] at q
    exact q
  · have : one j + e1 i j < one j - e1 i j := hlt
    have := e1_nonneg i j
    omega
theorem plow_meets (R : Reps n m V a c k) (G : Gains n m V g) : Lf n m g (plow n m V) ≤ W n m V one := by
  refine strong R G fun x hx => dual R (fun i _ => by unfold plow; omega) (fun i hi => by have := concave R hi; unfold plow; omega) (fun i j hi hj hne => ?_) (far m x).toNat x hx (by
    have : 0 ≤ far m x := sumN_nonneg fun t _ => by omega
    omega)
  rcases W_exch R (add_nonneg m j) (add_sub_nonneg m i j) hj (by
      show one j + e1 i j - e1 j j < one j + e1 j j
      rw [e1_same, e1_ne (fun e => hne e.symm)]; omega) with q | ⟨l, hl, hlt, q⟩
  · have e1' : W n m V (fun t => (fun t => one t + e1 j t) t - e1 j t) = W n m V one := (W_congr R (one_nonneg m) fun t _ => by show one t = one t + e1 j t - e1 j t; omega).symm
    have e2' : W n m V (fun t => (fun t => one t + e1 i t - e1 j t) t + e1 j t) = W n m V (fun t => one t + e1 i t) := (W_congr R (add_nonneg m i) fun t _ => by show one t + e1 i t = one t + e1 i t - e1 j t + e1 j t; omega).symm
    rw [e1', e2'] at q
    unfold plow; omega
  · have hlt' : one l + e1 j l < one l + e1 i l - e1 j l := hlt
    have el : l = i := by
      by_cases e : l = i
      · exact e
      · rw [e1_ne (j := i) e] at hlt'
        have := e1_nonneg j l
        omega
    subst el
    have e1' : W n m V (fun t => (fun t => one t + e1 j t) t - e1 j t + e1 l t) = W n m V (fun t => one t + e1 l t) := (W_congr R (add_nonneg m l) fun t _ => by show one t + e1 l t = one t + e1 j t - e1 j t + e1 l t; omega).symm
    have e2' : W n m V (fun t => (fun t => one t + e1 l t - e1 j t) t + e1 j t - e1 l t) = W n m V one := (W_congr R (one_nonneg m) fun t _ => by show one t = one t + e1 l t - e1 j t + e1 j t - e1 l t; omega).symm
    rw [e1', e2'] at q
    unfold plow; omega
theorem phigh_meets (R : Reps n m V a c k) (G : Gains n m V g) : Lf n m g (phigh n m V) ≤ W n m V one := by
  refine strong R G fun x hx => dual R (fun i hi => by have := concave R hi; unfold phigh; omega) (fun i hi => by unfold phigh; omega) (fun i j hi hj hne => ?_) (far m x).toNat x hx (by
    have : 0 ≤ far m x := sumN_nonneg fun t _ => by omega
    omega)
  rcases W_exch R (add_sub_nonneg m i j) (sub_nonneg m i) hi (by
      show one i - e1 i i < one i + e1 i i - e1 j i
      rw [e1_same, e1_ne hne]; omega) with q | ⟨l, hl, hlt, q⟩
  · have e1' : W n m V (fun t => (fun t => one t + e1 i t - e1 j t) t - e1 i t) = W n m V (fun t => one t - e1 j t) := (W_congr R (sub_nonneg m j) fun t _ => by show one t - e1 j t = one t + e1 i t - e1 j t - e1 i t; omega).symm
    have e2' : W n m V (fun t => (fun t => one t - e1 i t) t + e1 i t) = W n m V one := (W_congr R (one_nonneg m) fun t _ => by show one t = one t - e1 i t + e1 i t; omega).symm
    rw [e1', e2'] at q
    unfold phigh; omega
  · have hlt' : one l + e1 i l - e1 j l < one l - e1 i l := hlt
    have el : l = j := by
      by_cases e : l = j
      · exact e
      · rw [e1_ne (j := j) e] at hlt'
        have := e1_nonneg i l
        omega
    subst el
    have e1' : W n m V (fun t => (fun t => one t + e1 i t - e1 l t) t - e1 i t + e1 l t) = W n m V one := (W_congr R (one_nonneg m) fun t _ => by show one t = one t + e1 i t - e1 l t - e1 i t + e1 l t; omega).symm
    have e2' : W n m V (fun t => (fun t => one t - e1 i t) t + e1 i t - e1 l t) = W n m V (fun t => one t - e1 l t) := (W_congr R (sub_nonneg m l) fun t _ => by show one t - e1 l t = one t - e1 i t + e1 i t - e1 l t; omega).symm
    rw [e1', e2'] at q
    unfold phigh; omega
theorem Lf_ge (R : Reps n m V a c k) (G : Gains n m V g) {q : Nat → Int} (hq : ∀ t, t < m → 0 ≤ q t) : W n m V one ≤ Lf n m g q := by
  have := weak R G hq (one_nonneg m)
  rw [show dot m q one = sumN m q from dot_one q] at this
  exact this
theorem plow_le (R : Reps n m V a c k) (G : Gains n m V g) {q : Nat → Int} (hq : ∀ t, t < m → 0 ≤ q t) (h : Lf n m g q ≤ W n m V one) {i : Nat} (hi : i < m) : plow n m V i ≤ q i := by
  have := weak R G hq (add_nonneg m i)
  rw [dot_add1 q one hi, show dot m q one = sumN m q from dot_one q] at this
  unfold plow
  unfold Lf at h
  omega
theorem le_phigh (R : Reps n m V a c k) (G : Gains n m V g) {q : Nat → Int} (hq : ∀ t, t < m → 0 ≤ q t) (h : Lf n m g q ≤ W n m V one) {i : Nat} (hi : i < m) : q i ≤ phigh n m V i := by
  have := weak R G hq (sub_nonneg m i)
  rw [dot_sub1 q one hi, show dot m q one = sumN m q from dot_one q] at this
  unfold phigh
  unfold Lf at h
  omega
end
end K98
set_option Elab.async false
set_option linter.all false
/-! K98 mathematics, part D: gains fall evenly (the two-prices inequality), steps from below and from above, one hand more. -/
namespace K98

theorem arg_min {m : Nat} {f : Nat → Int} {B : St1} (h : ∃ t, t < m ∧ B t = true) : ∃ t, t < m ∧ B t = true ∧ ∀ u, u < m → B u = true → f t ≤ f u := by
  induction m with
  | zero => obtain ⟨t, ht, _⟩ := h; omega
  | succ m ih =>
    by_cases h1 : ∃ t, t < m ∧ B t = true
    · obtain ⟨t, ht, hb, hm⟩ := ih h1
      by_cases q : B m = true ∧ f m < f t
      · refine ⟨m, by omega, q.1, fun u hu hbu => ?_⟩
        by_cases e : u = m
        · subst e; exact Int.le_refl _
        · have := hm u (by omega) hbu
          omega
      · refine ⟨t, by omega, hb, fun u hu hbu => ?_⟩
        by_cases e : u = m
        · subst e
          by_cases r : f u < f t
          · exact absurd ⟨hbu, r⟩ q
          · omega
        · exact hm u (by omega) hbu
    · obtain ⟨t, ht, hb⟩ := h
      have e : t = m := by
        by_cases e : t = m
        · exact e
        · exact absurd ⟨t, by omega, hb⟩ h1
      subst e
      refine ⟨t, ht, hb, fun u hu hbu => ?_⟩
      by_cases e : u = t
      · subst e; exact Int.le_refl _
      · exact absurd ⟨u, by omega, hbu⟩ h1

theorem cnt_set {m : Nat} {B : St1} {j : Nat} {v : Bool} (hj : j < m) : cnt m (fun t => if t = j then v else B t) = cnt m B - ind (B j) + ind v := by
  unfold cnt
  rw [sumN_change (f := fun t => ind (B t)) (g := fun t => ind (if t = j then v else B t)) hj (fun t _ hne => by
    show ind (if t = j then v else B t) = ind (B t)
    rw [if_neg hne])]
  show _ - _ + ind (if j = j then v else B j) = _
  rw [if_pos rfl]
theorem cnt_pos {m : Nat} {B : St1} (h : 0 < cnt m B) : ∃ t, t < m ∧ B t = true := by
  obtain ⟨t, ht, q⟩ := sumN_pos (n := m) (f := fun t => ind (B t)) h
  refine ⟨t, ht, ?_⟩
  cases e : B t with
  | true => rfl
  | false => rw [e] at q; exact absurd q (by decide)

/-- the k greatest of some numbers, and a bound between them and the others -/
theorem top_k {be : Nat → Int} {k : Int} (hk : 0 ≤ k) : ∀ m : Nat, (∀ t, t < m → 0 ≤ be t) → ∃ (th : Int) (B : St1), 0 ≤ th ∧ cnt m B ≤ k ∧ (∀ t, t < m → B t = true → th ≤ be t) ∧ (∀ t, t < m → B t = false → be t ≤ th) ∧ (th = 0 ∨ cnt m B = k) := by
  intro m
  induction m with
  | zero => intro _; exact ⟨0, fun _ => false, Int.le_refl _, hk, fun t ht => by omega, fun t ht => by omega, .inl rfl⟩
  | succ m ih =>
    intro h0
    obtain ⟨th, B, ht0, hc, hin, hout, hz⟩ := ih fun t ht => h0 t (by omega)
    have hm0 := h0 m (by omega)
    have c1 : ∀ v, cnt (m + 1) (fun t => if t = m then v else B t) = cnt m B + ind v := fun v => by
      show sumN m (fun t => ind (if t = m then v else B t)) + ind (if m = m then v else B m) = _
      rw [if_pos rfl]
      have : sumN m (fun t => ind (if t = m then v else B t)) = cnt m B := sumN_congr fun t ht => by rw [if_neg (by omega)]
      rw [this]
    by_cases hlt : cnt m B < k
    · have e0 : th = 0 := by
        rcases hz with q | q
        · exact q
        · omega
      subst e0
      refine ⟨0, fun t => if t = m then true else B t, Int.le_refl _, by rw [c1, ind_true]; omega, fun t ht _ => h0 t ht, fun t ht q => ?_, .inl rfl⟩
      dsimp only at q
      by_cases e : t = m
      · rw [if_pos e] at q; cases q
      · rw [if_neg e] at q
        exact hout t (by omega) q
    · have ek : cnt m B = k := by omega
      by_cases hle : be m ≤ th
      · refine ⟨th, fun t => if t = m then false else B t, ht0, by rw [c1, ind_false]; omega, fun t ht q => ?_, fun t ht q => ?_, .inr (by rw [c1, ind_false]; omega)⟩
        · dsimp only at q
          by_cases e : t = m
          · rw [if_pos e] at q; cases q
          · rw [if_neg e] at q
            exact hin t (by omega) q
        · dsimp only at q
          by_cases e : t = m
          · rw [e]; exact hle
          · rw [if_neg e] at q
            exact hout t (by omega) q
      · by_cases hk0 : 0 < k
        · obtain ⟨j, hj, hbj, hmin⟩ := arg_min (f := be) (cnt_pos (m := m) (B := B) (by omega))
          by_cases hjm : be j ≤ be m
          · refine ⟨be j, fun t => if t = m then true else (if t = j then false else B t), h0 j (by omega), ?_, fun t ht q => ?_, fun t ht q => ?_, .inr ?_⟩
            · show sumN m (fun t => ind (if t = m then true else (if t = j then false else B t))) + ind (if m = m then true else _) ≤ k
              rw [if_pos rfl]
              have : sumN m (fun t => ind (if t = m then true else (if t = j then false else B t))) = cnt m (fun t => if t = j then false else B t) := sumN_congr fun t ht => by rw [if_neg (show ¬ t = m by omega)]
              rw [this, cnt_set hj, hbj, ind_true, ind_false]; omega
            · dsimp only at q
              by_cases e : t = m
              · rw [e]; exact hjm
              · rw [if_neg e] at q
                by_cases e2 : t = j
                · rw [if_pos e2] at q; cases q
                · rw [if_neg e2] at q
                  exact hmin t (by omega) q
            · dsimp only at q
              by_cases e : t = m
              · rw [if_pos e] at q; cases q
              · rw [if_neg e] at q
                by_cases e2 : t = j
                · rw [e2]; exact Int.le_refl _
                · rw [if_neg e2] at q
                  have := hout t (by omega) q
                  have := hin j hj hbj
                  omega
            · show sumN m (fun t => ind (if t = m then true else (if t = j then false else B t))) + ind (if m = m then true else _) = k
              rw [if_pos rfl]
              have : sumN m (fun t => ind (if t = m then true else (if t = j then false else B t))) = cnt m (fun t => if t = j then false else B t) := sumN_congr fun t ht => by rw [if_neg (show ¬ t = m by omega)]
              rw [this, cnt_set hj, hbj, ind_true, ind_false]; omega
          · refine ⟨be m, fun t => if t = m then false else B t, hm0, by rw [c1, ind_false]; omega, fun t ht q => ?_, fun t ht q => ?_, .inr (by rw [c1, ind_false]; omega)⟩
            · dsimp only at q
              by_cases e : t = m
              · rw [if_pos e] at q; cases q
              · rw [if_neg e] at q
                have := hmin t (by omega) q
                omega
            · dsimp only at q
              by_cases e : t = m
              · rw [e]; exact Int.le_refl _
              · rw [if_neg e] at q
                have := hout t (by omega) q
                omega
        · refine ⟨be m, fun _ => false, hm0, ?_, (fun t ht q => absurd q Bool.false_ne_true), (fun t ht _ => ?_), .inr ?_⟩
          · show sumN (m + 1) (fun _ => 0) ≤ k
            rw [sumN_zero]; exact hk
          · by_cases e : t = m
            · rw [e]; exact Int.le_refl _
            · have hbt : B t = false := by
                cases q : B t with
                | false => rfl
                | true =>
                  have : ind (B t) ≤ cnt m B := sumN_le_one (f := fun t => ind (B t)) (show t < m by omega) fun _ _ => ind_nonneg _
                  rw [q, ind_true] at this
                  omega
              have := hout t (by omega) hbt
              omega
          · show sumN (m + 1) (fun _ => 0) = k
            rw [sumN_zero]; omega

section
variable {m : Nat} {V : St1 → Int} {a c : Nat → Int} {k : Int} {g : (Nat → Int) → Int}
/-- the bound of a hand's gain by a price th of its bonuses -/
def Gf (m : Nat) (a c : Nat → Int) (k : Int) (p : Nat → Int) (th : Int) : Int := k * th + sumN m fun t => max 0 (max (a t - p t) (a t + c t - p t - th))
theorem gf_ge (R : Rep m V a c k) (G : Gain m V g) (p : Nat → Int) {th : Int} (h : 0 ≤ th) : g p ≤ Gf m a c k p th := by
  obtain ⟨S, e⟩ := G.att p
  obtain ⟨B, hB, hc, hv⟩ := R.up S
  have h1 : valSB m a c S B - cost m p S - th * cnt m B ≤ sumN m fun t => max 0 (max (a t - p t) (a t + c t - p t - th)) := by
    unfold valSB cost cnt
    rw [← sumN_mul, ← sumN_sub, ← sumN_sub]
    refine sumN_le fun t ht => ?_
    have := hB t ht
    cases eb : B t with
    | true =>
      rw [this eb, ind_true]
      simp only [if_true]
      omega
    | false =>
      rw [ind_false]
      cases S t
      · simp only [if_false, Bool.false_eq_true]
        omega
      · simp only [if_true, if_false, Bool.false_eq_true]
        omega
  have h2 : th * cnt m B ≤ k * th := by
    rw [Int.mul_comm k th]
    exact Int.mul_le_mul_of_nonneg_left hc h
  unfold Gf
  omega
theorem gf_att (R : Rep m V a c k) (G : Gain m V g) (p : Nat → Int) : ∃ th, 0 ≤ th ∧ Gf m a c k p th ≤ g p := by
  obtain ⟨th, B, h0, hc, hin, hout, hz⟩ := top_k (be := fun t => max 0 (a t + c t - p t) - max 0 (a t - p t)) R.k0 m (fun t ht => by
    have := R.c0 t ht
    omega)
  refine ⟨th, h0, ?_⟩
  have hS := G.ge p (fun t => if B t then decide (0 < a t + c t - p t) else decide (0 < a t - p t))
  have hl := R.lo (fun t => if B t then decide (0 < a t + c t - p t) else decide (0 < a t - p t)) (fun t => B t && decide (0 < a t + c t - p t)) (fun t ht q => by
      obtain ⟨q1, q2⟩ := Bool.and_eq_true_iff.mp q
      show (if B t = true then decide (0 < a t + c t - p t) else decide (0 < a t - p t)) = true
      rw [if_pos q1]; exact q2)
    (Int.le_trans (sumN_le fun t ht => by
      show ind (B t && decide (0 < a t + c t - p t)) ≤ ind (B t)
      cases B t
      · exact Int.le_refl _
      · exact ind_le_one _) hc)
  have h1 : (sumN m fun t => max 0 (max (a t - p t) (a t + c t - p t - th))) + th * cnt m B ≤
      valSB m a c (fun t => if B t then decide (0 < a t + c t - p t) else decide (0 < a t - p t)) (fun t => B t && decide (0 < a t + c t - p t)) - cost m p (fun t => if B t then decide (0 < a t + c t - p t) else decide (0 < a t - p t)) := by
    unfold valSB cost cnt
    rw [← sumN_mul, ← sumN_sub, ← sumN_add]
    refine sumN_le fun t ht => ?_
    have hc0 := R.c0 t ht
    cases eb : B t with
    | true =>
      have := hin t ht eb
      rw [ind_true]
      by_cases q : 0 < a t + c t - p t
      · simp only [eb, q, if_true, Bool.true_and, decide_true]; omega
      · simp only [eb, q, if_true, if_false, Bool.true_and, decide_false, Bool.false_eq_true]; omega
    | false =>
      have := hout t ht eb
      rw [ind_false]
      by_cases q : 0 < a t - p t
      · simp only [eb, q, if_true, if_false, Bool.false_eq_true, Bool.false_and, decide_true]; omega
      · simp only [eb, q, if_false, Bool.false_eq_true, Bool.false_and, decide_false]; omega
  have h2 : k * th = th * cnt m B := by
    rcases hz with q | q
    · rw [q]; omega
    · rw [q, Int.mul_comm]
  unfold Gf
  omega
theorem ln_point (a c p q al tp tq : Int) (hc : 0 ≤ c) (ha : 0 ≤ al) :
    max 0 (max (a - max (p - al) q) (a + c - max (p - al) q - min (tp + al) tq)) + max 0 (max (a - min p (q + al)) (a + c - min p (q + al) - max tp (tq - al))) ≤
    max 0 (max (a - p) (a + c - p - tp)) + max 0 (max (a - q) (a + c - q - tq)) := by omega
theorem g_ln (R : Rep m V a c k) (G : Gain m V g) (p q : Nat → Int) {al : Int} (ha : 0 ≤ al) :
    g (fun t => max (p t - al) (q t)) + g (fun t => min (p t) (q t + al)) ≤ g p + g q := by
  obtain ⟨tp, hp0, hp⟩ := gf_att R G p
  obtain ⟨tq, hq0, hq⟩ := gf_att R G q
  have hu := gf_ge R G (fun t => max (p t - al) (q t)) (th := min (tp + al) tq) (by omega)
  have hv := gf_ge R G (fun t => min (p t) (q t + al)) (th := max tp (tq - al)) (by omega)
  have hs : (sumN m fun t => max 0 (max (a t - max (p t - al) (q t)) (a t + c t - max (p t - al) (q t) - min (tp + al) tq))) + (sumN m fun t => max 0 (max (a t - min (p t) (q t + al)) (a t + c t - min (p t) (q t + al) - max tp (tq - al)))) ≤
      (sumN m fun t => max 0 (max (a t - p t) (a t + c t - p t - tp))) + sumN m fun t => max 0 (max (a t - q t) (a t + c t - q t - tq)) := by
    rw [← sumN_add, ← sumN_add]
    exact sumN_le fun t ht => ln_point _ _ _ _ _ _ _ (R.c0 t ht) ha
  have hk : k * min (tp + al) tq + k * max tp (tq - al) = k * tp + k * tq := by
    rw [← Int.mul_add, ← Int.mul_add, show min (tp + al) tq + max tp (tq - al) = tp + tq by omega]
  simp only [Gf] at hp hq hu hv
  omega
theorem g_congr (G : Gain m V g) {p q : Nat → Int} (h : ∀ t, t < m → p t = q t) : g p = g q := by
  have c : ∀ S, cost m p S = cost m q S := fun S => sumN_congr fun t ht => by rw [h t ht]
  obtain ⟨S, e⟩ := G.att p
  obtain ⟨T, f⟩ := G.att q
  have h1 := G.ge p T
  have h2 := G.ge q S
  rw [← c] at h2 f
  omega
theorem g_anti (G : Gain m V g) {p q : Nat → Int} (h : ∀ t, t < m → p t ≤ q t) : g q ≤ g p := by
  obtain ⟨T, f⟩ := G.att q
  have h1 := G.ge p T
  have h2 : cost m p T ≤ cost m q T := sumN_le fun t ht => by
    cases T t
    · exact Int.le_refl _
    · exact h t ht
  omega
end

section
variable {n m : Nat} {V : Nat → St1 → Int} {a c : Nat → Nat → Int} {k : Nat → Int} {g : Nat → (Nat → Int) → Int}
theorem L_ln (R : Reps n m V a c k) (G : Gains n m V g) (p q : Nat → Int) {al : Int} (ha : 0 ≤ al) :
    Lf n m g (fun t => max (p t - al) (q t)) + Lf n m g (fun t => min (p t) (q t + al)) ≤ Lf n m g p + Lf n m g q := by
  have h1 : sumN n (fun i => g i fun t => max (p t - al) (q t)) + sumN n (fun i => g i fun t => min (p t) (q t + al)) ≤ sumN n (fun i => g i p) + sumN n (fun i => g i q) := by
    rw [← sumN_add, ← sumN_add]
    exact sumN_le fun i hi => g_ln (R i hi) (G i hi) p q ha
  have h2 : sumN m (fun t => max (p t - al) (q t)) + sumN m (fun t => min (p t) (q t + al)) = sumN m p + sumN m q := by
    rw [← sumN_add, ← sumN_add]
    exact sumN_congr fun t _ => by omega
  unfold Lf
  omega
theorem L_congr (G : Gains n m V g) {p q : Nat → Int} (h : ∀ t, t < m → p t = q t) : Lf n m g p = Lf n m g q := by
  unfold Lf
  rw [sumN_congr (f := fun i => g i p) (g := fun i => g i q) fun i hi => g_congr (G i hi) h, sumN_congr h]
theorem L_lat (R : Reps n m V a c k) (G : Gains n m V g) (p q : Nat → Int) : Lf n m g (fun t => max (p t) (q t)) + Lf n m g (fun t => min (p t) (q t)) ≤ Lf n m g p + Lf n m g q := by
  have := L_ln R G p q (al := 0) (Int.le_refl _)
  rw [L_congr G (p := fun t => max (p t - 0) (q t)) (q := fun t => max (p t) (q t)) (fun t _ => by omega), L_congr G (p := fun t => min (p t) (q t + 0)) (q := fun t => min (p t) (q t)) (fun t _ => by omega)] at this
  exact this

/-- prices moved by w at the things of X -/
def mv (w : Int) (p : Nat → Int) (X : St1) (t : Nat) : Int := p t + if X t then w else 0
def Fe (m : Nat) (w : Int) (p : Nat → Int) (X : St1) : Prop := ∀ t, t < m → 0 ≤ mv w p X t
/-- what a step takes: of the heaps that may, one of the least, within all such -/
structure IsStep (n m : Nat) (g : Nat → (Nat → Int) → Int) (w : Int) (p : Nat → Int) (F : St1) : Prop where
  fe : Fe m w p F
  le : ∀ X, Fe m w p X → Lf n m g (mv w p F) ≤ Lf n m g (mv w p X)
  sub : ∀ X, Fe m w p X → Lf n m g (mv w p X) ≤ Lf n m g (mv w p F) → Sub m F X

/-- of two best heaps what is in both is best -/
theorem inter_best (R : Reps n m V a c k) (G : Gains n m V g) {w : Int} (hw : w = 1 ∨ w = -1) {p : Nat → Int} {X Y : St1} (hX : Fe m w p X) (hY : Fe m w p Y) {u : Int}
    (eX : Lf n m g (mv w p X) = u) (eY : Lf n m g (mv w p Y) = u) (hu : ∀ Z, Fe m w p Z → u ≤ Lf n m g (mv w p Z)) :
    Fe m w p (fun t => X t && Y t) ∧ Lf n m g (mv w p (fun t => X t && Y t)) = u := by
  have f1 : Fe m w p (fun t => X t && Y t) := fun t ht => by
    have h1 := hX t ht
    have h2 := hY t ht
    cases e1 : X t <;> cases e2 : Y t <;> simp only [mv, e1, e2, Bool.and_true, Bool.and_false, Bool.true_and, Bool.false_and, Bool.or_true, Bool.or_false, Bool.true_or, Bool.false_or, if_true, if_false, eq_self, Bool.false_eq_true, decide_eq_true_eq] at h1 h2 ⊢ <;> omega
  have f2 : Fe m w p (fun t => X t || Y t) := fun t ht => by
    have h1 := hX t ht
    have h2 := hY t ht
    cases e1 : X t <;> cases e2 : Y t <;> simp only [mv, e1, e2, Bool.and_true, Bool.and_false, Bool.true_and, Bool.false_and, Bool.or_true, Bool.or_false, Bool.true_or, Bool.false_or, if_true, if_false, eq_self, Bool.false_eq_true, decide_eq_true_eq] at h1 h2 ⊢ <;> omega
  have l := L_lat R G (mv w p X) (mv w p Y)
  have g1 := hu _ f1
  have g2 := hu _ f2
  refine ⟨f1, ?_⟩
  rcases hw with rfl | rfl
  · have a1 : Lf n m g (fun t => max (mv 1 p X t) (mv 1 p Y t)) = Lf n m g (mv 1 p (fun t => X t || Y t)) := L_congr G fun t _ => by
      cases e1 : X t <;> cases e2 : Y t <;> simp only [mv, e1, e2, Bool.and_true, Bool.and_false, Bool.true_and, Bool.false_and, Bool.or_true, Bool.or_false, Bool.true_or, Bool.false_or, if_true, if_false, eq_self, Bool.false_eq_true, decide_eq_true_eq] <;> omega
    have a2 : Lf n m g (fun t => min (mv 1 p X t) (mv 1 p Y t)) = Lf n m g (mv 1 p (fun t => X t && Y t)) := L_congr G fun t _ => by
      cases e1 : X t <;> cases e2 : Y t <;> simp only [mv, e1, e2, Bool.and_true, Bool.and_false, Bool.true_and, Bool.false_and, Bool.or_true, Bool.or_false, Bool.true_or, Bool.false_or, if_true, if_false, eq_self, Bool.false_eq_true, decide_eq_true_eq] <;> omega
    rw [a1, a2] at l
    omega
  · have a1 : Lf n m g (fun t => max (mv (-1) p X t) (mv (-1) p Y t)) = Lf n m g (mv (-1) p (fun t => X t && Y t)) := L_congr G fun t _ => by
      cases e1 : X t <;> cases e2 : Y t <;> simp only [mv, e1, e2, Bool.and_true, Bool.and_false, Bool.true_and, Bool.false_and, Bool.or_true, Bool.or_false, Bool.true_or, Bool.false_or, if_true, if_false, eq_self, Bool.false_eq_true, decide_eq_true_eq] <;> omega
    have a2 : Lf n m g (fun t => min (mv (-1) p X t) (mv (-1) p Y t)) = Lf n m g (mv (-1) p (fun t => X t || Y t)) := L_congr G fun t _ => by
      cases e1 : X t <;> cases e2 : Y t <;> simp only [mv, e1, e2, Bool.and_true, Bool.and_false, Bool.true_and, Bool.false_and, Bool.or_true, Bool.or_false, Bool.true_or, Bool.false_or, if_true, if_false, eq_self, Bool.false_eq_true, decide_eq_true_eq] <;> omega
    rw [a1, a2] at l
    omega

theorem mv_none (w : Int) (p : Nat → Int) : mv w p (fun _ => false) = p := by
  funext t
  show p t + 0 = p t
  omega

/-! ### from below -/
theorem rise_step (R : Reps n m V a c k) (G : Gains n m V g) {p : Nat → Int} (hp : ∀ t, t < m → 0 ≤ p t) (hle : ∀ t, t < m → p t ≤ plow n m V t) {F : St1} (h : IsStep n m g 1 p F) :
    ∀ t, t < m → mv 1 p F t ≤ plow n m V t := by
  have l := L_lat R G (mv 1 p F) (plow n m V)
  have e : Lf n m g (fun t => min (mv 1 p F t) (plow n m V t)) = Lf n m g (mv 1 p (fun t => F t && decide (p t < plow n m V t))) := L_congr G fun t ht => by
    have := hle t ht
    cases eF : F t
    · simp only [mv, eF, Bool.and_true, Bool.and_false, Bool.true_and, Bool.false_and, Bool.or_true, Bool.or_false, Bool.true_or, Bool.false_or, if_true, if_false, eq_self, Bool.false_eq_true, decide_eq_true_eq]; omega

    · by_cases q : p t < plow n m V t
      · simp only [mv, eF, q, decide_true, decide_false, Bool.and_true, Bool.and_false, Bool.true_and, Bool.false_and, Bool.or_true, Bool.or_false, Bool.true_or, Bool.false_or, if_true, if_false, eq_self, Bool.false_eq_true, decide_eq_true_eq]; omega
      · simp only [mv, eF, q, decide_true, decide_false, Bool.and_true, Bool.and_false, Bool.true_and, Bool.false_and, Bool.or_true, Bool.or_false, Bool.true_or, Bool.false_or, if_true, if_false, eq_self, Bool.false_eq_true, decide_eq_true_eq]; omega
  have hm := Lf_ge R G (q := fun t => max (mv 1 p F t) (plow n m V t)) (fun t ht => by
    have := plow_nonneg R t
    omega)
  have hlow := plow_meets R G
  have s := h.sub (fun t => F t && decide (p t < plow n m V t)) (fun t ht => by
    have := hp t ht
    simp only [mv]
    split <;> omega) (by rw [← e]; omega)
  intro t ht
  simp only [mv]
  cases ef : F t with
  | false => have := hle t ht; simp only [Bool.and_true, Bool.and_false, Bool.true_and, Bool.false_and, Bool.or_true, Bool.or_false, Bool.true_or, Bool.false_or, if_true, if_false, eq_self, Bool.false_eq_true, decide_eq_true_eq]; omega
  | true =>
    have q := s t ht ef
    dsimp only at q
    rw [ef, Bool.true_and, decide_eq_true_eq] at q
    simp only [Bool.and_true, Bool.and_false, Bool.true_and, Bool.false_and, Bool.or_true, Bool.or_false, Bool.true_or, Bool.false_or, if_true, if_false, eq_self, Bool.false_eq_true, decide_eq_true_eq]; omega
theorem rise_end (R : Reps n m V a c k) (G : Gains n m V g) {p : Nat → Int} (hp : ∀ t, t < m → 0 ≤ p t) (hle : ∀ t, t < m → p t ≤ plow n m V t) (h : IsStep n m g 1 p fun _ => false) :
    ∀ t, t < m → p t = plow n m V t := by
  intro t0 ht0
  by_cases q : p t0 = plow n m V t0
  · exact q
  · exfalso
    have h0 := hle t0 ht0
    obtain ⟨j, hj, _, hmin⟩ := arg_min (m := m) (f := fun t => p t - plow n m V t) (B := fun _ => true) ⟨t0, ht0, rfl⟩
    have hj0 := hmin t0 ht0 rfl
    have l := L_ln R G (plow n m V) p (al := plow n m V j - p j - 1) (by omega)
    have e1 : Lf n m g (fun t => max (plow n m V t - (plow n m V j - p j - 1)) (p t)) = Lf n m g (mv 1 p fun t => decide (plow n m V t - p t = plow n m V j - p j)) := L_congr G fun t ht => by
      have := hmin t ht rfl
      simp only [mv]
      by_cases r : plow n m V t - p t = plow n m V j - p j
      · simp only [r, decide_true, decide_false, Bool.and_true, Bool.and_false, Bool.true_and, Bool.false_and, Bool.or_true, Bool.or_false, Bool.true_or, Bool.false_or, if_true, if_false, eq_self, Bool.false_eq_true, decide_eq_true_eq]; omega
      · simp only [r, decide_true, decide_false, Bool.and_true, Bool.and_false, Bool.true_and, Bool.false_and, Bool.or_true, Bool.or_false, Bool.true_or, Bool.false_or, if_true, if_false, eq_self, Bool.false_eq_true, decide_eq_true_eq]; omega
    have e2 : Lf n m g (fun t => min (plow n m V t) (p t + (plow n m V j - p j - 1))) = Lf n m g (mv (-1) (plow n m V) fun t => decide (plow n m V t - p t = plow n m V j - p j)) := L_congr G fun t ht => by
      have := hmin t ht rfl
      simp only [mv]
      by_cases r : plow n m V t - p t = plow n m V j - p j
      · simp only [r, decide_true, decide_false, Bool.and_true, Bool.and_false, Bool.true_and, Bool.false_and, Bool.or_true, Bool.or_false, Bool.true_or, Bool.false_or, if_true, if_false, eq_self, Bool.false_eq_true, decide_eq_true_eq]; omega
      · simp only [r, decide_true, decide_false, Bool.and_true, Bool.and_false, Bool.true_and, Bool.false_and, Bool.or_true, Bool.or_false, Bool.true_or, Bool.false_or, if_true, if_false, eq_self, Bool.false_eq_true, decide_eq_true_eq]; omega
    rw [e1, e2] at l
    have up := h.le (fun t => decide (plow n m V t - p t = plow n m V j - p j)) (fun t ht => by
      have := hp t ht
      simp only [mv]
      split <;> omega)
    rw [mv_none] at up
    have hlow := plow_meets R G
    have := plow_le R G (q := mv (-1) (plow n m V) fun t => decide (plow n m V t - p t = plow n m V j - p j)) (fun t ht => by
      have := hp t ht
      have := plow_nonneg R t
      simp only [mv]
      by_cases r : plow n m V t - p t = plow n m V j - p j
      · simp only [r, decide_true, decide_false, Bool.and_true, Bool.and_false, Bool.true_and, Bool.false_and, Bool.or_true, Bool.or_false, Bool.true_or, Bool.false_or, if_true, if_false, eq_self, Bool.false_eq_true, decide_eq_true_eq]; omega
      · simp only [r, decide_true, decide_false, Bool.and_true, Bool.and_false, Bool.true_and, Bool.false_and, Bool.or_true, Bool.or_false, Bool.true_or, Bool.false_or, if_true, if_false, eq_self, Bool.false_eq_true, decide_eq_true_eq]; omega) (by omega) hj
    simp only [mv] at this
    simp at this
    omega
/-! ### from above -/
theorem fall_step (R : Reps n m V a c k) (G : Gains n m V g) {p : Nat → Int} (hle : ∀ t, t < m → phigh n m V t ≤ p t) {F : St1} (h : IsStep n m g (-1) p F) :
    ∀ t, t < m → phigh n m V t ≤ mv (-1) p F t := by
  have l := L_lat R G (mv (-1) p F) (phigh n m V)
  have e : Lf n m g (fun t => max (mv (-1) p F t) (phigh n m V t)) = Lf n m g (mv (-1) p (fun t => F t && decide (phigh n m V t < p t))) := L_congr G fun t ht => by
    have := hle t ht
    cases eF : F t
    · simp only [mv, eF, Bool.and_true, Bool.and_false, Bool.true_and, Bool.false_and, Bool.or_true, Bool.or_false, Bool.true_or, Bool.false_or, if_true, if_false, eq_self, Bool.false_eq_true, decide_eq_true_eq]; omega
    · by_cases q : phigh n m V t < p t
      · simp only [mv, eF, q, decide_true, decide_false, Bool.and_true, Bool.and_false, Bool.true_and, Bool.false_and, Bool.or_true, Bool.or_false, Bool.true_or, Bool.false_or, if_true, if_false, eq_self, Bool.false_eq_true, decide_eq_true_eq]; omega
      · simp only [mv, eF, q, decide_true, decide_false, Bool.and_true, Bool.and_false, Bool.true_and, Bool.false_and, Bool.or_true, Bool.or_false, Bool.true_or, Bool.false_or, if_true, if_false, eq_self, Bool.false_eq_true, decide_eq_true_eq]; omega
  have hm := Lf_ge R G (q := fun t => min (mv (-1) p F t) (phigh n m V t)) (fun t ht => by
    have := phigh_nonneg R t
    have := h.fe t ht
    omega)
  have hhigh := phigh_meets R G
  have s := h.sub (fun t => F t && decide (phigh n m V t < p t)) (fun t ht => by
    have h1 := h.fe t ht
    have h2 := phigh_nonneg R t
    have h3 := hle t ht
    cases ef : F t with
    | false => simp only [mv, ef, Bool.and_true, Bool.and_false, Bool.true_and, Bool.false_and, Bool.or_true, Bool.or_false, Bool.true_or, Bool.false_or, if_true, if_false, eq_self, Bool.false_eq_true, decide_eq_true_eq] at h1 ⊢; omega
    | true =>
      by_cases q : phigh n m V t < p t
      · simp only [mv, ef, q, decide_true, Bool.and_true, Bool.and_false, Bool.true_and, Bool.false_and, Bool.or_true, Bool.or_false, Bool.true_or, Bool.false_or, if_true, if_false, eq_self, Bool.false_eq_true, decide_eq_true_eq] at h1 ⊢; omega
      · simp only [mv, ef, q, decide_false, Bool.and_true, Bool.and_false, Bool.true_and, Bool.false_and, Bool.or_true, Bool.or_false, Bool.true_or, Bool.false_or, if_true, if_false, eq_self, Bool.false_eq_true, decide_eq_true_eq] at h1 ⊢; omega) (by rw [← e]; omega)
  intro t ht
  simp only [mv]
  cases ef : F t with
  | false => have := hle t ht; simp only [Bool.and_true, Bool.and_false, Bool.true_and, Bool.false_and, Bool.or_true, Bool.or_false, Bool.true_or, Bool.false_or, if_true, if_false, eq_self, Bool.false_eq_true, decide_eq_true_eq]; omega
  | true =>
    have q := s t ht ef
    dsimp only at q
    rw [ef, Bool.true_and, decide_eq_true_eq] at q
    simp only [Bool.and_true, Bool.and_false, Bool.true_and, Bool.false_and, Bool.or_true, Bool.or_false, Bool.true_or, Bool.false_or, if_true, if_false, eq_self, Bool.false_eq_true, decide_eq_true_eq]; omega
theorem fall_end (R : Reps n m V a c k) (G : Gains n m V g) {p : Nat → Int} (hle : ∀ t, t < m → phigh n m V t ≤ p t) (h : IsStep n m g (-1) p fun _ => false) :
    ∀ t, t < m → p t = phigh n m V t := by
  intro t0 ht0
  by_cases q : p t0 = phigh n m V t0
  · exact q
  · exfalso
    have h0 := hle t0 ht0
    obtain ⟨j, hj, _, hmin⟩ := arg_min (m := m) (f := fun t => phigh n m V t - p t) (B := fun _ => true) ⟨t0, ht0, rfl⟩
    have hj0 := hmin t0 ht0 rfl
    have l := L_ln R G p (phigh n m V) (al := p j - phigh n m V j - 1) (by omega)
    have e1 : Lf n m g (fun t => max (p t - (p j - phigh n m V j - 1)) (phigh n m V t)) = Lf n m g (mv 1 (phigh n m V) fun t => decide (p t - phigh n m V t = p j - phigh n m V j)) := L_congr G fun t ht => by
      have := hmin t ht rfl
      simp only [mv]
      by_cases r : p t - phigh n m V t = p j - phigh n m V j
      · simp only [r, decide_true, decide_false, Bool.and_true, Bool.and_false, Bool.true_and, Bool.false_and, Bool.or_true, Bool.or_false, Bool.true_or, Bool.false_or, if_true, if_false, eq_self, Bool.false_eq_true, decide_eq_true_eq]; omega
      · simp only [r, decide_true, decide_false, Bool.and_true, Bool.and_false, Bool.true_and, Bool.false_and, Bool.or_true, Bool.or_false, Bool.true_or, Bool.false_or, if_true, if_false, eq_self, Bool.false_eq_true, decide_eq_true_eq]; omega
    have e2 : Lf n m g (fun t => min (p t) (phigh n m V t + (p j - phigh n m V j - 1))) = Lf n m g (mv (-1) p fun t => decide (p t - phigh n m V t = p j - phigh n m V j)) := L_congr G fun t ht => by
      have := hmin t ht rfl
      simp only [mv]
      by_cases r : p t - phigh n m V t = p j - phigh n m V j
      · simp only [r, decide_true, decide_false, Bool.and_true, Bool.and_false, Bool.true_and, Bool.false_and, Bool.or_true, Bool.or_false, Bool.true_or, Bool.false_or, if_true, if_false, eq_self, Bool.false_eq_true, decide_eq_true_eq]; omega
      · simp only [r, decide_true, decide_false, Bool.and_true, Bool.and_false, Bool.true_and, Bool.false_and, Bool.or_true, Bool.or_false, Bool.true_or, Bool.false_or, if_true, if_false, eq_self, Bool.false_eq_true, decide_eq_true_eq]; omega
    rw [e1, e2] at l
    have up := h.le (fun t => decide (p t - phigh n m V t = p j - phigh n m V j)) (fun t ht => by
      have := phigh_nonneg R t
      have := hle t ht
      simp only [mv]
      by_cases r : p t - phigh n m V t = p j - phigh n m V j
      · simp only [r, decide_true, decide_false, Bool.and_true, Bool.and_false, Bool.true_and, Bool.false_and, Bool.or_true, Bool.or_false, Bool.true_or, Bool.false_or, if_true, if_false, eq_self, Bool.false_eq_true, decide_eq_true_eq]; omega
      · simp only [r, decide_true, decide_false, Bool.and_true, Bool.and_false, Bool.true_and, Bool.false_and, Bool.or_true, Bool.or_false, Bool.true_or, Bool.false_or, if_true, if_false, eq_self, Bool.false_eq_true, decide_eq_true_eq]; omega)
    rw [mv_none] at up
    have hhigh := phigh_meets R G
    have := le_phigh R G (q := mv 1 (phigh n m V) fun t => decide (p t - phigh n m V t = p j - phigh n m V j)) (fun t ht => by
      have := phigh_nonneg R t
      simp only [mv]
      split <;> omega) (by omega) hj
    simp only [mv] at this
    simp at this
    omega

/-! ### one hand more -/
theorem Reps.fewer (R : Reps (n + 1) m V a c k) : Reps n m V a c k := fun i hi => R i (by omega)
theorem Gains.fewer (G : Gains (n + 1) m V g) : Gains n m V g := fun i hi => G i (by omega)
theorem Lf_more (p : Nat → Int) : Lf (n + 1) m g p = Lf n m g p + g n p := by
  show (sumN n (fun i => g i p) + g n p) + sumN m p = (sumN n (fun i => g i p) + sumN m p) + g n p
  omega
theorem low_more (R : Reps (n + 1) m V a c k) (G : Gains (n + 1) m V g) : ∀ t, t < m → plow n m V t ≤ plow (n + 1) m V t := by
  have R0 := R.fewer
  have G0 := Gains.fewer G
  have l := L_lat R0 G0 (plow n m V) (plow (n + 1) m V)
  have h1 := plow_meets R0 G0
  have h2 := plow_meets R G
  have h3 := Lf_ge R G (q := fun t => max (plow n m V t) (plow (n + 1) m V t)) (fun t _ => by
    have := plow_nonneg R t
    omega)
  have h4 := g_anti (G n (by omega)) (p := plow (n + 1) m V) (q := fun t => max (plow n m V t) (plow (n + 1) m V t)) (fun t _ => by omega)
  have h5 := Lf_ge R0 G0 (q := plow n m V) fun t _ => plow_nonneg R0 t
  rw [Lf_more] at h2 h3
  intro t ht
  have := plow_le R0 G0 (q := fun t => min (plow n m V t) (plow (n + 1) m V t)) (fun t _ => by
    have := plow_nonneg R t
    have := plow_nonneg R0 t
    omega) (by omega) ht
  omega
theorem high_more (R : Reps (n + 1) m V a c k) (G : Gains (n + 1) m V g) : ∀ t, t < m → phigh n m V t ≤ phigh (n + 1) m V t := by
  have R0 := R.fewer
  have G0 := Gains.fewer G
  have l := L_lat R0 G0 (phigh n m V) (phigh (n + 1) m V)
  have h1 := phigh_meets R0 G0
  have h2 := phigh_meets R G
  have h3 := Lf_ge R0 G0 (q := fun t => min (phigh n m V t) (phigh (n + 1) m V t)) (fun t _ => by
    have := phigh_nonneg R t
    have := phigh_nonneg R0 t
    omega)
  have h4 := g_anti (G n (by omega)) (p := phigh (n + 1) m V) (q := fun t => max (phigh n m V t) (phigh (n + 1) m V t)) (fun t _ => by omega)
  intro t ht
  have := le_phigh R G (q := fun t => max (phigh n m V t) (phigh (n + 1) m V t)) (fun t _ => by
    have := phigh_nonneg R t
    omega) (by rw [Lf_more] at h2 ⊢; omega) ht
  omega
theorem W_more_ge (R : Reps (n + 1) m V a c k) : W n m V one ≤ W (n + 1) m V one := by
  obtain ⟨S, hS, e⟩ := W_att R.fewer (one_nonneg m)
  rw [← e]
  have h : tot (n + 1) V (fun i => if i = n then fun _ => false else S i) = tot n V S := by
    show sumN n (fun i => V i (if i = n then fun _ => false else S i)) + V n (if n = n then fun _ => false else S n) = _
    rw [if_pos rfl, (R n (by omega)).empty]
    have : sumN n (fun i => V i (if i = n then fun _ => false else S i)) = tot n V S := sumN_congr fun i hi => by rw [if_neg (show ¬ i = n by omega)]
    omega
  rw [← h]
  refine W_ge R fun t ht => ?_
  have h2 : cntT (n + 1) (fun i => if i = n then fun _ => false else S i) t = cntT n S t := by
    show sumN n (fun i => ind ((if i = n then fun _ => false else S i : St1) t)) + ind ((if n = n then fun _ => false else S n : St1) t) = _
    rw [if_pos rfl, ind_false]
    have : sumN n (fun i => ind ((if i = n then fun _ => false else S i : St1) t)) = cntT n S t := sumN_congr fun i hi => by rw [if_neg (show ¬ i = n by omega)]
    omega
  rw [h2]
  exact hS t ht
theorem W_more_le (R : Reps (n + 1) m V a c k) (G : Gains (n + 1) m V g) : W (n + 1) m V one ≤ W n m V one + g n (plow n m V) := by
  have h1 := plow_meets R.fewer (Gains.fewer G)
  have h2 := Lf_ge R G (q := plow n m V) fun t _ => plow_nonneg R.fewer t
  rw [Lf_more] at h2
  omega
/-- no high price is above what all things are worth to the hand to which they are worth most -/
theorem high_top (R : Reps n m V a c k) {top : Int} (h0 : 0 ≤ top) (ht : ∀ i, i < n → V i (fun _ => true) ≤ top) {j : Nat} (hj : j < m) : phigh n m V j ≤ top := by
  obtain ⟨S, hS, e⟩ := W_att R (one_nonneg m)
  unfold phigh
  by_cases hc : cntT n S j ≤ 0
  · have := W_ge (x := fun t => one t - e1 j t) R (S := S) fun t ht => by
      show cntT n S t ≤ one t - e1 j t
      by_cases e : t = j
      · subst e; rw [e1_same]; show cntT n S t ≤ 1 - 1; omega
      · rw [e1_ne e]; have := hS t ht; omega
    omega
  · obtain ⟨i, hi, q⟩ := sumN_pos (n := n) (f := fun i => ind (S i j)) (by show 0 < cntT n S j; omega)
    have hij : S i j = true := by
      cases e : S i j with
      | true => rfl
      | false => rw [e] at q; exact absurd q (by decide)
    have := W_ge (x := fun t => one t - e1 j t) R (S := fun i' => if i' = i then fun _ => false else S i') fun t ht => by
      have hcz : cntT n (fun i' => if i' = i then fun _ => false else S i') t = cntT n S t - ind (S i t) := by
        unfold cntT
        rw [sumN_change (f := fun i => ind (S i t)) (g := fun i' => ind ((if i' = i then fun _ => false else S i' : St1) t)) hi (fun i' _ hne => by
          show ind ((if i' = i then fun _ => false else S i' : St1) t) = ind (S i' t)
          rw [if_neg hne])]
        show _ - _ + ind ((if i = i then fun _ => false else S i : St1) t) = _
        rw [if_pos rfl, ind_false]; omega
      rw [hcz]
      have h1 := hS t ht
      have h2 := ind_nonneg (S i t)
      have h3 : one t = 1 := rfl
      show _ ≤ one t - e1 j t
      by_cases e : t = j
      · subst e; rw [e1_same, hij, ind_true]; omega
      · rw [e1_ne e]; omega
    have hv : tot n V (fun i' => if i' = i then fun _ => false else S i') = tot n V S - V i (S i) := by
      unfold tot
      rw [sumN_change (f := fun i => V i (S i)) (g := fun i' => V i' (if i' = i then fun _ => false else S i')) hi (fun i' _ hne => by
        show V i' (if i' = i then fun _ => false else S i') = V i' (S i')
        rw [if_neg hne])]
      show _ - _ + V i (if i = i then fun _ => false else S i) = _
      rw [if_pos rfl, (R i hi).empty]; omega
    have h1 := (R i hi).mono (S := S i) (T := fun _ => true) fun _ _ _ => rfl
    have h2 := ht i hi
    omega
end
end K98
set_option Elab.async false
set_option linter.all false
/-! K98 mathematics, part E: tables by heap numbers, gains, steps. -/
namespace K98

/-! ### heaps as numbers -/
def mask : Nat → St1 → Nat
  | 0, _ => 0
  | m + 1, S => mask m S + if S m then 2 ^ m else 0
theorem mask_lt (m : Nat) (S : St1) : mask m S < 2 ^ m := by
  induction m with
  | zero => exact Nat.lt_of_lt_of_le (by decide : 0 < 1) (Nat.le_refl 1)
  | succ m ih =>
    show mask m S + (if S m then 2 ^ m else 0) < 2 ^ (m + 1)
    rw [Nat.pow_succ]
    split <;> omega
theorem mask_bit (m : Nat) (S : St1) (t : Nat) : (mask m S).testBit t = (decide (t < m) && S t) := by
  induction m with
  | zero =>
    show (0 : Nat).testBit t = _
    rw [Nat.zero_testBit, decide_eq_false (by omega)]; rfl
  | succ m ih =>
    show (mask m S + (if S m then 2 ^ m else 0)).testBit t = _
    have hl := mask_lt m S
    cases e : S m with
    | false =>
      rw [if_neg Bool.false_ne_true, Nat.add_zero, ih]
      by_cases h : t = m
      · subst h
        rw [e, Bool.and_false, Bool.and_false]
      · by_cases h2 : t < m
        · rw [decide_eq_true h2, decide_eq_true (by omega)]
        · rw [decide_eq_false h2, decide_eq_false (by omega)]
    | true =>
      rw [if_pos rfl, Nat.add_comm]
      by_cases h : t = m
      · subst h
        rw [Nat.testBit_two_pow_add_eq, ih, e, decide_eq_false (Nat.lt_irrefl _), decide_eq_true (by omega)]
        rfl
      · by_cases h2 : t < m
        · rw [Nat.testBit_two_pow_add_gt h2, ih, decide_eq_true h2, decide_eq_true (by omega)]
        · rw [decide_eq_false (by omega), Bool.false_and]
          refine Nat.testBit_lt_two_pow ?_
          have : 2 ^ (m + 1) ≤ 2 ^ t := Nat.pow_le_pow_right (by decide) (by omega)
          rw [Nat.pow_succ] at this
          omega
theorem mask_at {m t : Nat} (S : St1) (h : t < m) : (mask m S).testBit t = S t := by
  rw [mask_bit, decide_eq_true h, Bool.true_and]
theorem mask_of {m h : Nat} (hh : h < 2 ^ m) : mask m h.testBit = h := by
  refine Nat.eq_of_testBit_eq fun t => ?_
  rw [mask_bit]
  by_cases q : t < m
  · rw [decide_eq_true q, Bool.true_and]
  · rw [decide_eq_false q, Bool.false_and]
    exact (Nat.testBit_lt_two_pow (Nat.lt_of_lt_of_le hh (Nat.pow_le_pow_right (by decide) (by omega)))).symm
theorem mask_congr {m : Nat} {S T : St1} (h : ∀ t, t < m → S t = T t) : mask m S = mask m T := by
  refine Nat.eq_of_testBit_eq fun t => ?_
  rw [mask_bit, mask_bit]
  by_cases q : t < m
  · rw [h t q]
  · rw [decide_eq_false q]; rfl

/-! ### tables -/
def tabAt (tab : List Int) (h : Nat) : Int := tab.getD h 0
def tv (tab : List Int) (m : Nat) (S : St1) : Int := tabAt tab (mask m S)
theorem tabAt_of {tab : List Int} {h : Nat} {x : Int} (e : tab[h]? = some x) : tabAt tab h = x := by
  unfold tabAt
  rw [List.getD_eq_getElem?_getD, e]; rfl
theorem tab_get {tab : List Int} {h : Nat} (l : h < tab.length) : tab[h]? = some (tabAt tab h) := by
  unfold tabAt
  rw [List.getD_eq_getElem?_getD, List.getElem?_eq_getElem l]; rfl
theorem tabAt_app1 {a b : List Int} {h : Nat} (l : h < a.length) : tabAt (a ++ b) h = tabAt a h := by
  refine tabAt_of ?_
  rw [List.getElem?_append_left l]; exact tab_get l
theorem tabAt_app2 {a b : List Int} {h : Nat} (l : a.length ≤ h) : tabAt (a ++ b) h = tabAt b (h - a.length) := by
  unfold tabAt
  rw [List.getD_eq_getElem?_getD, List.getD_eq_getElem?_getD, List.getElem?_append_right l]
theorem tabAt_map {a : List Int} {f : Int → Int} {h : Nat} (l : h < a.length) : tabAt (a.map f) h = f (tabAt a h) := by
  refine tabAt_of ?_
  rw [List.getElem?_map, tab_get l]; rfl

/-- the costs of all heaps -/
def costsF : Nat → (Nat → Int) → List Int
  | 0, _ => [0]
  | m + 1, p => costsF m p ++ (costsF m p).map fun c => c + p m
theorem costsF_len (m : Nat) (p : Nat → Int) : (costsF m p).length = 2 ^ m := by
  induction m with
  | zero => rfl
  | succ m ih =>
    show (costsF m p ++ (costsF m p).map fun c => c + p m).length = 2 ^ (m + 1)
    rw [List.length_append, List.length_map, ih, Nat.pow_succ]; omega
theorem costsF_at (m : Nat) (p : Nat → Int) (S : St1) : tabAt (costsF m p) (mask m S) = cost m p S := by
  induction m with
  | zero => rfl
  | succ m ih =>
    have hl := mask_lt m S
    show tabAt (costsF m p ++ (costsF m p).map fun c => c + p m) (mask m S + if S m then 2 ^ m else 0) = cost m p S + if S m then p m else 0
    cases e : S m with
    | false =>
      rw [if_neg Bool.false_ne_true, if_neg Bool.false_ne_true, Nat.add_zero, tabAt_app1 (by rw [costsF_len]; exact hl), ih]; omega
    | true =>
      rw [if_pos rfl, if_pos rfl, tabAt_app2 (by rw [costsF_len]; omega), costsF_len, Nat.add_sub_cancel, tabAt_map (by rw [costsF_len]; exact hl), ih]
theorem costsF_congr {m : Nat} {p q : Nat → Int} (h : ∀ t, t < m → p t = q t) : costsF m p = costsF m q := by
  induction m with
  | zero => rfl
  | succ m ih =>
    show costsF m p ++ (costsF m p).map (fun c => c + p m) = costsF m q ++ (costsF m q).map (fun c => c + q m)
    rw [ih (fun t ht => h t (by omega)), h m (by omega)]

/-- the greatest of a list -/
def maxL : List Int → Int
  | [] => 0
  | [x] => x
  | x :: y :: r => max x (maxL (y :: r))
theorem maxL_mem : ∀ {l : List Int}, l ≠ [] → maxL l ∈ l
  | [], h => absurd rfl h
  | [x], _ => List.mem_singleton.mpr rfl
  | x :: y :: r, _ => by
    have ih := maxL_mem (l := y :: r) (List.cons_ne_nil _ _)
    show max x (maxL (y :: r)) ∈ x :: y :: r
    by_cases h : x ≤ maxL (y :: r)
    · rw [Int.max_eq_right h]
      exact List.mem_cons_of_mem _ ih
    · rw [Int.max_eq_left (by omega)]
      exact List.mem_cons_self
theorem maxL_ge : ∀ {l : List Int} {x : Int}, x ∈ l → x ≤ maxL l
  | [], _, h => by cases h
  | [y], x, h => by rw [List.mem_singleton.mp h]; exact Int.le_refl _
  | y :: z :: r, x, h => by
    show x ≤ max y (maxL (z :: r))
    rcases List.mem_cons.mp h with e | e
    · rw [e]; omega
    · have := maxL_ge (l := z :: r) e
      omega
theorem maxL_eq {l : List Int} {v : Int} (h : v ∈ l) (hl : ∀ x, x ∈ l → x ≤ v) : v = maxL l :=
  Int.le_antisymm (maxL_ge h) (hl _ (maxL_mem fun e => by rw [e] at h; cases h))

def gainsL (tab : List Int) (m : Nat) (p : Nat → Int) : List Int := List.zipWith (fun w c => w - c) tab (costsF m p)
def ggain (tab : List Int) (m : Nat) (p : Nat → Int) : Int := maxL (gainsL tab m p)
theorem gainsL_len {tab : List Int} {m : Nat} (h : tab.length = 2 ^ m) (p : Nat → Int) : (gainsL tab m p).length = 2 ^ m := by
  unfold gainsL
  rw [List.length_zipWith, h, costsF_len, Nat.min_self]
theorem gainsL_at {tab : List Int} {m : Nat} (h : tab.length = 2 ^ m) (p : Nat → Int) (S : St1) : (gainsL tab m p)[mask m S]? = some (tv tab m S - cost m p S) := by
  have hl := mask_lt m S
  unfold gainsL
  rw [List.getElem?_zipWith, tab_get (by rw [h]; exact hl), tab_get (by rw [costsF_len]; exact hl), costsF_at]
  rfl
theorem gain_tab {tab : List Int} {m : Nat} (h : tab.length = 2 ^ m) : Gain m (tv tab m) (ggain tab m) where
  att := fun p => by
    have hne : gainsL tab m p ≠ [] := fun e => by
      have := gainsL_len h p
      rw [e] at this
      have : 0 < 2 ^ m := Nat.two_pow_pos m
      simp at *
      omega
    obtain ⟨i, hi, e⟩ := List.getElem_of_mem (maxL_mem hne)
    rw [gainsL_len h] at hi
    refine ⟨i.testBit, ?_⟩
    have q := gainsL_at h p i.testBit
    rw [mask_of hi, List.getElem?_eq_getElem (by rw [gainsL_len h]; exact hi), e] at q
    exact Option.some.inj q
  ge := fun p S => maxL_ge (List.mem_of_getElem? (gainsL_at h p S))

/-! ### towns -/
def wt (wants : List (List Int)) (i : Nat) : List Int := wants.getD i []
def VV (m : Nat) (wants : List (List Int)) (i : Nat) (S : St1) : Int := tv (wt wants i) m S
def gg (m : Nat) (wants : List (List Int)) (i : Nat) (p : Nat → Int) : Int := ggain (wt wants i) m p
theorem wt_mem {wants : List (List Int)} {i : Nat} (h : i < wants.length) : wt wants i ∈ wants := by
  unfold wt
  rw [List.getD_eq_getElem?_getD, List.getElem?_eq_getElem h]
  exact List.getElem_mem h
theorem sum_map_wt (f : List Int → Int) : ∀ wants : List (List Int), (wants.map f).sum = sumN wants.length fun i => f (wt wants i) := by
  have key : ∀ (n : Nat) (wants : List (List Int)), wants.length = n → (wants.map f).sum = sumN n fun i => f (wt wants i) := by
    intro n
    induction n with
    | zero =>
      intro wants h
      rw [List.length_eq_zero_iff.mp h]; rfl
    | succ n ih =>
      intro wants h
      have hne : wants ≠ [] := fun e => by rw [e] at h; cases h
      have e := List.dropLast_concat_getLast hne
      have hd : wants.dropLast.length = n := by rw [List.length_dropLast, h]; rfl
      have h1 := ih wants.dropLast hd
      show _ = sumN n _ + f (wt wants n)
      have h2 : sumN n (fun i => f (wt wants i)) = sumN n (fun i => f (wt wants.dropLast i)) := sumN_congr fun i hi => by
        have : wt wants i = wt wants.dropLast i := by
          conv => lhs; rw [← e]
          unfold wt
          rw [List.getD_eq_getElem?_getD, List.getD_eq_getElem?_getD, List.getElem?_append_left (by rw [hd]; exact hi)]
        rw [this]
      have h3 : wt wants n = wants.getLast hne := by
        conv => lhs; rw [← e]
        unfold wt
        rw [List.getD_eq_getElem?_getD, List.getElem?_append_right (by rw [hd]; exact Nat.le_refl _), hd, Nat.sub_self]
        rfl
      rw [h2, ← h1, h3]
      conv => lhs; rw [← e]
      rw [List.map_append, List.sum_append]
      show _ + (f (wants.getLast hne) + 0) = _
      omega
  exact fun wants => key _ wants rfl
/-- prices as a function -/
def pf (ps : List Int) (t : Nat) : Int := ps.getD t 0
theorem pf_get {ps : List Int} {t : Nat} (h : t < ps.length) : ps[t]? = some (pf ps t) := by
  unfold pf
  rw [List.getD_eq_getElem?_getD, List.getElem?_eq_getElem h]; rfl
theorem sum_pf : ∀ ps : List Int, ps.sum = sumN ps.length (pf ps) := by
  have key : ∀ (n : Nat) (ps : List Int), ps.length = n → ps.sum = sumN n (pf ps) := by
    intro n
    induction n with
    | zero =>
      intro ps h
      rw [List.length_eq_zero_iff.mp h]; rfl
    | succ n ih =>
      intro ps h
      have hne : ps ≠ [] := fun e => by rw [e] at h; cases h
      have e := List.dropLast_concat_getLast hne
      have hd : ps.dropLast.length = n := by rw [List.length_dropLast, h]; rfl
      have h1 := ih ps.dropLast hd
      show _ = sumN n _ + pf ps n
      have h2 : sumN n (pf ps) = sumN n (pf ps.dropLast) := sumN_congr fun i hi => by
        conv => lhs; rw [← e]
        unfold pf
        rw [List.getD_eq_getElem?_getD, List.getD_eq_getElem?_getD, List.getElem?_append_left (by rw [hd]; exact hi)]
      have h3 : pf ps n = ps.getLast hne := by
        conv => lhs; rw [← e]
        unfold pf
        rw [List.getD_eq_getElem?_getD, List.getElem?_append_right (by rw [hd]; exact Nat.le_refl _), hd, Nat.sub_self]
        rfl
      rw [h2, ← h1, h3]
      conv => lhs; rw [← e]
      rw [List.sum_append]
      show _ + (ps.getLast hne + 0) = _
      omega
  exact fun ps => key _ ps rfl
/-- all gains and all prices together -/
def payL (wants : List (List Int)) (ps : List Int) : Int := (wants.map fun tab => ggain tab ps.length (pf ps)).sum + ps.sum
theorem payL_eq (wants : List (List Int)) (ps : List Int) : payL wants ps = Lf wants.length ps.length (gg ps.length wants) (pf ps) := by
  unfold payL Lf
  rw [sum_map_wt, sum_pf]; rfl

/-- prices behind a step -/
def stepL (ps : List Int) (h : Nat) (w : Int) : List Int := (List.range ps.length).map fun t => pf ps t + if h.testBit t then w else 0
theorem stepL_len (ps : List Int) (h : Nat) (w : Int) : (stepL ps h w).length = ps.length := by
  unfold stepL
  rw [List.length_map, List.length_range]
theorem stepL_at {ps : List Int} {h : Nat} {w : Int} {t : Nat} (ht : t < ps.length) : pf (stepL ps h w) t = mv w (pf ps) h.testBit t := by
  have : (stepL ps h w)[t]? = some (mv w (pf ps) h.testBit t) := by
    unfold stepL
    rw [List.getElem?_map, List.getElem?_range ht]; rfl
  unfold pf at *
  rw [List.getD_eq_getElem?_getD, this]; rfl

/-! ### the heap of a step -/
def okL (ps : List Int) : Bool := ps.all fun x => decide (0 ≤ x)
/-- (the least so far, the heap so far) behind i heaps -/
def lst (wants : List (List Int)) (ps : List Int) (w : Int) : Nat → Option Int × Nat
  | 0 => (none, 0)
  | i + 1 =>
    let r := lst wants ps w i
    let b := stepL ps i w
    if okL b then
      match r.1 with
      | none => (some (payL wants b), i)
      | some l => if payL wants b < l then (some (payL wants b), i) else if payL wants b = l then (some l, r.2 &&& i) else r
    else r
def leastL (wants : List (List Int)) (ps : List Int) (w : Int) : Nat := (lst wants ps w (2 ^ ps.length)).2

section
variable {wants : List (List Int)} {ps : List Int} {w : Int}
/-- what holds behind i heaps -/
def LstInv (wants : List (List Int)) (ps : List Int) (w : Int) (i : Nat) (r : Option Int × Nat) : Prop :=
  match r.1 with
  | none => r.2 = 0 ∧ ∀ X, X < i → okL (stepL ps X w) = false
  | some l => (∀ X, X < i → okL (stepL ps X w) = true → l ≤ payL wants (stepL ps X w)) ∧
      (∀ P : Nat → Prop, (∀ X, X < i → okL (stepL ps X w) = true → payL wants (stepL ps X w) = l → P X) → (∀ X Y, P X → P Y → P (X &&& Y)) → P r.2) ∧
      (∀ X, X < i → okL (stepL ps X w) = true → payL wants (stepL ps X w) = l → ∀ t, r.2.testBit t = true → X.testBit t = true)
theorem lst_inv : ∀ i, LstInv wants ps w i (lst wants ps w i)
  | 0 => ⟨rfl, fun X h => absurd h (Nat.not_lt_zero _)⟩
  | i + 1 => by
    have ih := lst_inv i
    show LstInv wants ps w (i + 1) (if okL (stepL ps i w) then
      match (lst wants ps w i).1 with
      | none => (some (payL wants (stepL ps i w)), i)
      | some l => if payL wants (stepL ps i w) < l then (some (payL wants (stepL ps i w)), i) else if payL wants (stepL ps i w) = l then (some l, (lst wants ps w i).2 &&& i) else lst wants ps w i
      else lst wants ps w i)
    generalize lst wants ps w i = r at ih
    obtain ⟨o, f⟩ := r
    cases ok : okL (stepL ps i w) with
    | false =>
      rw [if_neg Bool.false_ne_true]
      cases o with
      | none =>
        obtain ⟨h1, h2⟩ := ih
        refine ⟨h1, fun X hX => ?_⟩
        by_cases e : X = i
        · rw [e]; exact ok
        · exact h2 X (by omega)
      | some l =>
        obtain ⟨h1, h2, h3⟩ := ih
        refine ⟨fun X hX q => ?_, fun P hP hc => h2 P (fun X hX => hP X (by omega)) hc, fun X hX q => ?_⟩
        · by_cases e : X = i
          · rw [e, ok] at q; cases q
          · exact h1 X (by omega) q
        · by_cases e : X = i
          · rw [e, ok] at q; cases q
          · exact h3 X (by omega) q
    | true =>
      rw [if_pos rfl]
      cases o with
      | none =>
        obtain ⟨_, h2⟩ := ih
        have only : ∀ X, X < i + 1 → okL (stepL ps X w) = true → X = i := fun X hX q => by
          by_cases e : X = i
          · exact e
          · rw [h2 X (by omega)] at q; cases q
        refine ⟨fun X hX q => ?_, fun P hP _ => hP i (by omega) ok rfl, fun X hX q _ t ht => ?_⟩
        · rw [only X hX q]; exact Int.le_refl _
        · rw [only X hX q]; exact ht
      | some l =>
        obtain ⟨h1, h2, h3⟩ := ih
        show LstInv wants ps w (i + 1) (if payL wants (stepL ps i w) < l then (some (payL wants (stepL ps i w)), i) else if payL wants (stepL ps i w) = l then (some l, f &&& i) else (some l, f))
        by_cases lt : payL wants (stepL ps i w) < l
        · rw [if_pos lt]
          have only : ∀ X, X < i + 1 → okL (stepL ps X w) = true → payL wants (stepL ps X w) = payL wants (stepL ps i w) → X = i := fun X hX q e' => by
            by_cases e : X = i
            · exact e
            · have := h1 X (by omega) q
              omega
          refine ⟨fun X hX q => ?_, fun P hP _ => hP i (by omega) ok rfl, fun X hX q e t ht => ?_⟩
          · by_cases e : X = i
            · rw [e]; exact Int.le_refl _
            · have := h1 X (by omega) q
              omega
          · rw [only X hX q e]; exact ht
        · rw [if_neg lt]
          by_cases eq : payL wants (stepL ps i w) = l
          · rw [if_pos eq]
            refine ⟨fun X hX q => ?_, fun P hP hc => hc _ _ (h2 P (fun X hX => hP X (by omega)) hc) (hP i (by omega) ok eq), fun X hX q e t ht => ?_⟩
            · by_cases e : X = i
              · rw [e, eq]; exact Int.le_refl _
              · exact h1 X (by omega) q
            · have ht' : (f &&& i).testBit t = true := ht
              rw [Nat.testBit_and] at ht'
              obtain ⟨t1, t2⟩ := Bool.and_eq_true_iff.mp ht'
              by_cases e' : X = i
              · rw [e']; exact t2
              · exact h3 X (by omega) q e t t1
          · rw [if_neg eq]
            refine ⟨fun X hX q => ?_, fun P hP hc => h2 P (fun X hX => hP X (by omega)) hc, fun X hX q e t ht => ?_⟩
            · by_cases e : X = i
              · rw [e]; omega
              · exact h1 X (by omega) q
            · by_cases e' : X = i
              · rw [e'] at e; exact absurd e eq
              · exact h3 X (by omega) q e t ht

theorem okL_fe {m : Nat} (hm : ps.length = m) (X : St1) : okL (stepL ps (mask m X) w) = true ↔ Fe m w (pf ps) X := by
  subst hm
  unfold okL
  rw [List.all_eq_true]
  constructor
  · intro h t ht
    have q := h _ (List.mem_of_getElem? (pf_get (ps := stepL ps (mask ps.length X) w) (t := t) (by rw [stepL_len]; exact ht)))
    rw [decide_eq_true_eq, stepL_at ht] at q
    have e : mv w (pf ps) (mask ps.length X).testBit t = mv w (pf ps) X t := by
      unfold mv
      rw [mask_at X ht]
    rw [e] at q
    exact q
  · intro h x hx
    obtain ⟨t, ht, e⟩ := List.getElem_of_mem hx
    rw [stepL_len] at ht
    have q := pf_get (ps := stepL ps (mask ps.length X) w) (t := t) (by rw [stepL_len]; exact ht)
    rw [List.getElem?_eq_getElem (by rw [stepL_len]; exact ht), e, stepL_at ht] at q
    rw [decide_eq_true_eq, Option.some.inj q]
    have := h t ht
    unfold mv at *
    rw [mask_at X ht]; exact this
theorem pay_mv {n m : Nat} (hm : ps.length = m) (hn : wants.length = n) (G : Gains n m (VV m wants) (gg m wants)) (X : St1) :
    payL wants (stepL ps (mask m X) w) = Lf n m (gg m wants) (mv w (pf ps) X) := by
  subst hm hn
  rw [payL_eq, stepL_len]
  refine L_congr G fun t ht => ?_
  rw [stepL_at ht]
  unfold mv
  rw [mask_at X ht]
/-- the heap that is found is a step -/
theorem leastL_step {n m : Nat} {a c : Nat → Nat → Int} {k : Nat → Int} (hm : ps.length = m) (hn : wants.length = n) (R : Reps n m (VV m wants) a c k) (G : Gains n m (VV m wants) (gg m wants)) (hw : w = 1 ∨ w = -1) (hp : ∀ t, t < m → 0 ≤ pf ps t) :
    IsStep n m (gg m wants) w (pf ps) (leastL wants ps w).testBit ∧ leastL wants ps w < 2 ^ m := by
  have inv := lst_inv (wants := wants) (ps := ps) (w := w) (2 ^ m)
  have e : leastL wants ps w = (lst wants ps w (2 ^ m)).2 := by unfold leastL; rw [hm]
  rw [e]
  generalize lst wants ps w (2 ^ m) = r at inv
  obtain ⟨o, f⟩ := r
  have f0 : Fe m w (pf ps) fun _ => false := fun t ht => by
    rw [mv_none]; exact hp t ht
  cases o with
  | none =>
    exfalso
    have := inv.2 (mask m fun _ => false) (mask_lt _ _)
    rw [(okL_fe hm _).mpr f0] at this
    cases this
  | some l =>
    obtain ⟨h1, h2, h3⟩ := inv
    have hge : ∀ Z, Fe m w (pf ps) Z → l ≤ Lf n m (gg m wants) (mv w (pf ps) Z) := fun Z hZ => by
      have := h1 (mask m Z) (mask_lt _ _) ((okL_fe hm Z).mpr hZ)
      rw [pay_mv hm hn G] at this
      exact this
    have conv : ∀ X : Nat, X < 2 ^ m → okL (stepL ps X w) = true → payL wants (stepL ps X w) = l → Fe m w (pf ps) X.testBit ∧ Lf n m (gg m wants) (mv w (pf ps) X.testBit) = l := fun X hX q e' => by
      rw [← mask_of hX] at q e'
      rw [pay_mv hm hn G] at e'
      exact ⟨(okL_fe hm _).mp q, e'⟩
    obtain ⟨b1, b2, b3⟩ := h2 (fun X => X < 2 ^ m ∧ Fe m w (pf ps) X.testBit ∧ Lf n m (gg m wants) (mv w (pf ps) X.testBit) = l) (fun X hX q e' => ⟨hX, conv X hX q e'⟩) (fun X Y hX hY => by
      obtain ⟨q1, q2⟩ := inter_best R G hw hX.2.1 hY.2.1 hX.2.2 hY.2.2 hge
      have e' : (X &&& Y).testBit = fun t => X.testBit t && Y.testBit t := funext fun t => Nat.testBit_and _ _ _
      rw [e']
      exact ⟨Nat.lt_of_le_of_lt Nat.and_le_left hX.1, q1, q2⟩)
    refine ⟨⟨b2, fun X hX => ?_, fun X hX hle => ?_⟩, b1⟩
    · show Lf n m (gg m wants) (mv w (pf ps) f.testBit) ≤ _
      rw [b3]; exact hge X hX
    · have hle' : Lf n m (gg m wants) (mv w (pf ps) X) ≤ Lf n m (gg m wants) (mv w (pf ps) f.testBit) := hle
      rw [b3] at hle'
      intro t ht q
      have := h3 (mask m X) (mask_lt _ _) ((okL_fe hm X).mpr hX) (by rw [pay_mv hm hn G]; have := hge X hX; omega) t q
      rw [mask_at X ht] at this
      exact this
end
end K98
set_option Elab.async false
set_option linter.all false
/-! K98 mathematics, part F: the greatest sums by heaps, a thing doubled, low and high prices as the program reckons them. -/
namespace K98

/-- heaps within a heap: from part downwards -/
def hwAux : Nat → Nat → Nat → List Nat
  | 0, _, _ => []
  | n + 1, part, h => if part = 0 then [] else part :: hwAux n ((part - 1) &&& h) h
def hwL (h : Nat) : List Nat := 0 :: hwAux 64 h h
theorem hw_all : ∀ h, h < 64 → ∀ x, x < 64 → (x ∈ hwL h ↔ x &&& h = x) := by decide +kernel
theorem hw_lt : ∀ h, h < 64 → ∀ x ∈ hwL h, x < 64 := by decide +kernel
theorem hw_mem {h x : Nat} (hh : h < 64) : x ∈ hwL h ↔ x &&& h = x := by
  constructor
  · intro q
    exact (hw_all h hh x (hw_lt h hh x q)).mp q
  · intro q
    refine (hw_all h hh x ?_).mpr q
    rw [← q]
    exact Nat.lt_of_le_of_lt Nat.and_le_right hh

/-- one want more -/
def sbStep (m : Nat) (found : List Int) (want : List Int) : List Int :=
  (List.range (2 ^ m)).map fun h => maxL ((hwL h).map fun part => tabAt found (h - part) + tabAt want part)
def sbh (wants : List (List Int)) (m : Nat) : List Int := wants.foldl (sbStep m) (List.replicate (2 ^ m) 0)
theorem sbStep_len (m : Nat) (f w : List Int) : (sbStep m f w).length = 2 ^ m := by
  unfold sbStep
  rw [List.length_map, List.length_range]
theorem sbh_len (wants : List (List Int)) (m : Nat) : (sbh wants m).length = 2 ^ m := by
  unfold sbh
  have : ∀ (l : List (List Int)) (f : List Int), f.length = 2 ^ m → (l.foldl (sbStep m) f).length = 2 ^ m := by
    intro l
    induction l with
    | nil => exact fun f h => h
    | cons w r ih => exact fun f _ => ih _ (sbStep_len m f w)
  exact this _ _ List.length_replicate
theorem sbStep_at {m h : Nat} (hh : h < 2 ^ m) (f w : List Int) : tabAt (sbStep m f w) h = maxL ((hwL h).map fun part => tabAt f (h - part) + tabAt w part) := by
  refine tabAt_of ?_
  unfold sbStep
  rw [List.getElem?_map, List.getElem?_range hh]; rfl

/-- bits of a heap less a part of it -/
theorem sub_xor : ∀ h, h < 64 → ∀ x, x < 64 → x &&& h = x → h - x = h ^^^ x := by decide +kernel
theorem sub_bits {h x : Nat} (h64 : h < 64) (q : x &&& h = x) (t : Nat) : (h - x).testBit t = (h.testBit t && !x.testBit t) := by
  rw [sub_xor h h64 x (by rw [← q]; exact Nat.lt_of_le_of_lt Nat.and_le_right h64) q, Nat.testBit_xor]
  have := congrArg (fun y => y.testBit t) q
  simp only [Nat.testBit_and] at this
  revert this
  cases h.testBit t <;> cases x.testBit t <;> decide

section
variable {m : Nat} {wants : List (List Int)}
/-- what the table of sums tells of the first n hands -/
structure SumsOk (m n : Nat) (V : Nat → St1 → Int) (tab : List Int) : Prop where
  ge : ∀ h, h < 2 ^ m → ∀ S : Bt, feas n m S (fun t => ind (h.testBit t)) → tot n V S ≤ tabAt tab h
  att : ∀ h, h < 2 ^ m → ∃ S : Bt, feas n m S (fun t => ind (h.testBit t)) ∧ tot n V S = tabAt tab h
theorem sums_step {m n : Nat} (hm : m ≤ 6) {V : Nat → St1 → Int} {tab want : List Int} (hV : V n = tv want m) (s : SumsOk m n V tab) : SumsOk m (n + 1) V (sbStep m tab want) where
  ge := fun h hh S hS => by
    rw [sbStep_at hh]
    have h64 : h < 64 := Nat.lt_of_lt_of_le hh (Nat.pow_le_pow_right (n := 2) (by decide) hm)
    have hb : ∀ t, t < m → S n t = true → h.testBit t = true := fun t ht q => by
      have h1 : sumN n (fun i => ind (S i t)) + ind (S n t) ≤ ind (h.testBit t) := hS t ht
      have h2 : 0 ≤ sumN n (fun i => ind (S i t)) := sumN_nonneg fun _ _ => ind_nonneg _
      rw [q, ind_true] at h1
      cases e : h.testBit t with
      | true => rfl
      | false => rw [e, ind_false] at h1; omega
    have hx : mask m (S n) &&& h = mask m (S n) := Nat.eq_of_testBit_eq fun t => by
      rw [Nat.testBit_and, mask_bit]
      by_cases ht : t < m
      · rw [decide_eq_true ht, Bool.true_and]
        cases e : S n t with
        | false => rfl
        | true => rw [hb t ht e]; rfl
      · rw [decide_eq_false ht]; rfl
    have h1 := s.ge (h - mask m (S n)) (by omega) S fun t ht => by
      show sumN n (fun i => ind (S i t)) ≤ ind ((h - mask m (S n)).testBit t)
      rw [sub_bits h64 hx, mask_at (S n) ht]
      have h1 : sumN n (fun i => ind (S i t)) + ind (S n t) ≤ ind (h.testBit t) := hS t ht
      cases e : S n t with
      | false => rw [e, ind_false] at h1; rw [Bool.not_false, Bool.and_true]; omega
      | true =>
        rw [e, ind_true] at h1
        have := ind_le_one (h.testBit t)
        rw [Bool.not_true, Bool.and_false, ind_false]; omega
    have h2 : tot (n + 1) V S = tot n V S + tabAt want (mask m (S n)) := by
      show tot n V S + V n (S n) = _
      rw [hV]; rfl
    rw [h2]
    exact Int.le_trans (Int.add_le_add_right h1 _) (maxL_ge (List.mem_map.mpr ⟨mask m (S n), (hw_mem h64).mpr hx, rfl⟩))
  att := fun h hh => by
    rw [sbStep_at hh]
    have h64 : h < 64 := Nat.lt_of_lt_of_le hh (Nat.pow_le_pow_right (n := 2) (by decide) hm)
    have hne : ((hwL h).map fun part => tabAt tab (h - part) + tabAt want part) ≠ [] := by
      unfold hwL
      rw [List.map_cons]
      exact List.cons_ne_nil _ _
    obtain ⟨x, hx, e⟩ := List.mem_map.mp (maxL_mem hne)
    have q := (hw_mem h64).mp hx
    have hx2 : x < 2 ^ m := Nat.lt_of_le_of_lt (by rw [← q]; exact Nat.and_le_right) hh
    obtain ⟨S, hS, eS⟩ := s.att (h - x) (by omega)
    refine ⟨fun i => if i = n then x.testBit else S i, fun t ht => ?_, ?_⟩
    · show sumN n (fun i => ind ((if i = n then x.testBit else S i : St1) t)) + ind ((if n = n then x.testBit else S n : St1) t) ≤ ind (h.testBit t)
      rw [if_pos rfl]
      have e1 : sumN n (fun i => ind ((if i = n then x.testBit else S i : St1) t)) = cntT n S t := sumN_congr fun i hi => by rw [if_neg (show ¬ i = n by omega)]
      have h1 : cntT n S t ≤ ind ((h - x).testBit t) := hS t ht
      rw [sub_bits h64 q] at h1
      rw [e1]
      have q' := congrArg (fun y => y.testBit t) q
      simp only [Nat.testBit_and] at q'
      cases e2 : x.testBit t with
      | false =>
        rw [e2, Bool.not_false, Bool.and_true] at h1
        rw [ind_false]; omega
      | true =>
        rw [e2, Bool.true_and] at q'
        rw [e2, Bool.not_true, Bool.and_false, ind_false] at h1
        rw [q', ind_true]; omega
    · show sumN n (fun i => V i (if i = n then x.testBit else S i)) + V n (if n = n then x.testBit else S n) = _
      rw [if_pos rfl, hV, ← e]
      have e1 : sumN n (fun i => V i (if i = n then x.testBit else S i)) = tot n V S := sumN_congr fun i hi => by rw [if_neg (show ¬ i = n by omega)]
      rw [e1, eS]
      show _ + tabAt want (mask m x.testBit) = _
      rw [mask_of hx2]
theorem sums_ok (hm : m ≤ 6) : ∀ n, n ≤ wants.length → SumsOk m n (VV m wants) (sbh (wants.take n) m)
  | 0, _ => by
    have e : ∀ h, h < 2 ^ m → tabAt (sbh (wants.take 0) m) h = 0 := fun h hh => tabAt_of (by
      show (List.replicate (2 ^ m) (0 : Int))[h]? = some 0
      rw [List.getElem?_replicate, if_pos hh])
    exact ⟨fun h hh S _ => by rw [e h hh]; exact Int.le_refl _, fun h hh => ⟨fun _ _ => false, fun t _ => ind_nonneg _, by rw [e h hh]; rfl⟩⟩
  | n + 1, hn => by
    have e : sbh (wants.take (n + 1)) m = sbStep m (sbh (wants.take n) m) (wt wants n) := by
      unfold sbh wt
      rw [List.take_add_one, List.getElem?_eq_getElem (by omega : n < wants.length), List.foldl_append, List.getD_eq_getElem?_getD, List.getElem?_eq_getElem (by omega : n < wants.length)]
      rfl
    rw [e]
    exact sums_step hm rfl (sums_ok hm n (by omega))
theorem sums_all (hm : m ≤ 6) (wants : List (List Int)) : SumsOk m wants.length (VV m wants) (sbh wants m) := by
  have := sums_ok (wants := wants) hm wants.length (Nat.le_refl _)
  rw [List.take_length] at this
  exact this
theorem sums_W {n : Nat} {a c : Nat → Nat → Int} {k : Nat → Int} {V : Nat → St1 → Int} (R : Reps n m V a c k) {tab : List Int} (s : SumsOk m n V tab) {h : Nat} (hh : h < 2 ^ m) :
    W n m V (fun t => ind (h.testBit t)) = tabAt tab h := by
  obtain ⟨S, hS, e⟩ := s.att h hh
  obtain ⟨T, hT, eT⟩ := W_att (x := fun t => ind (h.testBit t)) R fun t _ => ind_nonneg _
  have h1 := W_ge R hS
  have h2 := s.ge h hh T hT
  omega

/-! ### the program's sums -/
def greatL (wants : List (List Int)) (m : Nat) : Int := tabAt (sbh wants m) (2 ^ m - 1)
def greatOf (wants : List (List Int)) (m h : Nat) : Int := tabAt (sbh wants m) h
def doubledL (tab : List Int) (m j : Nat) : List Int := tab ++ (List.range (2 ^ m)).map fun h => tabAt tab (h ||| 2 ^ j)
def twoL (wants : List (List Int)) (m j : Nat) : Int := tabAt (sbh (wants.map fun tab => doubledL tab m j) (m + 1)) (2 ^ (m + 1) - 1)
def leastP (wants : List (List Int)) (m j : Nat) : Int := twoL wants m j - greatL wants m
def greatP (wants : List (List Int)) (m j : Nat) : Int := greatL wants m - greatOf wants m (2 ^ m - 1 - 2 ^ j)

theorem great_W {a c : Nat → Nat → Int} {k : Nat → Int} (hm : m ≤ 5) (R : Reps wants.length m (VV m wants) a c k) : greatL wants m = W wants.length m (VV m wants) one := by
  have hp : 0 < 2 ^ m := Nat.two_pow_pos m
  unfold greatL
  rw [← sums_W R (sums_all (by omega) wants) (h := 2 ^ m - 1) (by omega)]
  refine W_congr R (fun t _ => ind_nonneg _) fun t ht => ?_
  show ind ((2 ^ m - 1).testBit t) = 1
  rw [Nat.testBit_two_pow_sub_one, decide_eq_true ht]; rfl
theorem bits_without {m j : Nat} (hm : m ≤ 5) (hj : j < m) (t : Nat) : (2 ^ m - 1 - 2 ^ j).testBit t = (decide (t < m) && !decide (j = t)) := by
  have q : 2 ^ j &&& (2 ^ m - 1) = 2 ^ j := Nat.eq_of_testBit_eq fun t => by
    rw [Nat.testBit_and, Nat.testBit_two_pow_sub_one, Nat.testBit_two_pow]
    by_cases e : j = t
    · subst e; rw [decide_eq_true hj]; simp
    · rw [decide_eq_false e]; rfl
  have h5 : 2 ^ m ≤ 2 ^ 5 := Nat.pow_le_pow_right (by decide) hm
  rw [sub_bits (by omega) q, Nat.testBit_two_pow_sub_one, Nat.testBit_two_pow]
theorem greatP_W {a c : Nat → Nat → Int} {k : Nat → Int} (hm : m ≤ 5) (R : Reps wants.length m (VV m wants) a c k) {j : Nat} (hj : j < m) : greatP wants m j = phigh wants.length m (VV m wants) j := by
  have hp : 0 < 2 ^ m := Nat.two_pow_pos m
  unfold greatP phigh greatOf
  rw [great_W hm R, ← sums_W R (sums_all (by omega) wants) (h := 2 ^ m - 1 - 2 ^ j) (by
    have : 0 < 2 ^ m := Nat.two_pow_pos m
    exact Nat.lt_of_le_of_lt (Nat.sub_le _ _) (by omega))]
  congr 1
  refine W_congr R (fun t _ => ind_nonneg _) fun t ht => ?_
  show ind ((2 ^ m - 1 - 2 ^ j).testBit t) = 1 - e1 j t
  rw [bits_without hm hj, decide_eq_true ht, Bool.true_and]
  by_cases e : t = j
  · subst e; rw [e1_same, decide_eq_true rfl]; rfl
  · rw [e1_ne e, decide_eq_false (fun q => e q.symm)]; rfl

/-! ### a thing doubled -/
def proj (m j : Nat) (S : St1) : St1 := fun t => S t || (decide (t = j) && S m)
theorem doubled_at {tab : List Int} {m j : Nat} (h : tab.length = 2 ^ m) (hj : j < m) (S : St1) : tv (doubledL tab m j) (m + 1) S = tv tab m (proj m j S) := by
  have hl := mask_lt m S
  show tabAt (doubledL tab m j) (mask m S + if S m then 2 ^ m else 0) = tabAt tab (mask m (proj m j S))
  unfold doubledL
  cases e : S m with
  | false =>
    rw [if_neg Bool.false_ne_true, Nat.add_zero, tabAt_app1 (by rw [h]; exact hl)]
    refine congrArg _ (mask_congr fun t _ => ?_)
    unfold proj
    rw [e, Bool.and_false, Bool.or_false]
  | true =>
    rw [if_pos rfl, tabAt_app2 (by rw [h]; omega), h, Nat.add_sub_cancel]
    have q : tabAt ((List.range (2 ^ m)).map fun h => tabAt tab (h ||| 2 ^ j)) (mask m S) = tabAt tab (mask m S ||| 2 ^ j) := tabAt_of (by
      rw [List.getElem?_map, List.getElem?_range hl]; rfl)
    rw [q]
    refine congrArg _ (Nat.eq_of_testBit_eq fun t => ?_)
    rw [Nat.testBit_or, mask_bit, mask_bit, Nat.testBit_two_pow]
    unfold proj
    rw [e, Bool.and_true]
    by_cases ht : t < m
    · rw [decide_eq_true ht, Bool.true_and, Bool.true_and]
      by_cases e2 : t = j
      · rw [decide_eq_true e2, decide_eq_true e2.symm]
      · rw [decide_eq_false e2, decide_eq_false (fun q => e2 q.symm)]
    · rw [decide_eq_false ht, Bool.false_and, Bool.false_and, decide_eq_false (by omega)]; rfl
theorem wt_map {f : List Int → List Int} {i : Nat} (hi : i < wants.length) : wt (wants.map f) i = f (wt wants i) := by
  unfold wt
  rw [List.getD_eq_getElem?_getD, List.getD_eq_getElem?_getD, List.getElem?_map, List.getElem?_eq_getElem hi]; rfl
/-- how many of the hands ahead of i have the thing j -/
theorem cntT_mono {n n' : Nat} (h : n ≤ n') (S : Bt) (t : Nat) : cntT n S t ≤ cntT n' S t := by
  induction n' with
  | zero => rw [show n = 0 by omega]; exact Int.le_refl _
  | succ n' ih =>
    by_cases e : n = n' + 1
    · rw [e]; exact Int.le_refl _
    · have := ih (by omega)
      have h2 := ind_nonneg (S n' t)
      show cntT n S t ≤ cntT n' S t + ind (S n' t)
      omega
theorem first_cnt (S : Bt) (j n : Nat) : sumN n (fun i => ind (S i j && decide (cntT i S j ≤ 0))) = min 1 (cntT n S j) ∧ sumN n (fun i => ind (S i j && !decide (cntT i S j ≤ 0))) = cntT n S j - min 1 (cntT n S j) := by
  induction n with
  | zero => exact ⟨rfl, rfl⟩
  | succ n ih =>
    have h0 : 0 ≤ cntT n S j := sumN_nonneg fun _ _ => ind_nonneg _
    have e : cntT (n + 1) S j = cntT n S j + ind (S n j) := rfl
    constructor
    · show sumN n _ + ind (S n j && decide (cntT n S j ≤ 0)) = _
      rw [ih.1, e]
      cases S n j
      · rw [Bool.false_and, ind_false]; omega
      · rw [Bool.true_and, ind_true]
        by_cases q : cntT n S j ≤ 0
        · rw [decide_eq_true q, ind_true]; omega
        · rw [decide_eq_false q, ind_false]; omega
    · show sumN n _ + ind (S n j && !decide (cntT n S j ≤ 0)) = _
      rw [ih.2, e]
      cases S n j
      · rw [Bool.false_and, ind_false]; omega
      · rw [Bool.true_and, ind_true]
        by_cases q : cntT n S j ≤ 0
        · rw [decide_eq_true q, Bool.not_true, ind_false]; omega
        · rw [decide_eq_false q, Bool.not_false, ind_true]; omega
theorem two_W {a c : Nat → Nat → Int} {k : Nat → Int} (hm : m ≤ 5) (hl : ∀ i, i < wants.length → (wt wants i).length = 2 ^ m) (R : Reps wants.length m (VV m wants) a c k) {j : Nat} (hj : j < m) :
    twoL wants m j = W wants.length m (VV m wants) (fun t => one t + e1 j t) := by
  have hp : 0 < 2 ^ (m + 1) := Nat.two_pow_pos (m + 1)
  have s := sums_all (m := m + 1) (by omega) (wants.map fun tab => doubledL tab m j)
  rw [List.length_map] at s
  have eV : ∀ i, i < wants.length → ∀ S : St1, VV (m + 1) (wants.map fun tab => doubledL tab m j) i S = VV m wants i (proj m j S) := fun i hi S => by
    unfold VV
    rw [wt_map hi]
    exact doubled_at (hl i hi) hj S
  have eB : ∀ t, t < m + 1 → ind ((2 ^ (m + 1) - 1).testBit t) = 1 := fun t ht => by
    rw [Nat.testBit_two_pow_sub_one, decide_eq_true ht]; rfl
  unfold twoL
  refine Int.le_antisymm ?_ ?_
  · obtain ⟨S, hS, e⟩ := s.att (2 ^ (m + 1) - 1) (by omega)
    rw [← e]
    have e2 : tot wants.length (VV (m + 1) (wants.map fun tab => doubledL tab m j)) S = tot wants.length (VV m wants) (fun i => proj m j (S i)) := sumN_congr fun i hi => eV i hi (S i)
    rw [e2]
    refine W_ge R fun t ht => ?_
    show cntT wants.length (fun i => proj m j (S i)) t ≤ one t + e1 j t
    have h1 : cntT wants.length S t ≤ 1 := by
      have := hS t (by omega)
      dsimp only at this
      rw [eB t (by omega)] at this
      exact this
    have h2 : cntT wants.length S m ≤ 1 := by
      have := hS m (by omega)
      dsimp only at this
      rw [eB m (by omega)] at this
      exact this
    have h3 : cntT wants.length (fun i => proj m j (S i)) t ≤ cntT wants.length S t + if t = j then cntT wants.length S m else 0 := by
      by_cases e3 : t = j
      · rw [if_pos e3]
        unfold cntT
        rw [← sumN_add]
        refine sumN_le fun i _ => ?_
        show ind (S i t || decide (t = j) && S i m) ≤ _
        rw [decide_eq_true e3, Bool.true_and]
        cases S i t <;> cases S i m <;> decide
      · rw [if_neg e3]
        unfold cntT
        rw [Int.add_zero]
        refine sumN_le fun i _ => ?_
        show ind (S i t || decide (t = j) && S i m) ≤ _
        rw [decide_eq_false e3, Bool.false_and, Bool.or_false]
        exact Int.le_refl _
    have h4 : one t = 1 := rfl
    unfold e1
    by_cases e3 : t = j
    · rw [if_pos e3] at h3 ⊢; omega
    · rw [if_neg e3] at h3 ⊢; omega
  · obtain ⟨S, hS, e⟩ := W_att (x := fun t => one t + e1 j t) R (add_nonneg m j)
    rw [← e]
    let S' : Bt := fun i t => if t = m then S i j && !decide (cntT i S j ≤ 0) else if t = j then S i j && decide (cntT i S j ≤ 0) else S i t
    have ep : ∀ i t, t < m → proj m j (S' i) t = S i t := fun i t ht => by
      show ((if t = m then _ else if t = j then _ else S i t) || (decide (t = j) && (if m = m then S i j && !decide (cntT i S j ≤ 0) else _))) = S i t
      rw [if_neg (by omega), if_pos rfl]
      by_cases e3 : t = j
      · rw [if_pos e3, decide_eq_true e3, Bool.true_and, e3]
        cases S i j <;> cases decide (cntT i S j ≤ 0) <;> rfl
      · rw [if_neg e3, decide_eq_false e3, Bool.false_and, Bool.or_false]
    have ev : tot wants.length (VV m wants) S = tot wants.length (VV (m + 1) (wants.map fun tab => doubledL tab m j)) S' := sumN_congr fun i hi => by
      rw [eV i hi]
      exact (R i hi).congr fun t ht => (ep i t ht).symm
    rw [ev]
    refine s.ge _ (by omega) S' fun t ht => ?_
    show cntT wants.length S' t ≤ ind ((2 ^ (m + 1) - 1).testBit t)
    rw [eB t ht]
    have hSj : cntT wants.length S j ≤ 2 := by
      have := hS j hj
      rw [show (fun t => one t + e1 j t) j = 1 + e1 j j from rfl, e1_same] at this
      exact this
    have fc := first_cnt S j wants.length
    by_cases e3 : t = m
    · have : cntT wants.length S' t = sumN wants.length (fun i => ind (S i j && !decide (cntT i S j ≤ 0))) := sumN_congr fun i _ => by
        show ind (if t = m then _ else _) = _
        rw [if_pos e3]
      rw [this, fc.2]; omega
    · by_cases e4 : t = j
      · have : cntT wants.length S' t = sumN wants.length (fun i => ind (S i j && decide (cntT i S j ≤ 0))) := sumN_congr fun i _ => by
          show ind (if t = m then _ else if t = j then _ else _) = _
          rw [if_neg e3, if_pos e4]
        rw [this, fc.1]; omega
      · have : cntT wants.length S' t = cntT wants.length S t := sumN_congr fun i _ => by
          show ind (if t = m then _ else if t = j then _ else S i t) = _
          rw [if_neg e3, if_neg e4]
        have h1 := hS t (by omega)
        rw [show (fun t => one t + e1 j t) t = 1 + e1 j t from rfl, e1_ne e4] at h1
        rw [this]; omega
theorem leastP_W {a c : Nat → Nat → Int} {k : Nat → Int} (hm : m ≤ 5) (hl : ∀ i, i < wants.length → (wt wants i).length = 2 ^ m) (R : Reps wants.length m (VV m wants) a c k) {j : Nat} (hj : j < m) :
    leastP wants m j = plow wants.length m (VV m wants) j := by
  unfold leastP plow
  rw [two_W hm hl R hj, great_W hm R]
end
end K98
set_option Elab.async false
set_option linter.all false
/-! K98 mathematics, part G: the law's wants, kinds, and what the law asks, over tables. -/
namespace K98

/-! ### the k greatest of a list -/
def lsum (f : Int → Int) (l : List Int) : Int := (l.map f).sum
theorem lsum_cons (f : Int → Int) (x : Int) (l : List Int) : lsum f (x :: l) = f x + lsum f l := by
  unfold lsum
  rw [List.map_cons, List.sum_cons]
theorem lsum_perm (f : Int → Int) {l l' : List Int} (h : l.Perm l') : lsum f l = lsum f l' := by
  induction h with
  | nil => rfl
  | cons x _ ih => rw [lsum_cons, lsum_cons, ih]
  | swap x y l => rw [lsum_cons, lsum_cons, lsum_cons, lsum_cons]; omega
  | trans _ _ h1 h2 => rw [h1, h2]
theorem take_le (th : Int) (h : 0 ≤ th) : ∀ (k : Nat) (l : List Int), (l.take k).sum ≤ (k : Int) * th + lsum (fun x => max 0 (x - th)) l
  | 0, l => by
    have : 0 ≤ lsum (fun x => max 0 (x - th)) l := by
      induction l with
      | nil => exact Int.le_refl _
      | cons x l ih => rw [lsum_cons]; omega
    show (0 : Int) ≤ ((0 : Nat) : Int) * th + _
    rw [show (((0 : Nat) : Int)) = 0 from rfl, Int.zero_mul]; omega
  | k + 1, [] => by
    show (0 : Int) ≤ ((k + 1 : Nat) : Int) * th + 0
    have := Int.mul_nonneg (show (0 : Int) ≤ ((k + 1 : Nat) : Int) by omega) h
    omega
  | k + 1, x :: l => by
    have ih := take_le th h k l
    rw [List.take_succ_cons, List.sum_cons, lsum_cons]
    have e : ((k + 1 : Nat) : Int) * th = (k : Int) * th + th := by rw [Int.natCast_add, Int.add_mul]; show _ + 1 * th = _; rw [Int.one_mul]
    rw [e]; omega
theorem take_at : ∀ (k : Nat) (l : List Int), l.Pairwise (fun x y => y ≤ x) → (∀ x ∈ l, 0 ≤ x) → ∃ th, 0 ≤ th ∧ (th = 0 ∨ th ∈ l) ∧ (l.take k).sum = (k : Int) * th + lsum (fun x => max 0 (x - th)) l
  | k, [], _, _ => ⟨0, Int.le_refl _, .inl rfl, by
    rw [List.take_nil, Int.mul_zero]; rfl⟩
  | 0, x :: l, h, h0 => by
    refine ⟨x, h0 x List.mem_cons_self, .inr List.mem_cons_self, ?_⟩
    have : ∀ l' : List Int, (∀ y ∈ l', y ≤ x) → lsum (fun y => max 0 (y - x)) l' = 0 := by
      intro l' hl
      induction l' with
      | nil => rfl
      | cons y l' ih =>
        rw [lsum_cons, ih fun z hz => hl z (List.mem_cons_of_mem _ hz)]
        have := hl y List.mem_cons_self
        omega
    rw [this (x :: l) fun y hy => by
      rcases List.mem_cons.mp hy with e | e
      · rw [e]; exact Int.le_refl _
      · exact (List.pairwise_cons.mp h).1 y e]
    show (0 : Int) = ((0 : Nat) : Int) * x + 0
    rw [show (((0 : Nat) : Int)) = 0 from rfl, Int.zero_mul]; rfl
  | k + 1, x :: l, h, h0 => by
    obtain ⟨hx, hl⟩ := List.pairwise_cons.mp h
    obtain ⟨th, t0, tm, e⟩ := take_at k l hl fun y hy => h0 y (List.mem_cons_of_mem _ hy)
    have hle : th ≤ x := by
      rcases tm with q | q
      · rw [q]; exact h0 x List.mem_cons_self
      · exact hx _ q
    refine ⟨th, t0, tm.elim .inl (fun q => .inr (List.mem_cons_of_mem _ q)), ?_⟩
    rw [List.take_succ_cons, List.sum_cons, lsum_cons, e]
    have e2 : ((k + 1 : Nat) : Int) * th = (k : Int) * th + th := by rw [Int.natCast_add, Int.add_mul]; show _ + 1 * th = _; rw [Int.one_mul]
    rw [e2]; omega

/-! ### the law's wants -/
def hereL (m : Nat) (ws : Nat → Int) (h : Nat) : List Int := ((List.range m).filter fun t => h.testBit t).map ws
theorem hereL_sum (f : Int → Int) (ws : Nat → Int) (h m : Nat) : lsum f (hereL m ws h) = sumN m fun t => if h.testBit t then f (ws t) else 0 := by
  induction m with
  | zero => rfl
  | succ m ih =>
    have e : hereL (m + 1) ws h = hereL m ws h ++ (if h.testBit m then [ws m] else []) := by
      unfold hereL
      rw [List.range_succ, List.filter_append, List.map_append]
      cases e : h.testBit m <;> simp [e]
    rw [e]
    show lsum f _ = sumN m (fun t => if h.testBit t then f (ws t) else 0) + (if h.testBit m then f (ws m) else 0)
    rw [← ih]
    unfold lsum
    rw [List.map_append, List.sum_append]
    cases h.testBit m <;> simp
structure SomeTab (m : Nat) (ws : Nat → Int) (k : Nat) (tab : List Int) : Prop where
  len : tab.length = 2 ^ m
  at_ : ∀ h, h < 2 ^ m → ∃ l : List Int, l.Perm (hereL m ws h) ∧ l.Pairwise (fun x y => x ≤ y) ∧ tabAt tab h = (l.reverse.take k).sum
/-- a table that the law makes: of things alone, and bonuses -/
structure GoodTab (m : Nat) (tab : List Int) : Prop where
  len : tab.length = 2 ^ m
  rep : ∃ (a c : Nat → Int) (k : Int), Rep m (tv tab m) a c k ∧ ∀ t, t < m → a t ≤ 8 ∧ c t ≤ 8
theorem rep_alone {m : Nat} {ws : Nat → Int} (h0 : ∀ t, t < m → 0 ≤ ws t) : Rep m (tv (costsF m ws) m) ws (fun _ => 0) 0 where
  a0 := h0
  c0 := fun _ _ => Int.le_refl _
  k0 := Int.le_refl _
  up := fun S => ⟨fun _ => false, fun _ _ q => absurd q Bool.false_ne_true, by
    show sumN m (fun _ => 0) ≤ 0
    rw [sumN_zero]; exact Int.le_refl _, by
    show tabAt (costsF m ws) (mask m S) ≤ _
    rw [costsF_at]
    refine sumN_le fun t _ => ?_
    cases S t <;> simp⟩
  lo := fun S B _ _ => by
    show _ ≤ tabAt (costsF m ws) (mask m S)
    rw [costsF_at]
    refine sumN_le fun t _ => ?_
    cases S t <;> cases B t <;> simp
theorem rep_some {m : Nat} {ws : Nat → Int} {k : Nat} {tab : List Int} (h0 : ∀ t, t < m → 0 ≤ ws t) (s : SomeTab m ws k tab) : Rep m (tv tab m) (fun _ => 0) ws k where
  a0 := fun _ _ => Int.le_refl _
  c0 := h0
  k0 := by omega
  up := fun S => by
    obtain ⟨th, B, t0, hc, hin, hout, hz⟩ := top_k (be := fun t => if S t then ws t else 0) (k := (k : Int)) (by omega) m (fun t ht => by
      show (0 : Int) ≤ if S t then ws t else 0
      have := h0 t ht
      split <;> omega)
    obtain ⟨l, hp, hs, e⟩ := s.at_ (mask m S) (mask_lt m S)
    refine ⟨fun t => B t && S t, fun t _ q => (Bool.and_eq_true_iff.mp q).2, Int.le_trans (sumN_le fun t _ => by
      show ind (B t && S t) ≤ ind (B t)
      cases B t
      · exact Int.le_refl _
      · exact ind_le_one _) hc, ?_⟩
    show tabAt tab (mask m S) ≤ _
    rw [e]
    have h1 := take_le th t0 k l.reverse
    rw [lsum_perm _ ((List.reverse_perm l).trans hp), hereL_sum] at h1
    have h2 : (sumN m fun t => if (mask m S).testBit t then max 0 (ws t - th) else 0) + th * cnt m B ≤ valSB m (fun _ => 0) ws S (fun t => B t && S t) := by
      unfold valSB cnt
      rw [← sumN_mul, ← sumN_add]
      refine sumN_le fun t ht => ?_
      rw [mask_at S ht]
      have q0 := h0 t ht
      have q1 := hin t ht
      have q2 := hout t ht
      cases eB : B t <;> cases eS : S t <;> simp only [eB, eS, ind_true, ind_false, Bool.and_true, Bool.and_false, if_true, if_false, Bool.false_eq_true, eq_self, true_implies, false_implies] at q1 q2 ⊢ <;> omega
    have h3 : (k : Int) * th = th * cnt m B := by
      rcases hz with q | q
      · rw [q]; omega
      · rw [q, Int.mul_comm]
    omega
  lo := fun S B hB hc => by
    obtain ⟨l, hp, hs, e⟩ := s.at_ (mask m S) (mask_lt m S)
    obtain ⟨th, t0, _, e2⟩ := take_at k l.reverse (List.pairwise_reverse.mpr hs) fun x hx => by
      have : x ∈ hereL m ws (mask m S) := hp.mem_iff.mp (List.mem_reverse.mp hx)
      obtain ⟨t, ht, rfl⟩ := List.mem_map.mp this
      exact h0 t (List.mem_range.mp (List.mem_filter.mp ht).1)
    show _ ≤ tabAt tab (mask m S)
    rw [e, e2, lsum_perm _ ((List.reverse_perm l).trans hp), hereL_sum]
    have h2 : valSB m (fun _ => 0) ws S B ≤ (sumN m fun t => if (mask m S).testBit t then max 0 (ws t - th) else 0) + th * cnt m B := by
      unfold valSB cnt
      rw [← sumN_mul, ← sumN_add]
      refine sumN_le fun t ht => ?_
      rw [mask_at S ht]
      have q := hB t ht
      cases eB : B t <;> cases eS : S t <;> simp only [eB, eS, ind_true, ind_false, if_true, if_false, Bool.false_eq_true, eq_self, true_implies, false_implies] at q ⊢ <;> omega
    have h3 : th * cnt m B ≤ (k : Int) * th := by
      rw [Int.mul_comm (k : Int) th]
      exact Int.mul_le_mul_of_nonneg_left hc t0
    omega

/-- heaps within a heap, rising -/
def partsL (h : Nat) : List Nat := (List.range (h + 1)).filter fun p => p &&& h == p
theorem parts_mem {h x : Nat} : x ∈ partsL h ↔ x &&& h = x := by
  unfold partsL
  rw [List.mem_filter, List.mem_range, beq_iff_eq]
  constructor
  · exact fun q => q.2
  · intro q
    refine ⟨?_, q⟩
    have : x &&& h ≤ h := Nat.and_le_right
    omega
def joinedL (one other : List Int) : List Int := (List.range one.length).map fun h => maxL ((partsL h).map fun part => tabAt one part + tabAt other (h - part))
theorem joined_at {m : Nat} {one other : List Int} (hl : one.length = 2 ^ m) {h : Nat} (hh : h < 2 ^ m) : tabAt (joinedL one other) h = maxL ((partsL h).map fun part => tabAt one part + tabAt other (h - part)) := by
  refine tabAt_of ?_
  unfold joinedL
  rw [List.getElem?_map, List.getElem?_range (by rw [hl]; exact hh)]; rfl
theorem joined_ge {m : Nat} (hm : m ≤ 6) {one other : List Int} (hl : one.length = 2 ^ m) (S P : St1) : tv one m (fun t => S t && P t) + tv other m (fun t => S t && !P t) ≤ tv (joinedL one other) m S := by
  show _ ≤ tabAt (joinedL one other) (mask m S)
  have hlt := mask_lt m S
  have h64 : mask m S < 64 := Nat.lt_of_lt_of_le hlt (Nat.pow_le_pow_right (n := 2) (by decide) hm)
  rw [joined_at hl hlt]
  have q : mask m (fun t => S t && P t) &&& mask m S = mask m (fun t => S t && P t) := Nat.eq_of_testBit_eq fun t => by
    rw [Nat.testBit_and, mask_bit, mask_bit]
    cases decide (t < m) <;> cases S t <;> cases P t <;> rfl
  have e : mask m S - mask m (fun t => S t && P t) = mask m (fun t => S t && !P t) := Nat.eq_of_testBit_eq fun t => by
    rw [sub_bits h64 q, mask_bit, mask_bit, mask_bit]
    cases decide (t < m) <;> cases S t <;> cases P t <;> rfl
  refine maxL_ge (List.mem_map.mpr ⟨_, parts_mem.mpr q, ?_⟩)
  show tabAt one _ + tabAt other _ = _
  rw [e]; rfl
theorem joined_att {m : Nat} (hm : m ≤ 6) {one other : List Int} (hl : one.length = 2 ^ m) (S : St1) : ∃ P : St1, tv (joinedL one other) m S = tv one m (fun t => S t && P t) + tv other m (fun t => S t && !P t) := by
  have hlt := mask_lt m S
  have h64 : mask m S < 64 := Nat.lt_of_lt_of_le hlt (Nat.pow_le_pow_right (n := 2) (by decide) hm)
  have hne : ((partsL (mask m S)).map fun part => tabAt one part + tabAt other (mask m S - part)) ≠ [] := fun e => by
    have : (0 : Nat) ∈ partsL (mask m S) := parts_mem.mpr (Nat.zero_and _)
    rw [List.map_eq_nil_iff] at e
    rw [e] at this
    cases this
  obtain ⟨x, hx, e⟩ := List.mem_map.mp (maxL_mem hne)
  have q := parts_mem.mp hx
  refine ⟨x.testBit, ?_⟩
  show tabAt (joinedL one other) (mask m S) = _
  rw [joined_at hl hlt, ← e]
  have e1 : x = mask m (fun t => S t && x.testBit t) := Nat.eq_of_testBit_eq fun t => by
    rw [mask_bit]
    have := congrArg (fun y => y.testBit t) q
    simp only [Nat.testBit_and, mask_bit] at this
    revert this
    cases x.testBit t <;> cases decide (t < m) <;> cases S t <;> decide
  have e2 : mask m S - x = mask m (fun t => S t && !x.testBit t) := Nat.eq_of_testBit_eq fun t => by
    rw [sub_bits h64 q, mask_bit, mask_bit]
    cases decide (t < m) <;> cases S t <;> cases x.testBit t <;> rfl
  show tabAt one x + tabAt other (mask m S - x) = tabAt one (mask m fun t => S t && x.testBit t) + tabAt other (mask m fun t => S t && !x.testBit t)
  rw [← e1, e2]
theorem rep_joined {m : Nat} (hm : m ≤ 6) {one other : List Int} {wa wb : Nat → Int} {k : Nat} (hl : one.length = 2 ^ m) (h0 : ∀ t, t < m → 0 ≤ wa t) (hb0 : ∀ t, t < m → 0 ≤ wb t) (eo : one = costsF m wa) (s : SomeTab m wb k other) :
    Rep m (tv (joinedL one other) m) wa (fun t => max 0 (wb t - wa t)) k := by
  have Ro := rep_some hb0 s
  have ea : ∀ S, tv one m S = cost m wa S := fun S => by
    rw [eo]; exact costsF_at m wa S
  have lo : ∀ S B, Sub m B S → cnt m B ≤ k → valSB m wa (fun t => max 0 (wb t - wa t)) S B ≤ tv (joinedL one other) m S := fun S B hB hc => by
    have h1 := joined_ge hm hl (other := other) S fun t => !(B t && decide (wa t < wb t))
    have h2 := Ro.lo (fun t => S t && !(!(B t && decide (wa t < wb t)))) (fun t => B t && decide (wa t < wb t)) (fun t ht q => by
        have q1 := (Bool.and_eq_true_iff.mp q).1
        show (S t && !(!(B t && decide (wa t < wb t)))) = true
        rw [Bool.not_not, hB t ht q1, Bool.true_and]; exact q)
      (Int.le_trans (sumN_le fun t _ => by
        show ind (B t && decide (wa t < wb t)) ≤ ind (B t)
        cases B t
        · exact Int.le_refl _
        · exact ind_le_one _) hc)
    rw [ea] at h1
    have h3 : valSB m wa (fun t => max 0 (wb t - wa t)) S B ≤ cost m wa (fun t => S t && !(B t && decide (wa t < wb t))) + valSB m (fun _ => 0) wb (fun t => S t && !(!(B t && decide (wa t < wb t)))) (fun t => B t && decide (wa t < wb t)) := by
      unfold valSB cost
      rw [← sumN_add]
      refine sumN_le fun t ht => ?_
      have q := hB t ht
      by_cases lt : wa t < wb t
      · cases eB : B t <;> cases eS : S t <;> simp only [eB, eS, lt, decide_true, Bool.and_true, Bool.and_false, Bool.true_and, Bool.false_and, Bool.not_true, Bool.not_false, if_true, if_false, Bool.false_eq_true, eq_self, true_implies, false_implies] at q ⊢ <;> omega
      · cases eB : B t <;> cases eS : S t <;> simp only [eB, eS, lt, decide_false, Bool.and_true, Bool.and_false, Bool.true_and, Bool.false_and, Bool.not_true, Bool.not_false, if_true, if_false, Bool.false_eq_true, eq_self, true_implies, false_implies] at q ⊢ <;> omega
    omega
  refine ⟨h0, fun t _ => by omega, by omega, fun S => ?_, lo⟩
  obtain ⟨P, e⟩ := joined_att hm hl (other := other) S
  obtain ⟨B, hB, hc, hv⟩ := Ro.up fun t => S t && !P t
  refine ⟨B, fun t ht q => (Bool.and_eq_true_iff.mp (hB t ht q)).1, hc, ?_⟩
  rw [e, ea]
  have h3 : cost m wa (fun t => S t && P t) + valSB m (fun _ => 0) wb (fun t => S t && !P t) B ≤ valSB m wa (fun t => max 0 (wb t - wa t)) S B := by
    unfold valSB cost
    rw [← sumN_add]
    refine sumN_le fun t ht => ?_
    have q := hB t ht
    have q0 := h0 t ht
    have q1 := hb0 t ht
    dsimp only at q
    cases eB : B t <;> cases eS : S t <;> cases eP : P t <;> simp only [eB, eS, eP, Bool.and_true, Bool.and_false, Bool.true_and, Bool.false_and, Bool.not_true, Bool.not_false, if_true, if_false, Bool.false_eq_true, eq_self, true_implies, false_implies] at q ⊢ <;> omega
  omega
theorem good_alone {m : Nat} {ws : Nat → Int} (h0 : ∀ t, t < m → 0 ≤ ws t ∧ ws t ≤ 8) : GoodTab m (costsF m ws) :=
  ⟨costsF_len m ws, ws, fun _ => 0, 0, rep_alone fun t ht => (h0 t ht).1, fun t ht => ⟨(h0 t ht).2, (by decide : (0 : Int) ≤ 8)⟩⟩
theorem good_some {m : Nat} {ws : Nat → Int} {k : Nat} {tab : List Int} (h0 : ∀ t, t < m → 0 ≤ ws t ∧ ws t ≤ 8) (s : SomeTab m ws k tab) : GoodTab m tab :=
  ⟨s.len, fun _ => 0, ws, k, rep_some (fun t ht => (h0 t ht).1) s, fun t ht => ⟨(by decide : (0 : Int) ≤ 8), (h0 t ht).2⟩⟩
theorem good_joined {m : Nat} (hm : m ≤ 6) {wa wb : Nat → Int} {k : Nat} {tab : List Int} (h0 : ∀ t, t < m → 0 ≤ wa t ∧ wa t ≤ 8) (hb0 : ∀ t, t < m → 0 ≤ wb t ∧ wb t ≤ 8) (s : SomeTab m wb k tab) : GoodTab m (joinedL (costsF m wa) tab) :=
  ⟨by unfold joinedL; rw [List.length_map, List.length_range, costsF_len], wa, fun t => max 0 (wb t - wa t), k, rep_joined hm (costsF_len m wa) (fun t ht => (h0 t ht).1) (fun t ht => (hb0 t ht).1) rfl s, fun t ht => by
    have := h0 t ht
    have := hb0 t ht
    refine ⟨this |>.1 |> fun _ => (h0 t ht).2, ?_⟩
    show max 0 (wb t - wa t) ≤ 8
    omega⟩

/-! ### kinds -/
section
variable {m : Nat} {V : St1 → Int} {a c : Nat → Int} {k : Int}
def wth (S : St1) (i : Nat) : St1 := fun t => S t || decide (t = i)
theorem exch1 (R : Rep m V a c k) (X Y : St1) {i : Nat} (hi : i < m) (hX : X i = true) (hY : Y i = false) :
    ∃ X' Y' : St1, V X + V Y ≤ V X' + V Y' ∧ (((∀ t, t < m → ind (X' t) ≤ ind (X t) - e1 i t) ∧ (∀ t, t < m → ind (Y' t) ≤ ind (Y t) + e1 i t)) ∨
      ∃ j, j < m ∧ X j = false ∧ Y j = true ∧ (∀ t, t < m → ind (X' t) ≤ ind (X t) - e1 i t + e1 j t) ∧ (∀ t, t < m → ind (Y' t) ≤ ind (Y t) + e1 i t - e1 j t)) := by
  have c1 : ∀ (S : Bt) t, cntT 1 S t = ind (S 0 t) := fun S t => by
    show 0 + ind (S 0 t) = _
    omega
  have t1 : ∀ S : Bt, tot 1 (fun _ => V) S = V (S 0) := fun S => by
    show 0 + V (S 0) = _
    omega
  obtain ⟨S', T', hv, q⟩ := exch (n := 1) (m := m) (V := fun _ => V) (a := fun _ => a) (c := fun _ => c) (k := fun _ => k) (fun _ _ => R) (x := fun t => ind (X t)) (y := fun t => ind (Y t)) (S := fun _ => X) (T := fun _ => Y)
    (fun t _ => by rw [c1]; exact Int.le_refl _) (fun t _ => by rw [c1]; exact Int.le_refl _) hi (by show ind (Y i) < ind (X i); rw [hX, hY]; decide)
  rw [t1, t1, t1, t1] at hv
  refine ⟨S' 0, T' 0, hv, ?_⟩
  rcases q with ⟨q1, q2⟩ | ⟨j, hj, hlt, q1, q2⟩
  · exact .inl ⟨fun t ht => by have := q1 t ht; rw [c1] at this; exact this, fun t ht => by have := q2 t ht; rw [c1] at this; exact this⟩
  · have hlt' : ind (X j) < ind (Y j) := hlt
    refine .inr ⟨j, hj, ?_, ?_, fun t ht => by have := q1 t ht; rw [c1] at this; exact this, fun t ht => by have := q2 t ht; rw [c1] at this; exact this⟩
    · cases e : X j with
      | false => rfl
      | true => rw [e, ind_true] at hlt'; have := ind_le_one (Y j); omega
    · cases e : Y j with
      | true => rfl
      | false => rw [e, ind_false] at hlt'; have := ind_nonneg (X j); omega
theorem sub_of_ind {m : Nat} {X Y : St1} (h : ∀ t, t < m → ind (X t) ≤ ind (Y t)) : Sub m X Y := fun t ht q => by
  have := h t ht
  rw [q, ind_true] at this
  cases e : Y t with
  | true => rfl
  | false => rw [e, ind_false] at this; omega
theorem ind_wth (S : St1) (i t : Nat) (h : S i = false) : ind (wth S i t) = ind (S t) + e1 i t := by
  unfold wth e1
  by_cases e : t = i
  · rw [if_pos e, decide_eq_true e, Bool.or_true, e, h]; rfl
  · rw [if_neg e, decide_eq_false e, Bool.or_false]; omega
theorem wth_ne {S : St1} {i t : Nat} (h : t ≠ i) : wth S i t = S t := by
  unfold wth
  rw [decide_eq_false h, Bool.or_false]
theorem wth_at (S : St1) (i : Nat) : wth S i i = true := by
  unfold wth
  rw [decide_eq_true rfl, Bool.or_true]
theorem pair_ok (R : Rep m V a c k) {S : St1} {i j : Nat} (hi : i < m) (hj : j < m) (hSi : S i = false) (hSj : S j = false) (hne : i ≠ j) :
    V (wth (wth S i) j) + V S ≤ V (wth S i) + V (wth S j) := by
  have e2 : ∀ t, ind (wth (wth S i) j t) = ind (S t) + e1 i t + e1 j t := fun t => by
    rw [ind_wth _ _ _ (by rw [wth_ne (fun e => hne e.symm)]; exact hSj), ind_wth _ _ _ hSi]
  obtain ⟨X', Y', hv, q⟩ := exch1 R (wth (wth S i) j) S hi (by rw [wth_ne hne]; exact wth_at S i) hSi
  rcases q with ⟨q1, q2⟩ | ⟨l, hl, hX, hY, _⟩
  · have m1 := R.mono (S := X') (T := wth S j) (sub_of_ind fun t ht => by
      have := q1 t ht
      rw [e2] at this
      rw [ind_wth _ _ _ hSj]; omega)
    have m2 := R.mono (S := Y') (T := wth S i) (sub_of_ind fun t ht => by
      have := q2 t ht
      rw [ind_wth _ _ _ hSi]; omega)
    omega
  · exfalso
    have := e2 l
    rw [hX, hY, ind_true, ind_false] at this
    have := e1_nonneg i l
    have := e1_nonneg j l
    omega
theorem three_ok (R : Rep m V a c k) {S : St1} {i j l : Nat} (hi : i < m) (hj : j < m) (hl : l < m) (hSi : S i = false) (hSj : S j = false) (hSl : S l = false) (hne : i ≠ j) (hli : l ≠ i) (hlj : l ≠ j) :
    V (wth (wth S i) j) + V (wth S l) ≤ V (wth (wth S i) l) + V (wth S j) ∨ V (wth (wth S i) j) + V (wth S l) ≤ V (wth (wth S j) l) + V (wth S i) := by
  have e2 : ∀ t, ind (wth (wth S i) j t) = ind (S t) + e1 i t + e1 j t := fun t => by
    rw [ind_wth _ _ _ (by rw [wth_ne (fun e => hne e.symm)]; exact hSj), ind_wth _ _ _ hSi]
  have e3 : ∀ t, ind (wth (wth S i) l t) = ind (S t) + e1 i t + e1 l t := fun t => by
    rw [ind_wth _ _ _ (by rw [wth_ne hli]; exact hSl), ind_wth _ _ _ hSi]
  have e4 : ∀ t, ind (wth (wth S j) l t) = ind (S t) + e1 j t + e1 l t := fun t => by
    rw [ind_wth _ _ _ (by rw [wth_ne hlj]; exact hSl), ind_wth _ _ _ hSj]
  obtain ⟨X', Y', hv, q⟩ := exch1 R (wth (wth S i) j) (wth S l) hi (by rw [wth_ne hne]; exact wth_at S i) (by rw [wth_ne (fun e => hli e.symm)]; exact hSi)
  rcases q with ⟨q1, q2⟩ | ⟨u, hu, hX, hY, q1, q2⟩
  · have m1 := R.mono (S := X') (T := wth S j) (sub_of_ind fun t ht => by
      have := q1 t ht
      rw [e2] at this
      rw [ind_wth _ _ _ hSj]; omega)
    have m2 := R.mono (S := Y') (T := wth (wth S i) l) (sub_of_ind fun t ht => by
      have := q2 t ht
      rw [ind_wth _ _ _ hSl] at this
      rw [e3]; omega)
    exact .inl (by omega)
  · have eu : u = l := by
      by_cases e : u = l
      · exact e
      · exfalso
        rw [wth_ne e] at hY
        have := e2 u
        rw [hX, hY, ind_true, ind_false] at this
        have := e1_nonneg i u
        have := e1_nonneg j u
        omega
    subst eu
    have m1 := R.mono (S := X') (T := wth (wth S j) u) (sub_of_ind fun t ht => by
      have := q1 t ht
      rw [e2] at this
      rw [e4]; omega)
    have m2 := R.mono (S := Y') (T := wth S i) (sub_of_ind fun t ht => by
      have := q2 t ht
      rw [ind_wth _ _ _ hSl] at this
      rw [ind_wth _ _ _ hSi]; omega)
    exact .inr (by omega)
end
end K98
set_option Elab.async false
set_option linter.all false
/-! K98 mathematics, part H: what the law asks, over tables alone. -/
namespace K98

/-! ### kinds, over a table -/
theorem wth_bits (h i : Nat) : (h ||| 2 ^ i).testBit = wth h.testBit i := funext fun t => by
  unfold wth
  rw [Nat.testBit_or, Nat.testBit_two_pow]
  by_cases e : t = i
  · rw [decide_eq_true e, decide_eq_true e.symm]
  · rw [decide_eq_false e, decide_eq_false (fun q => e q.symm)]
theorem or_lt {m h i : Nat} (hh : h < 2 ^ m) (hi : i < m) : h ||| 2 ^ i < 2 ^ m := Nat.or_lt_two_pow hh (Nat.pow_lt_pow_right (by decide) hi)
theorem tv_bits {tab : List Int} {m h : Nat} (hh : h < 2 ^ m) : tv tab m h.testBit = tabAt tab h := by
  unfold tv
  rw [mask_of hh]
theorem no_pair {m : Nat} {tab : List Int} (g : GoodTab m tab) {h i j : Nat} (hh : h < 2 ^ m) (hi : i < m) (hj : j < m) (bi : h.testBit i = false) (bj : h.testBit j = false) (hne : i ≠ j) :
    tabAt tab (h ||| 2 ^ i ||| 2 ^ j) + tabAt tab h ≤ tabAt tab (h ||| 2 ^ i) + tabAt tab (h ||| 2 ^ j) := by
  obtain ⟨a, c, k, R, _⟩ := g.rep
  have := pair_ok R hi hj bi bj hne
  rw [← wth_bits, ← wth_bits, ← wth_bits, tv_bits (or_lt (or_lt hh hi) hj), tv_bits hh, tv_bits (or_lt hh hi), tv_bits (or_lt hh hj)] at this
  exact this
theorem no_three {m : Nat} {tab : List Int} (g : GoodTab m tab) {h i j l : Nat} (hh : h < 2 ^ m) (hi : i < m) (hj : j < m) (hl : l < m) (bi : h.testBit i = false) (bj : h.testBit j = false) (bl : h.testBit l = false)
    (hne : i ≠ j) (hli : l ≠ i) (hlj : l ≠ j) :
    tabAt tab (h ||| 2 ^ i ||| 2 ^ j) + tabAt tab (h ||| 2 ^ l) ≤ tabAt tab (h ||| 2 ^ i ||| 2 ^ l) + tabAt tab (h ||| 2 ^ j) ∨
    tabAt tab (h ||| 2 ^ i ||| 2 ^ j) + tabAt tab (h ||| 2 ^ l) ≤ tabAt tab (h ||| 2 ^ j ||| 2 ^ l) + tabAt tab (h ||| 2 ^ i) := by
  obtain ⟨a, c, k, R, _⟩ := g.rep
  have := three_ok R hi hj hl bi bj bl hne hli hlj
  rw [← wth_bits h, ← wth_bits h, ← wth_bits h, ← wth_bits, ← wth_bits, ← wth_bits, tv_bits (or_lt (or_lt hh hi) hj), tv_bits (or_lt hh hl), tv_bits (or_lt (or_lt hh hi) hl), tv_bits (or_lt (or_lt hh hj) hl), tv_bits (or_lt hh hi), tv_bits (or_lt hh hj)] at this
  exact this

/-! ### towns -/
structure GoodTown (m : Nat) (wants : List (List Int)) : Prop where
  m1 : 1 ≤ m
  m5 : m ≤ 5
  n1 : 1 ≤ wants.length
  tabs : ∀ tab, tab ∈ wants → GoodTab m tab
def lowL (m : Nat) (wants : List (List Int)) : List Int := (List.range m).map fun j => leastP wants m j
def highL (m : Nat) (wants : List (List Int)) : List Int := (List.range m).map fun j => greatP wants m j
def lastL (tab : List Int) : Int := tabAt tab (tab.length - 1)
def topL (wants : List (List Int)) : Int := maxL (wants.map lastL)
theorem lowL_len (m : Nat) (wants : List (List Int)) : (lowL m wants).length = m := by
  unfold lowL
  rw [List.length_map, List.length_range]
theorem highL_len (m : Nat) (wants : List (List Int)) : (highL m wants).length = m := by
  unfold highL
  rw [List.length_map, List.length_range]
theorem pf_of {ps : List Int} {t : Nat} {x : Int} (e : ps[t]? = some x) : pf ps t = x := by
  unfold pf
  rw [List.getD_eq_getElem?_getD, e]; rfl
theorem lowL_at {m : Nat} {wants : List (List Int)} {t : Nat} (ht : t < m) : pf (lowL m wants) t = leastP wants m t := pf_of (by
  unfold lowL
  rw [List.getElem?_map, List.getElem?_range ht]; rfl)
theorem highL_at {m : Nat} {wants : List (List Int)} {t : Nat} (ht : t < m) : pf (highL m wants) t = greatP wants m t := pf_of (by
  unfold highL
  rw [List.getElem?_map, List.getElem?_range ht]; rfl)
theorem ext_pf {ps qs : List Int} (hl : ps.length = qs.length) (h : ∀ t, t < ps.length → pf ps t = pf qs t) : ps = qs := by
  refine List.ext_getElem hl fun t h1 h2 => ?_
  have a := pf_get h1
  have b := pf_get h2
  rw [List.getElem?_eq_getElem h1] at a
  rw [List.getElem?_eq_getElem h2] at b
  rw [Option.some.inj a, Option.some.inj b, h t h1]

section
variable {m : Nat} {wants : List (List Int)}
/-- all that is used of a town's hands -/
theorem GoodTown.reps (g : GoodTown m wants) : ∃ (a c : Nat → Nat → Int) (k : Nat → Int), Reps wants.length m (VV m wants) a c k ∧ ∀ i, i < wants.length → ∀ t, t < m → a i t ≤ 8 ∧ c i t ≤ 8 := by
  obtain ⟨f, hf⟩ := skol (β := (Nat → Int) × (Nat → Int) × Int) (n := wants.length) (P := fun i r => Rep m (tv (wt wants i) m) r.1 r.2.1 r.2.2 ∧ ∀ t, t < m → r.1 t ≤ 8 ∧ r.2.1 t ≤ 8) fun i hi => by
    obtain ⟨a, c, k, R, b⟩ := (g.tabs _ (wt_mem hi)).rep
    exact ⟨(a, c, k), R, b⟩
  exact ⟨fun i => (f i).1, fun i => (f i).2.1, fun i => (f i).2.2, fun i hi => (hf i hi).1, fun i hi => (hf i hi).2⟩
theorem GoodTown.gains (g : GoodTown m wants) : Gains wants.length m (VV m wants) (gg m wants) := fun i hi => gain_tab (g.tabs _ (wt_mem hi)).len
theorem GoodTown.lens (g : GoodTown m wants) : ∀ i, i < wants.length → (wt wants i).length = 2 ^ m := fun i hi => (g.tabs _ (wt_mem hi)).len
theorem lowL_eq (g : GoodTown m wants) {t : Nat} (ht : t < m) : pf (lowL m wants) t = plow wants.length m (VV m wants) t := by
  obtain ⟨a, c, k, R, _⟩ := g.reps
  rw [lowL_at ht, leastP_W g.m5 g.lens R ht]
theorem highL_eq (g : GoodTown m wants) {t : Nat} (ht : t < m) : pf (highL m wants) t = phigh wants.length m (VV m wants) t := by
  obtain ⟨a, c, k, R, _⟩ := g.reps
  rw [highL_at ht, greatP_W g.m5 R ht]
theorem low_nonneg (g : GoodTown m wants) {t : Nat} (ht : t < m) : 0 ≤ pf (lowL m wants) t := by
  obtain ⟨a, c, k, R, _⟩ := g.reps
  rw [lowL_eq g ht]
  exact plow_nonneg R t
theorem high_nonneg (g : GoodTown m wants) {t : Nat} (ht : t < m) : 0 ≤ pf (highL m wants) t := by
  obtain ⟨a, c, k, R, _⟩ := g.reps
  rw [highL_eq g ht]
  exact phigh_nonneg R t
/-- how far apart two prices are -/
def gap (m : Nat) (p q : Nat → Int) : Int := sumN m fun t => q t - p t

theorem zero_bits {f : Nat} (e : f = 0) : f.testBit = fun _ => false := by
  subst e
  exact funext fun t => Nat.zero_testBit t
theorem some_bit {m f : Nat} (h : f < 2 ^ m) (hne : f ≠ 0) : ∃ t, t < m ∧ f.testBit t = true := by
  by_cases q : ∃ t, t < m ∧ f.testBit t = true
  · exact q
  · exfalso
    refine hne (Nat.eq_of_testBit_eq fun t => ?_)
    rw [Nat.zero_testBit]
    cases e : f.testBit t with
    | false => rfl
    | true =>
      by_cases ht : t < m
      · exact absurd ⟨t, ht, e⟩ q
      · rw [Nat.testBit_lt_two_pow (Nat.lt_of_lt_of_le h (Nat.pow_le_pow_right (by decide) (by omega)))] at e
        cases e

/-! ### rising -/
structure Under (m : Nat) (wants : List (List Int)) (ps : List Int) : Prop where
  len : ps.length = m
  n0 : ∀ t, t < m → 0 ≤ pf ps t
  le : ∀ t, t < m → pf ps t ≤ pf (lowL m wants) t
theorem rise_ends (g : GoodTown m wants) {ps : List Int} (u : Under m wants ps) (h : leastL wants ps 1 = 0) : ps = lowL m wants := by
  obtain ⟨a, c, k, R, _⟩ := g.reps
  obtain ⟨s, _⟩ := leastL_step u.len rfl R g.gains (.inl rfl) u.n0
  rw [zero_bits h] at s
  refine ext_pf (by rw [u.len, lowL_len]) fun t ht => ?_
  rw [u.len] at ht
  rw [lowL_eq g ht]
  exact rise_end R g.gains u.n0 (fun t ht => by rw [← lowL_eq g ht]; exact u.le t ht) s t ht
theorem rise_on (g : GoodTown m wants) {ps : List Int} (u : Under m wants ps) (h : leastL wants ps 1 ≠ 0) :
    Under m wants (stepL ps (leastL wants ps 1) 1) ∧ gap m (pf (stepL ps (leastL wants ps 1) 1)) (pf (lowL m wants)) < gap m (pf ps) (pf (lowL m wants)) := by
  obtain ⟨a, c, k, R, _⟩ := g.reps
  obtain ⟨s, hlt⟩ := leastL_step u.len rfl R g.gains (.inl rfl) u.n0
  have st := rise_step R g.gains u.n0 (fun t ht => by rw [← lowL_eq g ht]; exact u.le t ht) s
  have at_ : ∀ t, t < m → pf (stepL ps (leastL wants ps 1) 1) t = mv 1 (pf ps) (leastL wants ps 1).testBit t := fun t ht => stepL_at (by rw [u.len]; exact ht)
  have ge : ∀ t, t < m → pf ps t ≤ pf (stepL ps (leastL wants ps 1) 1) t := fun t ht => by
    rw [at_ t ht]
    unfold mv
    split <;> omega
  refine ⟨⟨by rw [stepL_len, u.len], fun t ht => Int.le_trans (u.n0 t ht) (ge t ht), fun t ht => by rw [at_ t ht, lowL_eq g ht]; exact st t ht⟩, ?_⟩
  obtain ⟨j, hj, bj⟩ := some_bit hlt h
  have := sumN_le_one (n := m) (f := fun t => pf (stepL ps (leastL wants ps 1) 1) t - pf ps t) hj fun t ht => by have := ge t ht; omega
  rw [sumN_sub] at this
  have e : pf (stepL ps (leastL wants ps 1) 1) j = pf ps j + 1 := by
    rw [at_ j hj]
    unfold mv
    rw [bj, if_pos rfl]
  unfold gap
  rw [sumN_sub, sumN_sub]
  omega
/-! ### falling -/
structure Over (m : Nat) (wants : List (List Int)) (ps : List Int) : Prop where
  len : ps.length = m
  ge : ∀ t, t < m → pf (highL m wants) t ≤ pf ps t
theorem fall_ends (g : GoodTown m wants) {ps : List Int} (u : Over m wants ps) (h : leastL wants ps (-1) = 0) : ps = highL m wants := by
  obtain ⟨a, c, k, R, _⟩ := g.reps
  obtain ⟨s, _⟩ := leastL_step u.len rfl R g.gains (.inr rfl) fun t ht => Int.le_trans (high_nonneg g ht) (u.ge t ht)
  rw [zero_bits h] at s
  refine ext_pf (by rw [u.len, highL_len]) fun t ht => ?_
  rw [u.len] at ht
  rw [highL_eq g ht]
  exact fall_end R g.gains (fun t ht => by rw [← highL_eq g ht]; exact u.ge t ht) s t ht
theorem fall_on (g : GoodTown m wants) {ps : List Int} (u : Over m wants ps) (h : leastL wants ps (-1) ≠ 0) :
    Over m wants (stepL ps (leastL wants ps (-1)) (-1)) ∧ gap m (pf (highL m wants)) (pf (stepL ps (leastL wants ps (-1)) (-1))) < gap m (pf (highL m wants)) (pf ps) := by
  obtain ⟨a, c, k, R, _⟩ := g.reps
  obtain ⟨s, hlt⟩ := leastL_step u.len rfl R g.gains (.inr rfl) fun t ht => Int.le_trans (high_nonneg g ht) (u.ge t ht)
  have st := fall_step R g.gains (fun t ht => by rw [← highL_eq g ht]; exact u.ge t ht) s
  have at_ : ∀ t, t < m → pf (stepL ps (leastL wants ps (-1)) (-1)) t = mv (-1) (pf ps) (leastL wants ps (-1)).testBit t := fun t ht => stepL_at (by rw [u.len]; exact ht)
  have le : ∀ t, t < m → pf (stepL ps (leastL wants ps (-1)) (-1)) t ≤ pf ps t := fun t ht => by
    rw [at_ t ht]
    unfold mv
    split <;> omega
  refine ⟨⟨by rw [stepL_len, u.len], fun t ht => by rw [at_ t ht, highL_eq g ht]; exact st t ht⟩, ?_⟩
  obtain ⟨j, hj, bj⟩ := some_bit hlt h
  have := sumN_le_one (n := m) (f := fun t => pf ps t - pf (stepL ps (leastL wants ps (-1)) (-1)) t) hj fun t ht => by have := le t ht; omega
  rw [sumN_sub] at this
  have e : pf (stepL ps (leastL wants ps (-1)) (-1)) j = pf ps j + -1 := by
    rw [at_ j hj]
    unfold mv
    rw [bj, if_pos rfl]
  unfold gap
  rw [sumN_sub, sumN_sub]
  omega

/-! ### sizes, the first prices -/
theorem tab_le {tab : List Int} (g : GoodTab m tab) (hm : m ≤ 5) (S : St1) : tv tab m S ≤ 80 := by
  obtain ⟨a, c, k, R, b⟩ := g.rep
  obtain ⟨B, _, _, h⟩ := R.up S
  have h2 : valSB m a c S B ≤ sumN m fun _ => 16 := sumN_le fun t ht => by
    have := b t ht
    split <;> split <;> omega
  have h3 : ∀ n : Nat, sumN n (fun _ => 16) = 16 * n := fun n => by
    induction n with
    | zero => rfl
    | succ n ih =>
      show sumN n (fun _ => 16) + 16 = _
      rw [ih]
      omega
  have := h3 m
  omega
theorem last_eq {tab : List Int} (g : GoodTab m tab) : lastL tab = tv tab m fun _ => true := by
  unfold lastL tv
  rw [g.len]
  congr 1
  refine Nat.eq_of_testBit_eq fun t => ?_
  rw [Nat.testBit_two_pow_sub_one, mask_bit, Bool.and_true]
theorem top_le (g : GoodTown m wants) : topL wants ≤ 80 := by
  have hne : wants.map lastL ≠ [] := fun e => by
    have := g.n1
    rw [List.map_eq_nil_iff] at e
    rw [e] at this
    simp at this
  obtain ⟨tab, hm, e⟩ := List.mem_map.mp (maxL_mem hne)
  unfold topL
  rw [← e, last_eq (g.tabs tab hm)]
  exact tab_le (g.tabs tab hm) g.m5 _
theorem top_ge (g : GoodTown m wants) {i : Nat} (hi : i < wants.length) : VV m wants i (fun _ => true) ≤ topL wants := by
  unfold topL VV
  rw [← last_eq (g.tabs _ (wt_mem hi))]
  exact maxL_ge (List.mem_map.mpr ⟨_, wt_mem hi, rfl⟩)
theorem top_nonneg (g : GoodTown m wants) : 0 ≤ topL wants := by
  obtain ⟨a, c, k, R, _⟩ := g.reps
  have h1 := top_ge g (i := 0) g.n1
  have h2 := (R 0 g.n1).mono (S := fun _ => false) (T := fun _ => true) fun _ _ _ => rfl
  rw [(R 0 g.n1).empty] at h2
  omega
theorem high_le_top (g : GoodTown m wants) {t : Nat} (ht : t < m) : pf (highL m wants) t ≤ topL wants := by
  obtain ⟨a, c, k, R, _⟩ := g.reps
  rw [highL_eq g ht]
  exact high_top R (top_nonneg g) (fun i hi => top_ge g hi) ht
theorem low_le_high (g : GoodTown m wants) {t : Nat} (ht : t < m) : pf (lowL m wants) t ≤ pf (highL m wants) t := by
  obtain ⟨a, c, k, R, _⟩ := g.reps
  rw [highL_eq g ht, lowL_eq g ht]
  have := concave R ht
  unfold plow phigh
  omega
theorem pf_replicate {x : Int} {t : Nat} (ht : t < m) : pf (List.replicate m x) t = x := pf_of (by rw [List.getElem?_replicate, if_pos ht])
theorem under_first (g : GoodTown m wants) : Under m wants (List.replicate m 0) :=
  ⟨List.length_replicate, fun t ht => by rw [pf_replicate ht]; exact Int.le_refl _, fun t ht => by rw [pf_replicate ht]; exact low_nonneg g ht⟩
theorem over_first (g : GoodTown m wants) : Over m wants (List.replicate m (topL wants)) :=
  ⟨List.length_replicate, fun t ht => by rw [pf_replicate ht]; exact high_le_top g ht⟩
theorem gap_le {p q : Nat → Int} {b : Int} (hm : m ≤ 5) (hb : 0 ≤ b) (h : ∀ t, t < m → q t - p t ≤ b) : gap m p q ≤ 5 * b := by
  have h1 : gap m p q ≤ sumN m fun _ => b := sumN_le h
  have h2 : ∀ n : Nat, n ≤ 5 → sumN n (fun _ => b) ≤ 5 * b := fun n hn => by
    match n, hn with
    | 0, _ => show (0 : Int) ≤ 5 * b; omega
    | 1, _ => show (0 : Int) + b ≤ 5 * b; omega
    | 2, _ => show (0 : Int) + b + b ≤ 5 * b; omega
    | 3, _ => show (0 : Int) + b + b + b ≤ 5 * b; omega
    | 4, _ => show (0 : Int) + b + b + b + b ≤ 5 * b; omega
    | 5, _ => show (0 : Int) + b + b + b + b + b ≤ 5 * b; omega
  have := h2 m hm
  omega
theorem gap_under (g : GoodTown m wants) {ps : List Int} (u : Under m wants ps) : 0 ≤ gap m (pf ps) (pf (lowL m wants)) ∧ gap m (pf ps) (pf (lowL m wants)) ≤ 400 := by
  refine ⟨sumN_nonneg fun t ht => by have := u.le t ht; omega, ?_⟩
  have := gap_le (m := m) (p := pf ps) (q := pf (lowL m wants)) (b := 80) g.m5 (by decide) fun t ht => by
    have h1 := u.n0 t ht
    have h2 := low_le_high g ht
    have h3 := high_le_top g ht
    have h4 := top_le g
    omega
  omega
theorem gap_over (g : GoodTown m wants) {ps : List Int} (u : Over m wants ps) (hb : ∀ t, t < m → pf ps t ≤ 80) : 0 ≤ gap m (pf (highL m wants)) (pf ps) ∧ gap m (pf (highL m wants)) (pf ps) ≤ 400 := by
  refine ⟨sumN_nonneg fun t ht => by have := u.ge t ht; omega, ?_⟩
  have := gap_le (m := m) (p := pf (highL m wants)) (q := pf ps) (b := 80) g.m5 (by decide) fun t ht => by
    have h1 := high_nonneg g ht
    have h2 := hb t ht
    omega
  omega

/-! ### one hand more -/
theorem W_V {n : Nat} {V V' : Nat → St1 → Int} (h : ∀ i, i < n → V i = V' i) (x : Nat → Int) : W n m V x = W n m V' x := by
  have e : IsW n m V x = IsW n m V' x := by
    have t : ∀ S, tot n V S = tot n V' S := fun S => sumN_congr fun i hi => by rw [h i hi]
    unfold IsW
    simp only [t]
  unfold W
  rw [e]
theorem wt_app {more : List Int} {i : Nat} (hi : i < wants.length) : wt (wants ++ [more]) i = wt wants i := by
  unfold wt
  rw [List.getD_eq_getElem?_getD, List.getD_eq_getElem?_getD, List.getElem?_append_left hi]
theorem wt_last {more : List Int} : wt (wants ++ [more]) wants.length = more := by
  unfold wt
  rw [List.getD_eq_getElem?_getD, List.getElem?_append_right (Nat.le_refl _), Nat.sub_self]; rfl
theorem good_more (g : GoodTown m wants) {more : List Int} (h : GoodTab m more) : GoodTown m (wants ++ [more]) :=
  ⟨g.m1, g.m5, by rw [List.length_append]; exact Nat.le_add_left _ _, fun tab ht => by
    rcases List.mem_append.mp ht with q | q
    · exact g.tabs tab q
    · rw [List.mem_singleton.mp q]; exact h⟩
section
variable {more : List Int}
theorem plow_app : plow wants.length m (VV m (wants ++ [more])) = plow wants.length m (VV m wants) := by
  have e : ∀ i, i < wants.length → VV m (wants ++ [more]) i = VV m wants i := fun i hi => by
    unfold VV
    rw [wt_app hi]
  funext j
  unfold plow
  rw [W_V e, W_V e]
theorem phigh_app : phigh wants.length m (VV m (wants ++ [more])) = phigh wants.length m (VV m wants) := by
  have e : ∀ i, i < wants.length → VV m (wants ++ [more]) i = VV m wants i := fun i hi => by
    unfold VV
    rw [wt_app hi]
  funext j
  unfold phigh
  rw [W_V e, W_V e]
theorem low_grows (g : GoodTown m wants) (h : GoodTab m more) {t : Nat} (ht : t < m) : pf (lowL m wants) t ≤ pf (lowL m (wants ++ [more])) t := by
  have g' := good_more g h
  obtain ⟨a, c, k, R, _⟩ := g'.reps
  have G := g'.gains
  rw [lowL_eq g ht, lowL_eq g' ht, ← plow_app (more := more)]
  rw [List.length_append] at R G ⊢
  exact low_more R G t ht
theorem high_grows (g : GoodTown m wants) (h : GoodTab m more) {t : Nat} (ht : t < m) : pf (highL m wants) t ≤ pf (highL m (wants ++ [more])) t := by
  have g' := good_more g h
  obtain ⟨a, c, k, R, _⟩ := g'.reps
  have G := g'.gains
  rw [highL_eq g ht, highL_eq g' ht, ← phigh_app (more := more)]
  rw [List.length_append] at R G ⊢
  exact high_more R G t ht
theorem great_grows (g : GoodTown m wants) (h : GoodTab m more) : greatL wants m ≤ greatL (wants ++ [more]) m ∧ greatL (wants ++ [more]) m ≤ greatL wants m + ggain more m (pf (lowL m wants)) := by
  have g' := good_more g h
  obtain ⟨a, c, k, R, _⟩ := g'.reps
  obtain ⟨a0, c0, k0, R0, _⟩ := g.reps
  have G := g'.gains
  rw [great_W g.m5 R0, great_W g.m5 R]
  have e : ∀ i, i < wants.length → VV m (wants ++ [more]) i = VV m wants i := fun i hi => by
    unfold VV
    rw [wt_app hi]
  rw [← W_V e]
  rw [List.length_append] at R G ⊢
  refine ⟨W_more_ge R, ?_⟩
  have h1 := W_more_le R G
  have h2 : gg m (wants ++ [more]) wants.length (plow wants.length m (VV m (wants ++ [more]))) = ggain more m (pf (lowL m wants)) := by
    unfold gg
    rw [wt_last, plow_app]
    exact g_congr (gain_tab h.len) fun t ht => (lowL_eq g ht).symm
  rw [h2] at h1
  exact h1
end
end
end K98
set_option Elab.async false
set_option linter.all false
set_option maxRecDepth 100000
set_option maxHeartbeats 4000000
/-! K98: rules that the layer lacks: enumerate of a tuple, zip of a tuple and a list, sum and min of a tuple, xs[i] op= e of a list, a tuple once. -/
namespace K98R
open PySem PySem.Spec PyProof.Rows L2

/-! ### enumerate(tuple) -/
def IteT (K : PySem.W.Frag) (a : Addr) : It :=
  ⟨fun i H => ∃ (xs : List V) (x : V), SqT K H a xs ∧ xs[i]? = some x, fun i H v H' => ∃ T x, v = .ref T ∧ H T = none ∧ H' = upd H T (.tup [.int (i : Nat), x]) ∧ ∀ xs, SqT K H a xs → xs[i]? = some x, fun i H => ∃ xs : List V, SqT K H a xs ∧ xs.length = i⟩
theorem turn_enumT {P : Program} {w : World} {K : PySem.W.Frag} {elts : List Expr} {kk : Nat} {tpos : Pos} (a e it : Addr) :
    Turn P w K (.Tuple elts kk tpos) (IteT K a) [e, it] e (fun i h => (∃ old, IsEnum h e it ((i : Nat) : Int) old) ∧ h.IsTupleIter it a i ∧ e ≠ it ∧ e ≠ a ∧ it ≠ a) where
  mem := by simp
  obj := fun i h st b hb => by
    obtain ⟨⟨old, he⟩, ⟨o, ho, hc, hd⟩, _⟩ := st
    have e' : b = e ∨ b = it := by simpa using hb
    rcases e' with z | z
    · rw [z]; exact ⟨_, he, fun v q => nomatch q⟩
    · rw [z]; exact ⟨o, ho, fun v q => by rw [hd] at q; cases q⟩
  keep := fun i h h' st k => let ⟨⟨old, he⟩, hi, hne⟩ := st; ⟨⟨old, k e (by simp) _ he⟩, hi.at fun o q => k it (by simp) o q, hne⟩
  item := by
    intro X hP hw hK hc i pins s σ H E I hf st hg
    subst hP hw hK
    obtain ⟨⟨old, he⟩, hit, hne, hea, hia⟩ := st
    obtain ⟨xs, x, hq, hx⟩ := hg
    obtain ⟨its, rv, p, hz⟩ := I.tuple hq
    obtain ⟨u, hu, ru⟩ := rv.get hx
    have hel : e < s.heap.objs.size := Heap.lt_size he
    have hil : it < s.heap.objs.size := by obtain ⟨_, q, _⟩ := hit; exact Heap.lt_size q
    have hil' : i < its.toArray.size := by
      have := (List.getElem?_eq_some_iff.mp hu).1
      simpa using this
    refine wpAny_pyNext_enum_itemD (Draws.tuple (A := X.A.in1) (I.ok.hd hc) it a (fun q => hia q.symm) its.toArray) he ⟨hit, p⟩ hil' hne (by simp [hne, hea]) fun x' h' tk hP ho hst' hT hsz hk => ?_
    have ex' : x' = u := by
      have hP' : its.toArray[i]? = some x' := hP
      rw [List.getElem?_toArray, hu] at hP'
      exact (Option.some.inj hP').symm
    subst ex'
    refine ⟨_, rfl, wpAny_letOwnedTupleGo_enum (s := { s with heap := h', toks := tk + 1 }) ho fun h'' he' sb => ?_⟩
    have hT2 : h''.get? s.heap.objs.size = some { cls := .type "tuple", data := .seq #[.int i tk, x'] } := (sb.2 _ (Nat.ne_of_gt hel)).trans hT
    have new : ObjOk X.prog X.w (upd H s.heap.objs.size (.tup [.int (i : Nat), x])) h'' s.heap.objs.size (.tup [.int (i : Nat), x]) :=
      ⟨by show 2 ≤ sizeLine; decide, [.int i tk, x'], .cons ⟨_, rfl⟩ (.cons ru .nil), ⟨_, hT2, rfl, _, rfl⟩⟩
    have I1 : Inv X pins σ (upd H s.heap.objs.size (.tup [.int (i : Nat), x])) { s with heap := h'', toks := tk + 1 } :=
      I.turnedNew (ch := [e, it]) (fun b ob hb q => (sb.2 b (fun z => hb (by simp [z]))).trans (hk b ob (fun z => hb (by simp [z])) (fun z => hb (by simp [z])) q)) hf (Nat.le_refl _) new
    refine ⟨.ref s.heap.objs.size, _, I1, rfl, ⟨_, x, rfl, I.hok.fresh (Nat.le_refl _), rfl, fun ys hy => by rw [I.tuple_inj hy hq]; exact hx⟩, ⟨⟨x', ?_⟩, hst'.1.at fun o q => (sb.2 it (Ne.symm hne)).trans q, hne, hea, hia⟩, fun b hb => ?_⟩
    · have e1 : ((i + 1 : Nat) : Int) = (i : Int) + 1 := by omega
      rw [e1]; exact he'
    · have hb' : b < s.heap.objs.size := by
        have e' : b = e ∨ b = it := by simpa using hb
        rcases e' with z | z
        · rw [z]; exact hel
        · rw [z]; exact hil
      rw [upd_ne (Nat.ne_of_lt hb')]
      exact (hf b hb).1
  done := by
    intro X hP hw hK hc i pins s σ H E I hf st hg
    subst hP hw hK
    obtain ⟨⟨old, he⟩, hit, hne, hea, hia⟩ := st
    obtain ⟨xs, hq, hx⟩ := hg
    obtain ⟨its, rv, p, hz⟩ := I.tuple hq
    obtain ⟨f0, f1, f2, f3, f4, f5⟩ := hf it (by simp)
    have hl := rv.length
    have ei : i = its.toArray.size := by rw [List.size_toArray]; omega
    refine wpAny_pyNext_enum_endD (Draws.tuple (A := X.A.in1) (I.ok.hd hc) it a (fun q => hia q.symm) its.toArray) he (by rw [← ei]; exact ⟨hit, p⟩) fun h' eb => ⟨rfl, I.turned (t' := s.toks) (fun b o hb q => eb b o hb q) f0 f1 f3 f4 f5⟩
  self := fun A i s Q E st h => let ⟨⟨_, he⟩, _⟩ := st; wpAny_pyIter_enum he h

theorem meets_enumerate_newT (l : Addr) (items : Array Value) (n : Nat) (dct : Option Addr) (sl : Array (Option Value)) :
    Meets (Builtin.«enumerate.__new__» ⟨[.type "enumerate", .ref l], []⟩) (fun _ R s => s.heap.get? l = some { cls := .type "tuple", dict := dct, data := .seq items n, slots := sl } ∧
      R (.ok (.ret (.ref (s.heap.push { cls := .type "tuple_iterator", data := .fields #[.ref l, .int 0 0] }).objs.size)))
        { s with heap := (s.heap.push { cls := .type "tuple_iterator", data := .fields #[.ref l, .int 0 0] }).push { cls := .type "enumerate", data := .fields #[.none, .bool false, .ref s.heap.objs.size, rawInt 0, .none, .none] } }) :=
  .of_wp fun prog w A R s h => by
    obtain ⟨hp, g, d, tk, os⟩ := s; obtain ⟨hl, h⟩ := h
    have hsub := sub_enumerate
    have hL : Heap.IsTuple (Shared.heap ⟨hp, g, d, tk, os⟩) l items := ⟨_, hl, rfl, n, rfl⟩
    wp_walk using AutoSeq1.wpAny_loadPart' hl
    refine wpAny_stack_any fun st => wpAny_pure ?_
    split
    · rename_i c _ _ _ _ _
      cases (c == Value.type "enumerate")
      · wp_walk using AutoSeq1.wpAny_loadPart' hl, wpAny_pyIter_tuple hL
        exact ⟨_, rfl, h⟩
      · wp_walk using AutoSeq1.wpAny_loadPart' hl, wpAny_pyIter_tuple hL
        exact ⟨_, rfl, h⟩
    · wp_walk using AutoSeq1.wpAny_loadPart' hl, wpAny_pyIter_tuple hL
      exact ⟨_, rfl, h⟩
theorem call_enumerate_tuple {prog : Program} {w : World} {A : Around} {E : Value → Shared → Prop} {s : Shared} {l : Addr} {items : Array Value} {Q : Value → Shared → Prop} (hL : s.heap.IsTuple l items)
    (h : ∀ h', IsEnum h' (s.heap.objs.size + 1) s.heap.objs.size 0 .none → h'.IsTupleIter s.heap.objs.size l 0 → h'.objs.size = s.heap.objs.size + 2 →
      (∀ b o, s.heap.get? b = some o → h'.get? b = some o) → Q (.ref (s.heap.objs.size + 1)) { s with heap := h' }) :
    wpAny (model prog w) A (call (.type "enumerate") [.ref l]) Q E s := by
  obtain ⟨⟨c, dct, dt, sl⟩, hl, hc, n, hd⟩ := hL
  replace hc : c = .type "tuple" := hc
  replace hd : dt = .seq items n := hd
  subst hc hd
  refine callType_new F.called_enumerate (by decide) (F.typeCall_enumerate_1 _) (F.newCall_enumerate_1 _) (fun obj => F.args_object_init_2 obj _) F.entry_enumerate_new
    (meets_enumerate_newT l items n dct sl) ⟨hl, ?_⟩
  have hz : (s.heap.push { cls := .type "tuple_iterator", data := .fields #[.ref l, .int 0 0] }).objs.size = s.heap.objs.size + 1 := Heap.size_push ..
  show _ ∧ _
  rw [hz]
  have he : IsEnum ((s.heap.push { cls := .type "tuple_iterator", data := .fields #[.ref l, .int 0 0] }).push
      { cls := .type "enumerate", data := .fields #[.none, .bool false, .ref s.heap.objs.size, rawInt 0, .none, .none] }) (s.heap.objs.size + 1) s.heap.objs.size 0 .none := by
    have := Heap.get?_push_size (s.heap.push { cls := .type "tuple_iterator", data := .fields #[.ref l, .int 0 0] })
      (o := { cls := .type "enumerate", data := .fields #[.none, .bool false, .ref s.heap.objs.size, rawInt 0, .none, .none] }) rfl
    rw [hz] at this; exact this
  refine ⟨⟨_, he, rfl⟩, h _ he ⟨_, Heap.get?_push_of_some _ (Heap.get?_push_size _ rfl), rfl, rfl⟩ (by rw [Heap.size_push, hz]) fun b o x => Heap.get?_push_of_some _ (Heap.get?_push_of_some _ x)⟩
def iEnumT (K : PySem.W.Frag) (ta : TA) : TI := fun σ H R => ta σ H fun vs H1 => ∃ a xs, vs = [.ref a] ∧ SqT K H1 a xs ∧ R (IteT K a) H1
theorem pi_enumT {X : Cx} {e : Expr} {ta : TA} {p pos tpos : Pos} {elts : List Expr} {kk : Nat} (hg : Gl X "enumerate") (hm : X.mg "enumerate" = none) (ha : PA X [e] ta) (hs : starEach [e] X.env = [(false, eval e X.env)] := by rfl) :
    PI X (.Tuple elts kk tpos) (.Call (.Name "enumerate" p) [e] [] pos) (iEnumT X.K ta) := by
  refine ⟨fun pins s σ H R I h => ?_⟩
  refine Call_ (ld_blt I hg hm boot_enumerate (PyProof.Rows.callWith_type1 (thn (ha.run pos pins s σ H _ I h) fun us s1 ⟨vs, H1, I1, r1, q1⟩ => ?_) hs rfl))
  obtain ⟨a, xs, ex, hq, q⟩ := q1
  subst ex
  cases r1 with
  | cons r rr =>
    cases rr
    cases r
    obtain ⟨its, rv, p', hz⟩ := I1.tuple hq
    obtain ⟨oa, hoa, _⟩ := id p'
    have hal : a < s1.heap.objs.size := Heap.lt_size hoa
    refine call_enumerate_tuple (show s1.heap.IsTuple a its.toArray from p') fun h' he hit hsz hk => wpAny_pyIter_enum he ?_
    have I2 : Inv X pins σ H1 { s1 with heap := h' } := I1.kept (t' := s1.toks) hk
    refine ⟨s1.heap.objs.size + 1, [s1.heap.objs.size + 1, s1.heap.objs.size], _, _, H1, rfl, I2, turn_enumT a (s1.heap.objs.size + 1) s1.heap.objs.size, ⟨⟨.none, he⟩, hit, Nat.succ_ne_self _, Nat.ne_of_gt (Nat.lt_succ_of_lt hal), Nat.ne_of_gt hal⟩, fun b hb => ?_, q⟩
    have e' : b = s1.heap.objs.size + 1 ∨ b = s1.heap.objs.size := by simpa using hb
    have hle : s1.heap.objs.size ≤ b := by
      rcases e' with z | z
      · rw [z]; exact Nat.le_add_right _ _
      · rw [z]; exact Nat.le_refl _
    exact I1.fpOk hle (I1.hok.fresh hle)
theorem walk_enumT {K : PySem.W.Frag} {a : Addr} {xs : List V} : Walk (IteT K a) xs.length (fun H => SqT K H a xs) (YPair (fun i => some (.int (i : Nat))) (fun i => xs[i]?)) := by
  refine ⟨fun i _ hi q => ⟨xs, xs[i], q, by simp [hi]⟩, fun _ q => ⟨xs, q, rfl⟩, fun i H v H' _ q y => ?_⟩
  obtain ⟨T, x, h1, h2, h3, h4⟩ := y
  exact ⟨T, .int (i : Nat), x, h1, h2, h3, rfl, h4 xs q⟩

/-! ### zip(tuple, list) -/
def ItzM (K : PySem.W.Frag) (a b : Addr) : It :=
  ⟨fun i H => ∃ (xs ys : List V) (x y : V), SqT K H a xs ∧ SqL K H b ys ∧ xs[i]? = some x ∧ ys[i]? = some y,
    fun i H v H' => ∃ T x y, v = .ref T ∧ H T = none ∧ H' = upd H T (.tup [x, y]) ∧ (∀ xs, SqT K H a xs → xs[i]? = some x) ∧ ∀ ys, SqL K H b ys → ys[i]? = some y,
    fun i H => ∃ xs ys : List V, SqT K H a xs ∧ SqL K H b ys ∧ xs.length = i ∧ ys.length = i⟩
theorem turn_zipM {P : Program} {w : World} {K : PySem.W.Frag} {elts : List Expr} {kk : Nat} {tpos : Pos} {a b z TI TO i1 i2 : Addr} (D : ZipSep2 z TI TO i1 i2 [i1, a] [i2, b]) (n1 : a ≠ i1) (n2 : b ≠ i2) :
    Turn P w K (.Tuple elts kk tpos) (ItzM K a b) [z, TI, TO, i1, i2] z (fun i h => IsZip h z TI TO .none ∧ IsTupOf2 h TI (.ref i1) (.ref i2) ∧ (∃ x y, IsTupOf2 h TO x y) ∧ h.IsTupleIter i1 a i ∧ h.IsListIter i2 b i) where
  mem := by simp
  obj := fun i h st c hc => by
    obtain ⟨hz, hTI, ⟨x, y, hTO⟩, ⟨o1, e1, _, d1⟩, ⟨o2, e2, _, d2⟩⟩ := st
    have e' : c = z ∨ c = TI ∨ c = TO ∨ c = i1 ∨ c = i2 := by simpa using hc
    rcases e' with q | q | q | q | q
    · rw [q]; exact ⟨_, hz, fun v q => nomatch q⟩
    · rw [q]; exact ⟨_, hTI, fun v q => nomatch q⟩
    · rw [q]; exact ⟨_, hTO, fun v q => nomatch q⟩
    · rw [q]; exact ⟨o1, e1, fun v q => by rw [d1] at q; cases q⟩
    · rw [q]; exact ⟨o2, e2, fun v q => by rw [d2] at q; cases q⟩
  keep := fun i h h' st k => by
    obtain ⟨hz, hTI, ⟨x, y, hTO⟩, h1, h2⟩ := st
    exact ⟨k z (by simp) _ hz, k TI (by simp) _ hTI, ⟨x, y, k TO (by simp) _ hTO⟩, h1.at fun o q => k i1 (by simp) o q, h2.at fun o q => k i2 (by simp) o q⟩
  item := by
    intro X hP hw hK hc i pins s σ H E I hf st hg
    subst hP hw hK
    obtain ⟨hz, hTI, ⟨x0, y0, hTO⟩, h1, h2⟩ := st
    obtain ⟨xs, ys, x, y, hqx, hqy, hx, hy⟩ := hg
    obtain ⟨its, rv, p, _⟩ := I.tuple hqx
    obtain ⟨its2, rv2, p2, _⟩ := I.list hqy
    obtain ⟨u, hu, ru⟩ := rv.get hx
    obtain ⟨u2, hu2, ru2⟩ := rv2.get hy
    have hzl : z < s.heap.objs.size := Heap.lt_size hz
    have l1 : i < its.toArray.size := by have := (List.getElem?_eq_some_iff.mp hu).1; simpa using this
    have l2 : i < its2.toArray.size := by have := (List.getElem?_eq_some_iff.mp hu2).1; simpa using this
    refine wpAny_pyNext_zipD2_item D (Draws.tuple (A := X.A.in1) (I.ok.hd hc) i1 a n1 its.toArray) (Draws.list (A := X.A.in1) (I.ok.hd hc) i2 b n2 its2.toArray) hz hTI hTO ⟨h1, p⟩ ⟨h2, p2.isList⟩ l1 l2 fun x' y' h' tk hP1 hP2 z' TO' h1' h2' hT hsz hk => ?_
    have ex' : x' = u := by
      have hP' : its.toArray[i]? = some x' := hP1
      rw [List.getElem?_toArray, hu] at hP'
      exact (Option.some.inj hP').symm
    have ey' : y' = u2 := by
      have hP' : its2.toArray[i]? = some y' := hP2
      rw [List.getElem?_toArray, hu2] at hP'
      exact (Option.some.inj hP').symm
    subst ex' ey'
    refine ⟨_, rfl, wpAny_letOwnedTupleGo_zip (s := { s with heap := h', toks := tk }) z' fun h'' z'' sb => ?_⟩
    have hT2 : h''.get? s.heap.objs.size = some { cls := .type "tuple", data := .seq #[x', y'] } := (sb.2 _ (Nat.ne_of_gt hzl)).trans hT
    have new : ObjOk X.prog X.w (upd H s.heap.objs.size (.tup [x, y])) h'' s.heap.objs.size (.tup [x, y]) :=
      ⟨by show 2 ≤ sizeLine; decide, [x', y'], .cons ru (.cons ru2 .nil), ⟨_, hT2, rfl, _, rfl⟩⟩
    have I1 : Inv X pins σ (upd H s.heap.objs.size (.tup [x, y])) { s with heap := h'', toks := tk } :=
      I.turnedNew (t' := tk) (ch := [z, TI, TO, i1, i2]) (fun c o hb q => (sb.2 c (fun q' => hb (by simp [q']))).trans (hk c o (fun q' => hb (by simp [q'])) (fun q' => hb (by simp [q'])) (fun q' => hb (by simp [q'])) (fun q' => hb (by simp [q'])) q)) hf (Nat.le_refl _) new
    have i1z : i1 ≠ z := fun q => D.zi1 q.symm
    have i2z : i2 ≠ z := fun q => D.zi2 q.symm
    refine ⟨.ref s.heap.objs.size, _, I1, rfl, ⟨_, x, y, rfl, I.hok.fresh (Nat.le_refl _), rfl, fun l hl => by rw [I.tuple_inj hl hqx]; exact hx, fun l hl => by rw [I.list_inj hl hqy]; exact hy⟩, ⟨z'', ?_, ⟨x', y', ?_⟩, ?_, ?_⟩, fun c hcm => ?_⟩
    · exact (sb.2 _ D.TIz).trans (hk _ _ D.TIz D.TITO D.TIi1 D.TIi2 hTI)
    · exact (sb.2 _ D.TOz).trans TO'
    · exact h1'.1.at fun o q => (sb.2 _ i1z).trans q
    · exact h2'.1.at fun o q => (sb.2 _ i2z).trans q
    · have hlt : c < s.heap.objs.size := by
        have e' : c = z ∨ c = TI ∨ c = TO ∨ c = i1 ∨ c = i2 := by simpa using hcm
        rcases e' with q | q | q | q | q
        · rw [q]; exact hzl
        · rw [q]; exact Heap.lt_size hTI
        · rw [q]; exact Heap.lt_size hTO
        · rw [q]; obtain ⟨_, e1, _⟩ := h1; exact Heap.lt_size e1
        · rw [q]; obtain ⟨_, e2, _⟩ := h2; exact Heap.lt_size e2
      rw [upd_ne (Nat.ne_of_lt hlt)]
      exact (hf c hcm).1
  done := by
    intro X hP hw hK hc i pins s σ H E I hf st hg
    subst hP hw hK
    obtain ⟨hz, hTI, ⟨x0, y0, hTO⟩, h1, h2⟩ := st
    obtain ⟨xs, ys, hqx, hqy, e1, e2⟩ := hg
    obtain ⟨its, rv, p, _⟩ := I.tuple hqx
    obtain ⟨its2, rv2, p2, _⟩ := I.list hqy
    have l1 := rv.length
    have l2 := rv2.length
    have m1 : i = its.toArray.size := by rw [List.size_toArray]; omega
    have m2 : i = its2.toArray.size := by rw [List.size_toArray]; omega
    exact wpAny_pyNext_zipD2_end D (Draws.tuple (A := X.A.in1) (I.ok.hd hc) i1 a n1 its.toArray) (Draws.list (A := X.A.in1) (I.ok.hd hc) i2 b n2 its2.toArray) hz hTI hTO ⟨h1, p⟩ ⟨h2, p2.isList⟩ (Nat.le_of_eq m1) (Nat.le_of_eq m2) (.inl m1) fun h' tk hk => ⟨rfl, I.turnedL (t' := tk) (ch := [z, TI, TO, i1, i2]) (fun c o hb q =>
      hk c o (fun q' => hb (by simp [q'])) (fun q' => hb (by simp [q'])) (fun q' => hb (by simp [q'])) (fun q' => hb (by simp [q'])) q) hf⟩
  self := fun A i s Q E st h => wpAny_pyIter_zip st.1 h
def iZipM (K : PySem.W.Frag) (ta : TA) : TI := fun σ H R => ta σ H fun vs H1 => ∃ a b xs ys, vs = [.ref a, .ref b] ∧ SqT K H1 a xs ∧ SqL K H1 b ys ∧ R (ItzM K a b) H1
theorem pi_zipM {X : Cx} {e e2 : Expr} {ta : TA} {p pos tpos : Pos} {elts : List Expr} {kk : Nat} (hg : Gl X "zip") (hm : X.mg "zip" = none) (ha : PA X [e, e2] ta)
    (hs : starEach [e, e2] X.env = (false, eval e X.env) :: starEach [e2] X.env := by rfl) (hpl : (backTo pos (starEach [e2] X.env)).any (·.1) = false := by rfl) :
    PI X (.Tuple elts kk tpos) (.Call (.Name "zip" p) [e, e2] [] pos) (iZipM X.K ta) := by
  refine ⟨fun pins s σ H R I h => ?_⟩
  refine Call_ (ld_blt I hg hm PyProof.Rows.boot_zip (PyProof.Rows.callWith_type1 (thn (ha.run pos pins s σ H _ I h) fun us s1 ⟨vs, H1, I1, r1, q1⟩ => ?_) hs hpl))
  obtain ⟨a, b, xs, ys, ex, hqx, hqy, q⟩ := q1
  subst ex
  cases r1 with
  | cons r rr =>
    cases rr with
    | cons r' rr =>
      cases rr
      cases r
      cases r'
      obtain ⟨its, rv, p1, _⟩ := I1.tuple hqx
      obtain ⟨its2, rv2, p2, _⟩ := I1.list hqy
      obtain ⟨oa, hoa, _⟩ := id p1
      have la : a < s1.heap.objs.size := Heap.lt_size hoa
      have lb : b < s1.heap.objs.size := p2.lt
      refine zip_begins2 (begins_tuple a its.toArray) (begins_list b its2.toArray) (show s1.heap.IsTuple a its.toArray from p1) p2.isList fun h' hz hTI hTO h1 h2 hsz hk => wpAny_pyIter_zip hz ?_
      have I2 : Inv X pins σ H1 { s1 with heap := h' } := I1.kept (t' := s1.toks) hk
      have S : ZipSep2 (s1.heap.objs.size + 4) (s1.heap.objs.size + 2) (s1.heap.objs.size + 3) s1.heap.objs.size (s1.heap.objs.size + 1) [s1.heap.objs.size, a] [s1.heap.objs.size + 1, b] :=
        zip_sep2 (N := s1.heap.objs.size) (fp1 := [a]) (fp2 := [b]) (fun c hc => by rw [List.mem_singleton.mp hc]; exact la) (fun c hc => by rw [List.mem_singleton.mp hc]; exact lb)
      refine ⟨s1.heap.objs.size + 4, [s1.heap.objs.size + 4, s1.heap.objs.size + 2, s1.heap.objs.size + 3, s1.heap.objs.size, s1.heap.objs.size + 1], _, _, H1, rfl, I2, turn_zipM S (Nat.ne_of_lt la) (Nat.ne_of_lt (Nat.lt_succ_of_lt lb)), ⟨hz, hTI, ⟨_, _, hTO⟩, ⟨_, h1, rfl, rfl⟩, ⟨_, h2, rfl, rfl⟩⟩, fun c hcm => ?_, q⟩
      have e' : c = s1.heap.objs.size + 4 ∨ c = s1.heap.objs.size + 2 ∨ c = s1.heap.objs.size + 3 ∨ c = s1.heap.objs.size ∨ c = s1.heap.objs.size + 1 := by simpa using hcm
      have hle : s1.heap.objs.size ≤ c := by
        rcases e' with z | z | z | z | z
        · rw [z]; exact Nat.le_add_right _ _
        · rw [z]; exact Nat.le_add_right _ _
        · rw [z]; exact Nat.le_add_right _ _
        · rw [z]; exact Nat.le_refl _
        · rw [z]; exact Nat.le_add_right _ _
      exact I1.fpOk hle (I1.hok.fresh hle)
theorem walk_zipM {K : PySem.W.Frag} {a b : Addr} {xs ys : List V} (hl : ys.length = xs.length) : Walk (ItzM K a b) xs.length (fun H => SqT K H a xs ∧ SqL K H b ys) (YPair (fun i => xs[i]?) (fun i => ys[i]?)) := by
  refine ⟨fun i _ hi q => ⟨xs, ys, xs[i], ys[i]'(by omega), q.1, q.2, by simp [hi], by simp [show i < ys.length by omega]⟩, fun _ q => ⟨xs, ys, q.1, q.2, rfl, hl⟩, fun i H v H' _ q y => ?_⟩
  obtain ⟨T, x, z, h1, h2, h3, h4, h5⟩ := y
  exact ⟨T, x, z, h1, h2, h3, h4 xs q.1, h5 ys q.2⟩

/-! ### sum, min of a tuple -/
section
variable {X : Cx}
def rSumT (K : PySem.W.Frag) : List V → Hp → VK → Prop := fun vs H Q => ∃ (a : Addr) (ns : List Int), vs = [V.ref a] ∧ SqT K H a (ns.map V.int) ∧ Q (.int ns.sum) H
theorem cr_sumT (hc : X.calm = true) : CallR X (.builtin "sum") (rSumT X.K) := by
  intro pins s σ H vs us Q I r h
  obtain ⟨a, ns, rfl, hs, q⟩ := h
  obtain ⟨its, rv, hl, _⟩ := I.tuple hs
  rw [Vals.ref1 r]
  have hi := rv.ints
  obtain ⟨xs, e⟩ := hi.allInts.items
  have hn : numsOf (intItems xs).toList = ns := by rw [← e]; exact hi.numsOf
  rw [nums_intItems] at hn
  have hl' : s.heap.IsTuple a (intItems xs) := by rw [← e]; exact hl
  refine PySem.W.ktm_sumG (I.ok.hd hc) hl' fun h' tk t' hk => ?_
  rw [preSum_eq, List.take_of_length_le (by simp), hn]
  exact ⟨.int _, H, I.kept hk, ⟨_, rfl⟩, q⟩
def rMinT (K : PySem.W.Frag) : List V → Hp → VK → Prop := fun vs H Q => ∃ (a : Addr) (ns : List Int), vs = [V.ref a] ∧ SqT K H a (ns.map V.int) ∧ 0 < ns.length ∧ ∀ m, m ∈ ns → (∀ y, y ∈ ns → m ≤ y) → Q (.int m) H
theorem min_intTuple {prog : Program} {w : World} {A : Around} {E : Value → Shared → Prop} {s : Shared} {l : Addr} {xs : Array (Int × Tok)} {Q : Value → Shared → Prop} (hh : A.handled = none) (hl : s.heap.IsTuple l (intItems xs)) (hne : 0 < xs.size)
    (h : ∀ v h' tk, (intItems xs)[argBest (fun i j => decide (numAt xs i < numAt xs j)) (xs.size - 1)]? = some v → (∀ b o, s.heap.get? b = some o → h'.get? b = some o) → Q v { s with heap := h', toks := tk }) :
    wpAny (model prog w) A (call (.builtin "min") [.ref l]) Q E s := by
  obtain ⟨o, ho, hc, n, hd⟩ := id hl
  have hne' : l ≠ s.heap.objs.size := Nat.ne_of_lt (Heap.lt_size ho)
  refine call_min_walk (wpAny_pyIter_tuple hl ?_)
  refine ⟨_, _, _, _, _, _, _, rfl, Walks.tuple (A := A.in1) hh s.heap.objs.size l hne' (intItems xs), ⟨⟨_, Heap.get?_push_size _ rfl, rfl, rfl⟩, hl.at fun o e => Heap.get?_push_of_some _ e⟩, fun b hb => ?_, by simpa [intItems] using hne, CmpOf.ints_lt (numAt xs) (fun _ _ => intItems_at), fun v h' tk hP hk => ?_⟩
  · rcases List.mem_cons.mp hb with rfl | hb
    · exact Heap.lt_size (Heap.get?_push_size _ rfl)
    · obtain rfl := List.mem_singleton.mp hb
      exact Heap.lt_size (Heap.get?_push_of_some _ ho)
  · exact h v h' tk (by simpa [intItems] using hP) fun b o e => hk b o (fun hb => absurd (Heap.lt_size e) ((List.mem_singleton.mp hb) ▸ Nat.lt_irrefl _)) (Heap.get?_push_of_some _ e)
theorem cr_minT (hc : X.calm = true) : CallR X (.builtin "min") (rMinT X.K) := by
  intro pins s σ H vs us Q I r h
  obtain ⟨a, ns, rfl, hs, hne, q⟩ := h
  obtain ⟨its, rv, hl, _⟩ := I.tuple hs
  rw [Vals.ref1 r]
  have hi := rv.ints
  obtain ⟨xs, e⟩ := hi.allInts.items
  have hn : numsOf (intItems xs).toList = ns := by rw [← e]; exact hi.numsOf
  rw [nums_intItems] at hn
  subst hn
  have hl' : s.heap.IsTuple a (intItems xs) := by rw [← e]; exact hl
  have hsz : 0 < xs.size := by simpa using hne
  refine min_intTuple (I.ok.hd hc) hl' hsz fun v h' tk hv hk => ?_
  obtain ⟨t, rfl⟩ := intItems_at hv
  obtain ⟨h1, h2⟩ := argBest_lt (numAt xs) (xs.size - 1)
  refine ⟨.int _, H, I.kept hk, ⟨_, rfl⟩, q _ ?_ fun a ha => ?_⟩
  · rw [numAt_eq]; exact PySem.getD_mem (by rw [List.length_map, Array.length_toList]; omega)
  · obtain ⟨j, hj, rfl⟩ := mem_getD ha
    rw [List.length_map, Array.length_toList] at hj
    rw [← numAt_eq]; exact h2 j (by omega)

/-! ### xs[i] op= e -/
def rGetL : V → V → Hp → VK → Prop := fun o i H Q => ∃ p xs j v, o = .ref p ∧ i = .int ((j : Nat) : Int) ∧ H p = some (.lst xs) ∧ xs[j]? = some v ∧ Q v H
theorem get_list : PGet X rGetL := by
  intro pins s σ H o i ov iv Q I r1 r2 h
  obtain ⟨p, xs, j, v, rfl, rfl, hp, hv, q⟩ := h
  cases r1
  obtain ⟨t, rfl⟩ := r2
  obtain ⟨hz, its, n, rv, hl, hg⟩ := I.lstM hp
  obtain ⟨u, hu, ru⟩ := rv.get hv
  have hj := (List.getElem?_eq_some_iff.mp hv).1
  have hs63 := line63
  refine PySem.wpAny_getItem_list (l := p) (items := its.toArray) ⟨_, hg, rfl, n, rfl⟩ (by omega) (by omega) (x := u) (by simpa using hu) ⟨v, H, I, ru, q⟩
end
end K98R
set_option Elab.async false
set_option linter.all false
set_option maxRecDepth 100000
set_option maxHeartbeats 4000000
/-! K98: tuple * int, once too. -/
namespace K98R
open PySem PySem.Spec PyProof.Rows L2
theorem tuple_mul_once (l : Addr) (items : Array Value) (n : Nat) (dd : Option Addr) (sl : Array (Option Value)) (x : Int) (u : Tok) (c0 : (decide (x < -(2 ^ 63)) || decide (x ≥ 2 ^ 63)) = false) (c1 : (items.isEmpty || x == 1) = true) :
    Meets (Builtin.«tuple.__mul__» ⟨[.ref l, .int x u], []⟩) (fun _ R s => s.heap.get? l = some { cls := .type "tuple", dict := dd, data := .seq items n, slots := sl } ∧ R (.ok (.ret (Value.ref l))) s) :=
  .of_wp fun prog w A R s h => by
    obtain ⟨hp, g, d, tk, os⟩ := s
    obtain ⟨hl, h⟩ := h
    have f1 := AutoSeq1.idx_int
    wp_walk using wpAny_loadPart' hl
    repeat (first
      | (refine wpAny_ite_false (decide_eq_false (by rw [c0]; exact Bool.false_ne_true)) ?_; wp_walk using wpAny_loadPart' hl)
      | (refine wpAny_ite_true (decide_eq_true c1) ?_; wp_walk using wpAny_loadPart' hl))
    exact ⟨_, rfl, h⟩
def rRepT1 (K : PySem.W.Frag) : R2 := fun x y H Q => ∃ l k xs, x = .ref l ∧ y = .int k ∧ SqT K H l xs ∧ xs ≠ [] ∧ 1 ≤ k ∧ k ≤ 1000 ∧ xs.length ≤ 1000 ∧ ∀ p H', Same H H' → SqT K H' p (List.replicate k.toNat xs).flatten → Q (.ref p) H'
section
variable {X : Cx} {K : PySem.W.Frag}
theorem op_repT1 (hK : X.K = K := by rfl) : OpR X (binaryOp .Mult) (rRepT1 K) := by
  subst hK
  intro pins s σ H x y v u Q I rx ry h
  obtain ⟨l, k, xs, rfl, rfl, hT, hne, h1, h2, hz, q⟩ := h
  by_cases hk : 2 ≤ k
  · refine op_repT pins s σ H _ _ v u Q I rx ry ⟨l, k, xs, rfl, rfl, hT, hne, hk, h2, hz, fun p np => q p _ (fun b x e => ?_) (.inl (.inl upd_same))⟩
    rw [upd_ne (ne_of_none e np)]; exact e
  · have hk1 : k = 1 := by omega
    subst hk1
    have q' := q l H (Same.refl _) (by rw [show (List.replicate (1 : Int).toNat xs).flatten = xs by simp]; exact hT)
    cases rx
    obtain ⟨t, rfl⟩ := ry
    obtain ⟨its, r, ⟨⟨cls, dd, data, sl⟩, ho, hc, n, hd⟩, hs⟩ := I.tuple hT
    simp only at hc hd
    subst hc hd
    have c0 : (decide ((1 : Int) < -(2 ^ 63)) || decide ((1 : Int) ≥ 2 ^ 63)) = false := by decide
    have c1 : (its.toArray.isEmpty || (1 : Int) == 1) = true := by rw [Bool.or_eq_true]; exact .inr rfl
    refine wpAny_binaryOp_repeat_ref (T := "tuple") (U := "int") (by decide) ⟨_, ho, rfl⟩ (fun s' => typeIs_int s' 1 t) noFill_tuple_mul F.fills_int_mul F.slot_int_rmul repeat_tuple F.slot_int_index.lookup
      (call_meets F.slot_int_rmul (typeIs_int s 1 t) F.entry_int_rmul (F.args_int_rmul_2 _ _) (int_rmul_tuple 1 t l its.toArray n dd sl)
        ⟨ho, rfl, ⟨_, ho, rfl⟩, call_meets F.slot_tuple_mul ⟨_, ho, rfl⟩ F.entry_tuple_mul (F.args_tuple_mul_2 _ _) (tuple_mul_once l its.toArray n dd sl 1 t c0 c1) ⟨ho, ?_⟩⟩)
    exact ⟨.ref l, H, I, rfl, q'⟩
end
end K98R
set_option Elab.async false
set_option linter.all false
set_option maxRecDepth 100000
set_option maxHeartbeats 4000000
/-! K98: the walk's ground: the text by places, what the top holds, calls, comprehensions, heaps. -/
namespace K98W
open PySem PySem.Spec PyProof.Rows L2 K98R
def top (i : Nat) : Stmt := PySem.Challenge.pw_wantprices_k98_whole_a_hand_more.main.body.getD i (.Pass ⟨0, 0, 0, 0⟩)
abbrev FnP (K : PySem.W.Frag) (x : Str) (st : Stmt) (f : Addr) (fd : FuncData) : Prop := FunD K x x (defArgs st) (defBody st) (defScope st) [] [] f fd
/-- the def st stands at the global x -/
structure Here (K : PySem.W.Frag) (mg : Str → Option Value) (x : Str) (st : Stmt) : Prop where
  ex : ∃ (f : Addr) (fd : FuncData), FnP K x st f fd ∧ mg x = some (.ref f)
structure Defs (K : PySem.W.Frag) (mg : Str → Option Value) : Prop where
  f_things_in : Here K mg "things_in" (top 5)
  f_far_heap : Here K mg "far_heap" (top 7)
  f_turned : Here K mg "turned" (top 8)
  f_things_beside : Here K mg "things_beside" (top 9)
  f_is_pair : Here K mg "is_pair" (top 10)
  f_is_three : Here K mg "is_three" (top 11)
  f_first_pair : Here K mg "first_pair" (top 12)
  f_threes_beside : Here K mg "threes_beside" (top 13)
  f_first_three : Here K mg "first_three" (top 14)
  f_breaking : Here K mg "breaking" (top 15)
  f_first_strange : Here K mg "first_strange" (top 16)
  f_all_gains : Here K mg "all_gains" (top 18)
  f_greatest_gain : Here K mg "greatest_gain" (top 19)
  f_top_of : Here K mg "top_of" (top 23)
  f_first_prices : Here K mg "first_prices" (top 24)
  f_change_of : Here K mg "change_of" (top 25)
  f_stepped : Here K mg "stepped" (top 26)
  f_paid_and_gained : Here K mg "paid_and_gained" (top 27)
  f_least_step : Here K mg "least_step" (top 28)
  f_kind_checked : Here K mg "kind_checked" (top 29)
  f_steps_by : Here K mg "steps_by" (top 30)
  f_rising : Here K mg "rising" (top 31)
  f_falling : Here K mg "falling" (top 32)
  f_heaps_within : Here K mg "heaps_within" (top 34)
  f_sums_by_heap : Here K mg "sums_by_heap" (top 35)
  f_greatest : Here K mg "greatest" (top 36)
  f_greatest_of : Here K mg "greatest_of" (top 37)
  f_doubled : Here K mg "doubled" (top 38)
  f_greatest_with_two : Here K mg "greatest_with_two" (top 39)
  f_least_price : Here K mg "least_price" (top 41)
  f_greatest_price : Here K mg "greatest_price" (top 42)
  f_refuse_strange : Here K mg "refuse_strange" (top 43)
  f_low_prices : Here K mg "low_prices" (top 44)
  f_high_prices : Here K mg "high_prices" (top 45)
  f_is_beyond : Here K mg "is_beyond" (top 47)
  f_steps_from : Here K mg "steps_from" (top 48)
  f_rising_from : Here K mg "rising_from" (top 49)
  f_falling_from : Here K mg "falling_from" (top 50)
  f_l_stirred : Here K mg "_law_stirred" (top 52)
  f_l_pot : Here K mg "_law_pot" (top 53)
  f_l_draw : Here K mg "_law_draw" (top 54)
  f_l_costs : Here K mg "_law_costs" (top 55)
  f_l_bits : Here K mg "_law_bits" (top 56)
  f_l_some : Here K mg "_law_some" (top 57)
  f_l_paired : Here K mg "_law_paired" (top 58)
  f_l_joined : Here K mg "_law_joined" (top 59)
  f_l_kind_want : Here K mg "_law_kind_want" (top 60)
  f_l_no_less : Here K mg "_law_no_less" (top 61)
  f_law : Here K mg "law" (top 62)
  len_ : mg "len" = none
  list_ : mg "list" = none
  sum_ : mg "sum" = none
  tuple_ : mg "tuple" = none
  sorted_ : mg "sorted" = none
  enumerate_ : mg "enumerate" = none
  min_ : mg "min" = none
  abs_ : mg "abs" = none
  all_ : mg "all" = none
  max_ : mg "max" = none
  range_ : mg "range" = none
  int_ : mg "int" = none
  zip_ : mg "zip" = none
  BELOW_ : ∃ t, mg "BELOW" = some (.int 1 t)
  ABOVE_ : ∃ t, mg "ABOVE" = some (.int (-1) t)
theorem bt_len : bootBuiltins "len" = some (.builtin "len") := by decide +kernel
theorem bt_sum : bootBuiltins "sum" = some (.builtin "sum") := by decide +kernel
theorem bt_sorted : bootBuiltins "sorted" = some (.builtin "sorted") := by decide +kernel
theorem bt_min : bootBuiltins "min" = some (.builtin "min") := by decide +kernel
theorem bt_max : bootBuiltins "max" = some (.builtin "max") := by decide +kernel
theorem bt_abs : bootBuiltins "abs" = some (.builtin "abs") := by decide +kernel
theorem bt_all : bootBuiltins "all" = some (.builtin "all") := by decide +kernel
theorem bt_list : bootBuiltins "list" = some (.type "list") := by decide +kernel
theorem bt_tuple : bootBuiltins "tuple" = some (.type "tuple") := by decide +kernel
theorem bt_int : bootBuiltins "int" = some (.type "int") := by decide +kernel

/-- the def of the global x keeps the promise sp -/
structure Callee (P : Program) (w : World) (K : PySem.W.Frag) (mg : Str → Option Value) (base : Heap) (k : Nat) (x : Str) (ps : List Str) (sp : Sp) : Prop where
  ex : ∃ (f : Addr) (fd : FuncData), FnOk P w K mg base CX0 k f fd ps sp ∧ mg x = some (.ref f) ∧ PySem.W.keepIn K (.ref f) = true ∧ Binds K fd ps []
section
variable {P : Program} {w : World} {K : PySem.W.Frag} {mg : Str → Option Value} {base : Heap}
theorem callee_mk {x : Str} {st : Stmt} {N ps : List Str} {k : Nat} {sp : Sp} (F : Here K mg x st) (S : FnScope N ps (defScope st))
    (hb : ∀ (kV doc pm : Value) (an : Option Addr) (cdv ct : Value) (us : List Value), us.length = ps.length → bindArgs (PySem.W.fnOf x x (defArgs st) (defBody st) (defScope st) .none kV doc pm an cdv ct) ⟨us, []⟩ = pure (ps.zip us))
    (len : ∀ vs H Q E, sp vs H Q E → vs.length = ps.length)
    (body : ∀ (f : Addr) (cdv : Value) (A : Around) (outer : List Env) (s : Shared) (H : Hp) (vs : List V) (Q : VK) (E : XK), Room k (A.deeper (envOfC x (defScope st) s.heap.objs.size f cdv)) → sp vs H Q E →
      ∃ t, PSs (cxOf CX0 P w K mg base N x (defScope st) f cdv A outer s H E).nox (defBody st) t ∧ t { nx := fun _ H' => Q .non H', rt := Q } (start N vs) H) : Callee P w K mg base (k + 1) x ps sp := by
  obtain ⟨f, fd, FF, hm⟩ := F.ex
  refine ⟨f, fd, FF.ok S len fun cdv A outer s H vs Q E hr h => ?_, hm, FF.kp, FF.bindsN hb⟩
  obtain ⟨t, h1, h2⟩ := body f cdv A outer s H vs Q E hr h
  exact ⟨t, h1.nox, h2⟩
end

/-! ### heaps -/
theorem _root_.L2.Same.tup {K : PySem.W.Frag} {H H' : Hp} {a : Addr} {xs : List V} (e : Same H H') (h : SqT K H a xs) : SqT K H' a xs := by
  rcases h with (h | ⟨o, h⟩) | h
  · exact .inl (.inl (e _ _ h))
  · exact .inl (.inr ⟨o, e _ _ h⟩)
  · exact .inr h
theorem same_new {H : Hp} {p : Addr} {o : HO} (h : H p = none) : Same H (upd H p o) := fun b x e => by
  rw [upd_ne (ne_of_none e h)]; exact e
/-- what is written at an address that was free at first -/
theorem _root_.L2.Same.put {H H' : Hp} {p : Addr} {o : HO} (e : Same H H') (h : H p = none) : Same H (upd H' p o) := fun b x q => by
  rw [upd_ne (ne_of_none q h)]; exact e b x q
theorem SqT.new {K : PySem.W.Frag} {H : Hp} {p : Addr} {xs : List V} : SqT K (upd H p (.tup xs)) p xs := .inl (.inl upd_same)
theorem SqL.new {K : PySem.W.Frag} {H : Hp} {p : Addr} {xs : List V} : SqL K (upd H p (.lst xs)) p xs := .inl (.inl upd_same)

/-! ### comprehensions whose items are known -/
theorem lc_fm {J : It} {n : Nat} {G : Hp → Prop} {Y : Nat → Hp → V → Hp → Prop} (w : Walk J n G Y) {g : TG} {tt : TT} {te : TE} {vs : List Nat} {σ : L2.St} {H1 : Hp} {D : Addr} {Qd : Hp → Prop} (keep : Nat → Bool) (f : Nat → V)
    (hD : H1 D = none) (hn : n ≤ sizeLine) (hG : ∀ H, Same H1 H → G H)
    (turn : ∀ i x H H' (R : V → Hp → Prop) (R0 : Hp → Prop), i < n → Same H1 H → Y i H x H' → (keep i = true → ∀ H4, Same H H4 → R (f i) H4) → (keep i = false → ∀ H3, Same H H3 → R0 H3) →
      g x (wipe σ vs) H' fun σ2 H2 => wipe σ2 vs = wipe σ vs ∧ tt σ2 H2 fun b H3 => if b = true then te σ2 H3 R else R0 H3)
    (done : ∀ H, Same H1 H → H D = some (.lst (((List.range n).filter keep).map f)) → Qd H) :
    ∃ W : Nat → Nat → Hp → Prop, (∃ m, W 0 m (upd H1 D (.lst []))) ∧ ∀ i m H, W i m H →
      (J.stop i H ∧ Qd H) ∨ (J.go i H ∧ ∃ Nx : Hp → Prop, (∀ H', Nx H' → ∃ m', m' < m ∧ W (i + 1) m' H') ∧ ∀ x H', J.yld i H x H' → g x (wipe σ vs) H' fun σ2 H2 => wipe σ2 vs = wipe σ vs ∧ tt σ2 H2 fun b H3 =>
        if b = true then te σ2 H3 fun y H4 => ∃ acc, H4 D = some (.lst acc) ∧ acc.length < sizeLine ∧ Nx (upd H4 D (.lst (acc ++ [y]))) else Nx H3) := by
  refine lc_it w (fun i H => Same H1 H ∧ H D = some (.lst (((List.range i).filter keep).map f))) ⟨same_new hD, by rw [upd_same]; rfl⟩ (fun i H _ p => hG H p.1) (fun i x H H' hi p hy => ?_) (fun H p => done H p.1 p.2)
  refine turn i x H H' _ _ hi p.1 hy (fun hk H4 s4 => ?_) (fun hk H3 s3 => ?_)
  · refine ⟨_, s4 _ _ p.2, ?_, ?_⟩
    · rw [List.length_map]
      have := List.length_filter_le keep (List.range i)
      rw [List.length_range] at this
      exact Nat.lt_of_le_of_lt this (Nat.lt_of_lt_of_le hi hn)
    · refine ⟨(p.1.trans s4).put hD, ?_⟩
      rw [upd_same, List.range_succ, List.filter_append, List.map_append]
      simp [hk]
  · refine ⟨p.1.trans s3, ?_⟩
    rw [s3 _ _ p.2, List.range_succ, List.filter_append, List.map_append]
    simp [hk]
theorem lc_mp {J : It} {n : Nat} {G : Hp → Prop} {Y : Nat → Hp → V → Hp → Prop} (w : Walk J n G Y) {g : TG} {te : TE} {vs : List Nat} {σ : L2.St} {H1 : Hp} {D : Addr} {Qd : Hp → Prop} (f : Nat → V)
    (hD : H1 D = none) (hn : n ≤ sizeLine) (hG : ∀ H, Same H1 H → G H)
    (turn : ∀ i x H H' (R : V → Hp → Prop), i < n → Same H1 H → Y i H x H' → (∀ H4, Same H H4 → R (f i) H4) → g x (wipe σ vs) H' fun σ2 H2 => wipe σ2 vs = wipe σ vs ∧ te σ2 H2 R)
    (done : ∀ H, Same H1 H → H D = some (.lst ((List.range n).map f)) → Qd H) :
    ∃ W : Nat → Nat → Hp → Prop, (∃ m, W 0 m (upd H1 D (.lst []))) ∧ ∀ i m H, W i m H →
      (J.stop i H ∧ Qd H) ∨ (J.go i H ∧ ∃ Nx : Hp → Prop, (∀ H', Nx H' → ∃ m', m' < m ∧ W (i + 1) m' H') ∧ ∀ x H', J.yld i H x H' → g x (wipe σ vs) H' fun σ2 H2 => wipe σ2 vs = wipe σ vs ∧ tYes σ2 H2 fun b H3 =>
        if b = true then te σ2 H3 fun y H4 => ∃ acc, H4 D = some (.lst acc) ∧ acc.length < sizeLine ∧ Nx (upd H4 D (.lst (acc ++ [y]))) else Nx H3) := by
  refine lc_it w (fun i H => Same H1 H ∧ H D = some (.lst ((List.range i).map f))) ⟨same_new hD, by rw [upd_same]; rfl⟩ (fun i H _ p => hG H p.1) (fun i x H H' hi p hy => ?_) (fun H p => done H p.1 p.2)
  have := turn i x H H' (fun y H4 => ∃ acc, H4 D = some (.lst acc) ∧ acc.length < sizeLine ∧ (Same H1 (upd H4 D (.lst (acc ++ [y]))) ∧ (upd H4 D (.lst (acc ++ [y]))) D = some (.lst ((List.range (i + 1)).map f)))) hi p.1 hy (fun H4 s4 => ?_)
  · simp only [tYes, eq_self, if_true]
    exact this
  · refine ⟨_, s4 _ _ p.2, ?_, (p.1.trans s4).put hD, ?_⟩
    · rw [List.length_map, List.length_range]
      exact Nat.lt_of_lt_of_le hi hn
    · rw [upd_same, List.range_succ, List.map_append]
      rfl
theorem range_all (n : Nat) : (List.range n).filter (fun _ => true) = List.range n := List.filter_eq_self.mpr fun _ _ => rfl

/-! ### a list or a tuple walked -/
def iAny (K : PySem.W.Frag) (tl : TE) : TI := fun σ H R => tl σ H fun x H1 => ∃ (a : Addr) (xs : List V), x = .ref a ∧ (SqL K H1 a xs ∨ SqT K H1 a xs) ∧ ∀ J : It, Walk J xs.length (fun H => Same H1 H) (YAt xs) → R J H1
theorem pi_any {X : Cx} {K : PySem.W.Frag} {tg l : Expr} {tl : TE} (hl : PE X l tl) (hK : X.K = K := by rfl) : PI X tg l (iAny K tl) := by
  subst hK
  refine ⟨fun pins s σ H R I h => ?_⟩
  refine thn (hl.run pins s σ H _ I h) fun v s1 ⟨x, H1, I1, r1, q1⟩ => ?_
  obtain ⟨a, xs, e, hq | hq, q⟩ := q1
  · subst e
    cases r1
    obtain ⟨its, rv, p, hz⟩ := I1.list hq
    refine wpAny_pyIter_list p.isList ?_
    refine ⟨s1.heap.objs.size, [s1.heap.objs.size], _, _, H1, rfl, I1.kept (t' := s1.toks) fun b o e => Heap.get?_push_of_some _ e, turn_list a _, ⟨_, Heap.get?_push_size _ rfl, rfl, rfl⟩, fun b hb => ?_, q _ ((walk_list (xs := xs)).mono (fun H' s => s.seq hq) fun _ _ _ _ _ _ y => y)⟩
    have e : b = s1.heap.objs.size := by simpa using hb
    subst e
    exact I1.fpOk (Nat.le_refl _) (I1.hok.fresh (Nat.le_refl _))
  · subst e
    cases r1
    obtain ⟨its, rv, p, hz⟩ := I1.tuple hq
    refine wpAny_pyIter_tuple (show s1.heap.IsTuple a its.toArray from p) ?_
    refine ⟨s1.heap.objs.size, [s1.heap.objs.size], _, _, H1, rfl, I1.kept (t' := s1.toks) fun b o e => Heap.get?_push_of_some _ e, turn_tuple a _, ⟨_, Heap.get?_push_size _ rfl, rfl, rfl⟩, fun b hb => ?_, q _ ((walk_tup (xs := xs)).mono (fun H' s => s.tup hq) fun _ _ _ _ _ _ y => y)⟩
    have e : b = s1.heap.objs.size := by simpa using hb
    subst e
    exact I1.fpOk (Nat.le_refl _) (I1.hok.fresh (Nat.le_refl _))

/-! ### rules whose written part is named (within comprehensions) -/
section
variable {X : Cx} {K : PySem.W.Frag}
theorem ix_listK (h : X.K = K := by rfl) : IxR X (rIxL K) := h ▸ ix_list
theorem ix_tupK (h : X.K = K := by rfl) : IxR X (rIxT K) := h ▸ ix_tup
theorem ix_seqK (h : X.K = K := by rfl) : IxR X (rIx K) := h ▸ ix_seq
theorem cr_maxK (hc : X.calm = true) (h : X.K = K := by rfl) : CallR X (.builtin "max") (rMax K) := h ▸ cr_max hc
theorem pi_listK {tg l : Expr} {tl : TE} (hl : PE X l tl) (h : X.K = K := by rfl) : PI X tg l (iList K tl) := h ▸ pi_list hl
theorem op_notIn_seqK (h : X.K = K := by rfl) : OpR X (compareOp .NotIn) (rIn K true) := h ▸ op_notIn_seq
end
theorem walk_range0 {n : Nat} : Walk (Itr 0 n) n (fun _ => True) (fun i H x H' => H' = H ∧ x = .int ((i : Nat) : Int)) :=
  walk_range.mono (fun _ _ => trivial) fun i H x H' _ _ y => ⟨y.1, y.2.trans (by show V.int (0 + (i : Int)) = _; rw [Int.zero_add])⟩

/-! ### lists of ints -/
abbrev iv (ns : List Int) : List V := ns.map V.int
theorem iv_get {ns : List Int} {i : Nat} (h : i < ns.length) : (iv ns)[i]? = some (.int (K98.tabAt ns i)) := by
  rw [List.getElem?_map, K98.tab_get h]; rfl
theorem iv_len (ns : List Int) : (iv ns).length = ns.length := List.length_map ..
theorem at_iv {ns : List Int} {i : Nat} {z : Int} (e : z = (i : Int)) (h : i < ns.length) : atI (iv ns) z = some (.int (K98.tabAt ns i)) := at_of e (iv_get h)
theorem at_nat {xs : List V} {i : Nat} {z : Int} {v : V} (e : z = (i : Int)) (h : xs[i]? = some v) : atI xs z = some v := at_of e h
end K98W
set_option Elab.async false
set_option linter.all false
set_option maxRecDepth 100000
set_option maxHeartbeats 4000000
/-! K98 walk A: heaps as bits, kinds' smallest defs. -/
namespace K98W
open PySem PySem.Spec PyProof.Rows L2 K98R
open K98 (tabAt)

/-! ### bits -/
theorem pow2_cast (t : Nat) : (2 : Int) ^ ((t : Int)).toNat = ((2 ^ t : Nat) : Int) := by
  rw [Int.toNat_natCast, Int.natCast_pow]; rfl
theorem shr_eq (h t : Nat) : (h : Int) / 2 ^ ((t : Int)).toNat = ((h / 2 ^ t : Nat) : Int) := by
  rw [pow2_cast, Int.natCast_ediv]
theorem shl_eq (t : Nat) : (1 : Int) * 2 ^ ((t : Int)).toNat = ((2 ^ t : Nat) : Int) := by
  rw [pow2_cast, Int.one_mul]
theorem band_eq (a b : Nat) : Builtin.bitAnd (a : Int) (b : Int) = ((a &&& b : Nat) : Int) := PySem.W.os_band a b
theorem bit_eq (h t : Nat) : Builtin.bitAnd ((h : Int) / 2 ^ ((t : Int)).toNat) 1 = if h.testBit t then 1 else 0 := by
  rw [shr_eq]
  have e : Builtin.bitAnd ((h / 2 ^ t : Nat) : Int) ((1 : Nat) : Int) = ((h / 2 ^ t &&& 1 : Nat) : Int) := band_eq _ _
  rw [show ((1 : Nat) : Int) = 1 from rfl] at e
  rw [e, Nat.and_one_is_mod, Nat.testBit_eq_decide_div_mod_eq]
  by_cases q : h / 2 ^ t % 2 = 1
  · rw [q, decide_eq_true rfl]; rfl
  · have : h / 2 ^ t % 2 = 0 := by omega
    rw [this]; rfl
theorem bit_test (h t : Nat) : decide (V.int (Builtin.bitAnd ((h : Int) / 2 ^ ((t : Int)).toNat) 1) = V.int 1) = h.testBit t := by
  rw [bit_eq]
  cases h.testBit t <;> decide
theorem bit_test0 (h t : Nat) : decide (V.int (Builtin.bitAnd ((h : Int) / 2 ^ ((t : Int)).toNat) 1) = V.int 0) = !h.testBit t := by
  rw [bit_eq]
  cases h.testBit t <;> decide
theorem cpow1 (t : Nat) (h : t ≤ 100) : CPow 1 (t : Int) := ⟨Int.natCast_nonneg t, by omega, by decide⟩

def nv (l : List Nat) : List V := l.map fun n => V.int (n : Nat)
def bitsB (h t : Nat) : List Nat := (List.range t).filter h.testBit
theorem bitsB_succ (h t : Nat) : bitsB h (t + 1) = bitsB h t ++ (if h.testBit t then [t] else []) := by
  unfold bitsB
  rw [List.range_succ, List.filter_append]
  cases e : h.testBit t <;> simp [e]
theorem bitsB_end {h t : Nat} (h0 : h / 2 ^ t = 0) (ht : t ≤ 6) : bitsB h t = bitsB h 6 := by
  have hlt : h < 2 ^ t := by
    have := (Nat.div_eq_zero_iff).mp h0
    rcases this with q | q
    · have := Nat.two_pow_pos t; omega
    · exact q
  have key : ∀ j : Nat, bitsB h (t + j) = bitsB h t := fun j => by
    induction j with
    | zero => rfl
    | succ j ih =>
      rw [show t + (j + 1) = (t + j) + 1 from rfl, bitsB_succ, ih, Nat.testBit_lt_two_pow (Nat.lt_of_lt_of_le hlt (Nat.pow_le_pow_right (by decide) (by omega)))]
      simp
  rw [← key (6 - t), show t + (6 - t) = 6 by omega]
theorem bitsB_len (h t : Nat) : (bitsB h t).length ≤ t := by
  unfold bitsB
  have := List.length_filter_le h.testBit (List.range t)
  rw [List.length_range] at this
  exact this
theorem small_line {n : Nat} (h : n ≤ 1000000) : n < sizeLine := Nat.lt_of_le_of_lt h (by decide)

section
variable {P : Program} {w : World} {K : PySem.W.Frag} {mg : Str → Option Value} {base : Heap}
/-! ### things_in: the bits of a heap, rising -/
def sp_things_in (K : PySem.W.Frag) : Sp := fun vs H Q _ => ∃ h : Nat, vs = [.int h] ∧ h < 64 ∧ ∀ H' p, Same H H' → H p = none → H' p = some (.tup (nv (bitsB h 6))) → Q (.ref p) H'
theorem sc_things_in : FnScope ["heap", "found", "thing"] ["heap"] (defScope (top 5)) := ⟨rfl, rfl, rfl, by decide +kernel, rfl, by decide +kernel, by decide +kernel⟩
theorem ok_things_in (D : Defs K mg) : Callee P w K mg base 1 "things_in" ["heap"] (sp_things_in K) := by
  refine callee_mk D.f_things_in sc_things_in (fun _ _ _ _ _ _ us hl => match us, hl with | [_], _ => rfl) (fun vs H Q E h => ?_) (fun f cdv A outer s H vs Q E hr h => ?_)
  · obtain ⟨h0, rfl, _⟩ := h; rfl
  · obtain ⟨h0, rfl, hlt, q⟩ := h
    refine ⟨_, (pss_cons (ps_set (i := 1) sc_things_in.nd rfl (.inl rfl) (pe_lst pa_nil)) (pss_cons (ps_set (i := 2) sc_things_in.nd rfl (.inl rfl) pe_int) (pss_cons (ps_while PassesOwn.never (pt_cmpR op_gt (pe_op op_shr (pv 0) (pv 2)) pe_int (nomark _)) (pss_cons (ps_if (pt_cmpR op_eq (pe_op op_and (pe_op op_shr (pv 0) (pv 2)) pe_int) pe_int (nomark _)) (pss_one (ps_expr (pe_bm PySem.F.plainAttrs_list PySem.F.slot_list_append PySem.F.type_list_append mt_append (pv 1) (pa_cons (pv 2) pa_nil)))) pss_nil) (pss_one (ps_aug (i := 2) sc_things_in.nd rfl (.inl rfl) pe_int ip_add)))) (pss_one (ps_ret (pe_callTy call_tuple_of (by rfl) D.tuple_ bt_tuple (pa_cons (pv 1) pa_nil))))))), ?_⟩
    refine ⟨Nat.zero_le _, fun l hl => ?_⟩
    refine while_by (fun σ H' => ∃ t : Nat, σ = [some (.int h0), some (.ref l), some (.int t)] ∧ t ≤ 6 ∧ Same H H' ∧ H' l = some (.lst (nv (bitsB h0 t))))
      (fun σ _ => match σ with
        | [_, _, some (.int t)] => (6 - t).toNat
        | _ => 0) ⟨0, rfl, by omega, same_new hl, upd_same⟩ ?_ ?_
    · rintro σ H1 ⟨t, rfl, ht, s1, e1⟩
      refine ⟨_, rfl, _, rfl, _, _, rfl, rfl, by omega, _, _, rfl, rfl, _, rfl, ?_⟩
      refine ite2 (fun hc => ?_) (fun hc => ?_)
      · have hc' := of_decide_eq_true hc
        rw [shr_eq] at hc'
        have ht6 : t < 6 := by
          by_cases e : t = 6
          · subst e
            rw [Nat.div_eq_of_lt hlt] at hc'
            exact absurd hc' (by decide)
          · omega
        refine ⟨_, rfl, _, rfl, _, _, rfl, rfl, by omega, _, _, rfl, rfl, rfl, _, rfl, ?_⟩
        refine ite2 (fun hb => ?_) (fun hb => ?_)
        · have eb : h0.testBit t = true := (bit_test h0 t).symm.trans hb
          refine ⟨_, rfl, .inl ⟨rfl, _, SqL.of e1⟩, _, rfl, l, _, _, rfl, rfl, e1, ?_, ?_⟩
          · rw [nv, List.length_map]
            exact small_line (by have := bitsB_len h0 t; omega)
          · refine ⟨_, rfl, _, _, rfl, rfl, ⟨t + 1, rfl, by omega, s1.put hl, ?_⟩, ?_⟩
            · rw [upd_same, bitsB_succ, eb]
              simp [nv]
            · show (6 - ((t : Int) + 1)).toNat < (6 - (t : Int)).toNat
              omega
        · have eb : h0.testBit t = false := Bool.eq_false_iff.mpr fun z => hb ((bit_test h0 t).trans z)
          refine ⟨_, rfl, _, _, rfl, rfl, ⟨t + 1, rfl, by omega, s1, ?_⟩, ?_⟩
          · rw [e1, bitsB_succ, eb]
            simp
          · show (6 - ((t : Int) + 1)).toNat < (6 - (t : Int)).toNat
            omega
      · have hc' : ¬ (0 : Int) < (h0 : Int) / 2 ^ ((t : Int)).toNat := fun z => hc (decide_eq_true z)
        rw [shr_eq] at hc'
        have hz : h0 / 2 ^ t = 0 := Nat.eq_zero_of_not_pos fun z => hc' (Int.natCast_pos.mpr z)
        refine ⟨_, rfl, l, _, rfl, .inl ⟨SqL.of e1, fun p hp => ?_⟩⟩
        refine q _ p (s1.trans (same_new hp)) (s1.free hp) ?_
        rw [upd_same, bitsB_end hz ht]
    · rintro σ H1 Q1 Q2 hq ⟨v, e1, v2, e2, i, j, e3, e4, c1, i2, j2, e5, e6, k, e7, q1⟩
      exact ⟨v, e1, v2, e2, i, j, e3, e4, c1, i2, j2, e5, e6, k, e7, hq _ _ q1⟩
end
end K98W
set_option Elab.async false
set_option linter.all false
set_option maxRecDepth 100000
set_option maxHeartbeats 4000000
/-! K98 walk B: far_heap, turned, things_beside, is_pair, is_three. -/
namespace K98W
open PySem PySem.Spec PyProof.Rows L2 K98R
open K98 (tabAt)

theorem bor_eq (a b : Nat) : Builtin.bitOr (a : Int) (b : Int) = ((a ||| b : Nat) : Int) := by
  rw [Bits.bitOr_pp (Int.natCast_nonneg a) (Int.natCast_nonneg b), Int.toNat_natCast, Int.toNat_natCast]
theorem bor_pow (h i : Nat) : Builtin.bitOr (h : Int) ((1 : Int) * 2 ^ ((i : Int)).toNat) = ((h ||| 2 ^ i : Nat) : Int) := by
  rw [shl_eq, bor_eq]
theorem range_map_tab (tab : List Int) : (List.range tab.length).map (fun i => V.int (tabAt tab i)) = iv tab := by
  refine List.ext_getElem? fun i => ?_
  by_cases h : i < tab.length
  · rw [List.getElem?_map, List.getElem?_range h, iv_get h]; rfl
  · rw [List.getElem?_eq_none (by simp; omega), List.getElem?_eq_none (by simp; omega)]
theorem rep_at {m i : Nat} {x y : V} (h : (List.replicate m y)[i]? = some x) : x = y := by
  rw [List.getElem?_replicate] at h
  split at h
  · exact (Option.some.inj h).symm
  · cases h
theorem len64 {tab : List Int} {m : Nat} (h : tab.length = 2 ^ m) (hm : m ≤ 6) : tab.length ≤ 64 := by
  rw [h]
  exact Nat.le_trans (Nat.pow_le_pow_right (n := 2) (by decide) hm) (by decide)
theorem le_line {n : Nat} (h : n ≤ 1000000) : n ≤ sizeLine := Nat.le_of_lt (small_line h)

section
variable {P : Program} {w : World} {K : PySem.W.Frag} {mg : Str → Option Value} {base : Heap}
def zeros (m : Nat) : List V := List.replicate m (V.int 0)
def sp_far_heap (K : PySem.W.Frag) : Sp := fun vs H Q _ => ∃ (b : Addr) (m : Nat), vs = [.ref b] ∧ SqT K H b (zeros m) ∧ m ≤ 5 ∧ ∀ H', Same H H' → Q (.int 0) H'
theorem sc_far_heap : FnScope ["sides", "thing", "side"] ["sides"] (defScope (top 7)) := ⟨rfl, rfl, rfl, by decide +kernel, rfl, by decide +kernel, by decide +kernel⟩
theorem ok_far_heap (D : Defs K mg) : Callee P w K mg base 1 "far_heap" ["sides"] (sp_far_heap K) := by
  refine callee_mk D.f_far_heap sc_far_heap (fun _ _ _ _ _ _ us hl => match us, hl with | [_], _ => rfl) (fun vs H Q E h => ?_) (fun f cdv A outer s H vs Q E hr h => ?_)
  · obtain ⟨b, m, rfl, _⟩ := h; rfl
  · obtain ⟨b, m, rfl, hb, hm, q⟩ := h
    refine ⟨_, (pss_one (ps_ret (pe_callB (cr_sum rfl) (by rfl) D.sum_ bt_sum (pa_cons (pe_lc (own := [("thing", 1), ("side", 2)]) (g := (gTup K 2 (gCons (gName 1) (gCons (gName 2) gNil)))) rfl sc_far_heap.nd (pi_enumT (by rfl) D.enumerate_ (pa_cons (pv 0) pa_nil)) (blkOk_by (own := [("thing", 1), ("side", 2)]) (N := ["sides", "thing", "side"]) (sc := defScope (top 7)) (by decide +kernel)) (fun _ _ _ _ _ => (pg_tup rfl (pgs_cons (pg_name (i := 1) sc_far_heap.nd rfl (.inl rfl)) (pgs_cons (pg_name (i := 2) sc_far_heap.nd rfl (.inl rfl)) pgs_nil)))) (fun _ _ _ _ _ => (pts_one (pt_cmpR op_eq (pv 2) pe_int (nomark _)))) (fun _ _ _ _ _ => (pe_op op_shl pe_int (pv 1)))) pa_nil)))), ?_⟩
    refine ⟨_, rfl, b, _, rfl, hb, fun L hL => ?_⟩
    refine lc_fm (K98R.walk_enumT (K := K) (a := b) (xs := zeros m)) (fun _ => false) (fun _ => .non) hL (le_line (by simp [zeros]; omega)) (fun H1 s1 => s1.tup hb) (fun i x H1 H2 R R0 hi s1 hy hk hk0 => ?_) (fun H1 s1 e1 => ?_)
    · obtain ⟨t, x1, x2, rfl, nT, rfl, e1, e2⟩ := hy
      have ex := rep_at e2
      subst ex
      refine ⟨t, _, rfl, SqT.new, rfl, x1, _, rfl, _, _, rfl, rfl, rfl, ?_⟩
      refine ⟨_, rfl, rfl, _, rfl, ?_⟩
      exact iteF (hk0 rfl _ (same_new nT))
    · refine ⟨L, [], rfl, SqL.of ?_, q _ s1⟩
      rw [e1]
      simp
def sp_turned (K : PySem.W.Frag) : Sp := fun vs H Q _ => ∃ (a b : Addr) (tab : List Int) (m : Nat), vs = [.ref a, .ref b] ∧ SqT K H a (iv tab) ∧ tab.length ≤ 64 ∧ SqT K H b (zeros m) ∧ m ≤ 5 ∧ ∀ H' p, Same H H' → H p = none → H' p = some (.tup (iv tab)) → Q (.ref p) H'
theorem sc_turned : FnScope ["want", "sides", "far", "heap"] ["want", "sides"] (defScope (top 8)) := ⟨rfl, rfl, rfl, by decide +kernel, rfl, by decide +kernel, by decide +kernel⟩
theorem ok_turned (D : Defs K mg) (C_far_heap : Callee P w K mg base 1 "far_heap" ["sides"] (sp_far_heap K)) : Callee P w K mg base 2 "turned" ["want", "sides"] (sp_turned K) := by
  obtain ⟨f_far_heap, fd_far_heap, g_far_heap, m_far_heap, k_far_heap, b_far_heap⟩ := C_far_heap.ex
  refine callee_mk D.f_turned sc_turned (fun _ _ _ _ _ _ us hl => match us, hl with | [_, _], _ => rfl) (fun vs H Q E h => ?_) (fun f cdv A outer s H vs Q E hr h => ?_)
  · obtain ⟨a, b, tab, m, rfl, _⟩ := h; rfl
  · obtain ⟨a, b, tab, m, rfl, ha, hl, hb, hm, q⟩ := h
    refine ⟨_, (pss_cons (ps_set (i := 2) sc_turned.nd rfl (.inr rfl) (pe_call g_far_heap (hr.mono (by decide)) (by rfl) m_far_heap k_far_heap b_far_heap .nil pass0 (pa_cons (pv 1) pa_nil))) (pss_one (ps_ret (pe_callTy call_tuple_of (by rfl) D.tuple_ bt_tuple (pa_cons (pe_lc (own := [("heap", 3)]) (g := (gName 3)) (tt := tYes) rfl sc_turned.nd (pi_range1 (by rfl) D.range_ (pa_cons (pe_callB call_len_seq (by rfl) D.len_ bt_len (pa_cons (pv 0) pa_nil)) pa_nil)) (blkOk_by (own := [("heap", 3)]) (N := ["want", "sides", "far", "heap"]) (sc := defScope (top 8)) (by decide +kernel)) (fun _ _ _ _ _ => (pg_name (i := 3) sc_turned.nd rfl (.inl rfl))) (fun _ _ _ _ _ => pts_nil) (fun _ _ _ _ _ => (pe_ix (ix_tupK (K := K)) (pv 0) (pe_op op_xor (pv 3) (pv 2)) (fun _ _ => rfl)))) pa_nil))))), ?_⟩
    refine ⟨_, rfl, b, m, rfl, hb, hm, fun H1 s1 => ?_⟩
    have ha1 := s1.tup ha
    refine ⟨_, rfl, a, _, rfl, .inr ha1, _, rfl, by rw [iv_len]; omega, by rw [iv_len]; omega, fun L hL => ?_⟩
    rw [iv_len, Int.toNat_natCast]
    refine lc_mp (walk_range0 (n := tab.length)) (fun i => .int (tabAt tab i)) hL (le_line (by omega)) (fun _ _ => trivial) (fun i x H2 H3 R hi s2 hy hk => ?_) (fun H2 s2 e2 => ?_)
    · obtain ⟨rfl, rfl⟩ := hy
      refine ⟨rfl, _, rfl, _, rfl, _, rfl, _, _, rfl, rfl, a, _, _, _, rfl, rfl, s2.tup ha1, at_iv (i := i) ?_ hi, hk _ (Same.refl _)⟩
      exact PyProof.Rows.bitXor_zero _
    · rw [range_map_tab] at e2
      refine ⟨L, _, rfl, .inl ⟨SqL.of e2, fun p hp => ?_⟩⟩
      exact q _ p ((s1.trans s2).trans (same_new hp)) ((s1.trans s2).free hp) upd_same
def besideL (h m : Nat) : List Nat := (List.range m).filter fun t => !h.testBit t
def sp_things_beside (K : PySem.W.Frag) : Sp := fun vs H Q _ => ∃ h m : Nat, vs = [.int h, .int m] ∧ m ≤ 6 ∧ ∀ H' p, Same H H' → H p = none → H' p = some (.lst (nv (besideL h m))) → Q (.ref p) H'
theorem sc_things_beside : FnScope ["heap", "many", "thing"] ["heap", "many"] (defScope (top 9)) := ⟨rfl, rfl, rfl, by decide +kernel, rfl, by decide +kernel, by decide +kernel⟩
theorem ok_things_beside (D : Defs K mg) : Callee P w K mg base 1 "things_beside" ["heap", "many"] (sp_things_beside K) := by
  refine callee_mk D.f_things_beside sc_things_beside (fun _ _ _ _ _ _ us hl => match us, hl with | [_, _], _ => rfl) (fun vs H Q E h => ?_) (fun f cdv A outer s H vs Q E hr h => ?_)
  · obtain ⟨h0, m, rfl, _⟩ := h; rfl
  · obtain ⟨h0, m, rfl, hm, q⟩ := h
    refine ⟨_, (pss_one (ps_ret (pe_lc (own := [("thing", 2)]) (g := (gName 2)) rfl sc_things_beside.nd (pi_range1 (by rfl) D.range_ (pa_cons (pv 1) pa_nil)) (blkOk_by (own := [("thing", 2)]) (N := ["heap", "many", "thing"]) (sc := defScope (top 9)) (by decide +kernel)) (fun _ _ _ _ _ => (pg_name (i := 2) sc_things_beside.nd rfl (.inl rfl))) (fun _ _ _ _ _ => (pts_one (pt_cmpR op_eq (pe_op op_and (pe_op op_shr (pv 0) (pv 2)) pe_int) pe_int (nomark _)))) (fun _ _ _ _ _ => (pv 2))))), ?_⟩
    refine ⟨_, rfl, _, rfl, by omega, by omega, fun L hL => ?_⟩
    rw [Int.toNat_natCast]
    refine lc_fm (walk_range0 (n := m)) (fun t => !h0.testBit t) (fun i => .int (i : Nat)) hL (le_line (by omega)) (fun _ _ => trivial) (fun i x H2 H3 R R0 hi s2 hy hk hk0 => ?_) (fun H2 s2 e2 => ?_)
    · obtain ⟨rfl, rfl⟩ := hy
      refine ⟨rfl, _, rfl, _, rfl, _, _, rfl, rfl, by omega, _, _, rfl, rfl, rfl, _, rfl, ?_⟩
      refine ite2 (fun hb => ?_) (fun hb => ?_)
      · exact ⟨_, rfl, hk ((bit_test0 h0 i).symm.trans hb) _ (Same.refl _)⟩
      · exact hk0 (Bool.eq_false_iff.mpr fun z => hb ((bit_test0 h0 i).trans z)) _ (Same.refl _)
    · exact q _ L s2 hL e2
def sp_is_pair (K : PySem.W.Frag) : Sp := fun vs H Q _ => ∃ (a : Addr) (tab : List Int) (m h i j : Nat), vs = [.ref a, .int h, .int i, .int j] ∧ SqT K H a (iv tab) ∧ tab.length = 2 ^ m ∧ m ≤ 5 ∧ h < 2 ^ m ∧ i < m ∧ j < m ∧
  Q (.bl (decide (tabAt tab (h ||| 2 ^ i) + tabAt tab (h ||| 2 ^ j) < tabAt tab (h ||| 2 ^ i ||| 2 ^ j) + tabAt tab h))) H
theorem sc_is_pair : FnScope ["table", "heap", "i", "j", "one", "other"] ["table", "heap", "i", "j"] (defScope (top 10)) := ⟨rfl, rfl, rfl, by decide +kernel, rfl, by decide +kernel, by decide +kernel⟩
theorem ok_is_pair (D : Defs K mg) : Callee P w K mg base 1 "is_pair" ["table", "heap", "i", "j"] (sp_is_pair K) := by
  refine callee_mk D.f_is_pair sc_is_pair (fun _ _ _ _ _ _ us hl => match us, hl with | [_, _, _, _], _ => rfl) (fun vs H Q E h => ?_) (fun f cdv A outer s H vs Q E hr h => ?_)
  · obtain ⟨a, tab, m, h0, i, j, rfl, _⟩ := h; rfl
  · obtain ⟨a, tab, m, h0, i, j, rfl, ha, hl, hm, hh, hi, hj, q⟩ := h
    refine ⟨_, (pss_cons (ps_par (i := 4) (j := 5) rfl sc_is_pair.nd rfl rfl (by decide) rfl rfl (pa_cons (pe_op op_shl pe_int (pv 2)) (pa_cons (pe_op op_shl pe_int (pv 3)) pa_nil)) (by rfl)) (pss_one (ps_ret (pe_cmpR op_gt (pe_op op_add (pe_ix (ix_tupK (K := K)) (pv 0) (pe_op op_or (pe_op op_or (pv 1) (pv 4)) (pv 5)) (fun _ _ => rfl)) (pe_ix (ix_tupK (K := K)) (pv 0) (pv 1) (fun _ _ => rfl))) (pe_op op_add (pe_ix (ix_tupK (K := K)) (pv 0) (pe_op op_or (pv 1) (pv 4)) (fun _ _ => rfl)) (pe_ix (ix_tupK (K := K)) (pv 0) (pe_op op_or (pv 1) (pv 5)) (fun _ _ => rfl))) (nomark _))))), ?_⟩
    refine ⟨_, rfl, _, _, rfl, rfl, cpow1 i (by omega), _, rfl, _, _, rfl, rfl, cpow1 j (by omega), _, _, rfl, ?_⟩
    have b1 := K98.or_lt hh hi
    have b2 := K98.or_lt hh hj
    have b3 := K98.or_lt b1 hj
    rw [← hl] at b1 b2 b3 hh
    refine ⟨_, rfl, _, rfl, _, rfl, _, _, rfl, rfl, _, rfl, _, _, rfl, rfl, a, _, _, _, rfl, rfl, ha, at_iv (by show Builtin.bitOr (Builtin.bitOr _ _) _ = _; rw [bor_pow, bor_pow]) b3, ?_⟩
    refine ⟨_, rfl, _, rfl, a, _, _, _, rfl, rfl, ha, at_iv rfl hh, _, _, rfl, rfl, ?_⟩
    refine ⟨_, rfl, _, rfl, _, rfl, _, _, rfl, rfl, a, _, _, _, rfl, rfl, ha, at_iv (bor_pow _ _) b1, ?_⟩
    refine ⟨_, rfl, _, rfl, _, rfl, _, _, rfl, rfl, a, _, _, _, rfl, rfl, ha, at_iv (bor_pow _ _) b2, _, _, rfl, rfl, _, _, rfl, rfl, q⟩
def sp_is_three (K : PySem.W.Frag) : Sp := fun vs H Q _ => ∃ (a : Addr) (tab : List Int) (m h i j k : Nat), vs = [.ref a, .int h, .int i, .int j, .int k] ∧ SqT K H a (iv tab) ∧ tab.length = 2 ^ m ∧ m ≤ 5 ∧ h < 2 ^ m ∧ i < m ∧ j < m ∧ k < m ∧
  (tabAt tab (h ||| 2 ^ i ||| 2 ^ j) + tabAt tab (h ||| 2 ^ k) ≤ tabAt tab (h ||| 2 ^ i ||| 2 ^ k) + tabAt tab (h ||| 2 ^ j) ∨ tabAt tab (h ||| 2 ^ i ||| 2 ^ j) + tabAt tab (h ||| 2 ^ k) ≤ tabAt tab (h ||| 2 ^ j ||| 2 ^ k) + tabAt tab (h ||| 2 ^ i)) ∧
  Q (.bl false) H
theorem sc_is_three : FnScope ["table", "heap", "i", "j", "k", "one", "other", "third", "both"] ["table", "heap", "i", "j", "k"] (defScope (top 11)) := ⟨rfl, rfl, rfl, by decide +kernel, rfl, by decide +kernel, by decide +kernel⟩
theorem ok_is_three (D : Defs K mg) : Callee P w K mg base 1 "is_three" ["table", "heap", "i", "j", "k"] (sp_is_three K) := by
  refine callee_mk D.f_is_three sc_is_three (fun _ _ _ _ _ _ us hl => match us, hl with | [_, _, _, _, _], _ => rfl) (fun vs H Q E h => ?_) (fun f cdv A outer s H vs Q E hr h => ?_)
  · obtain ⟨a, tab, m, h0, i, j, k, rfl, _⟩ := h; rfl
  · obtain ⟨a, tab, m, h0, i, j, k, rfl, ha, hl, hm, hh, hi, hj, hk, hno, q⟩ := h
    refine ⟨_, (pss_cons (ps_par3 (i := 5) (j := 6) (l := 7) rfl sc_is_three.nd rfl rfl rfl (by decide) (by decide) (by decide) rfl rfl rfl (pa_cons (pe_op op_or (pv 1) (pe_op op_shl pe_int (pv 2))) (pa_cons (pe_op op_or (pv 1) (pe_op op_shl pe_int (pv 3))) (pa_cons (pe_op op_or (pv 1) (pe_op op_shl pe_int (pv 4))) pa_nil))) (by rfl)) (pss_cons (ps_set (i := 8) sc_is_three.nd rfl (.inl rfl) (pe_op op_add (pe_ix (ix_tupK (K := K)) (pv 0) (pe_op op_or (pv 5) (pv 6)) (fun _ _ => rfl)) (pe_ix (ix_tupK (K := K)) (pv 0) (pv 7) (fun _ _ => rfl)))) (pss_one (ps_ret (pe_and (pe_cmpR op_gt (pv 8) (pe_op op_add (pe_ix (ix_tupK (K := K)) (pv 0) (pe_op op_or (pv 5) (pv 7)) (fun _ _ => rfl)) (pe_ix (ix_tupK (K := K)) (pv 0) (pv 6) (fun _ _ => rfl))) (nomark _)) (pe_one (pe_cmpR op_gt (pv 8) (pe_op op_add (pe_ix (ix_tupK (K := K)) (pv 0) (pe_op op_or (pv 6) (pv 7)) (fun _ _ => rfl)) (pe_ix (ix_tupK (K := K)) (pv 0) (pv 5) (fun _ _ => rfl))) (nomark _)))))))), ?_⟩
    have b1 := K98.or_lt hh hi
    have b2 := K98.or_lt hh hj
    have b3 := K98.or_lt hh hk
    have b12 : h0 ||| 2 ^ i ||| (h0 ||| 2 ^ j) = h0 ||| 2 ^ i ||| 2 ^ j := by
      refine Nat.eq_of_testBit_eq fun t => ?_
      simp only [Nat.testBit_or]
      cases h0.testBit t <;> cases (2 ^ i).testBit t <;> cases (2 ^ j).testBit t <;> rfl
    have b13 : h0 ||| 2 ^ i ||| (h0 ||| 2 ^ k) = h0 ||| 2 ^ i ||| 2 ^ k := by
      refine Nat.eq_of_testBit_eq fun t => ?_
      simp only [Nat.testBit_or]
      cases h0.testBit t <;> cases (2 ^ i).testBit t <;> cases (2 ^ k).testBit t <;> rfl
    have b23 : h0 ||| 2 ^ j ||| (h0 ||| 2 ^ k) = h0 ||| 2 ^ j ||| 2 ^ k := by
      refine Nat.eq_of_testBit_eq fun t => ?_
      simp only [Nat.testBit_or]
      cases h0.testBit t <;> cases (2 ^ j).testBit t <;> cases (2 ^ k).testBit t <;> rfl
    have c12 := K98.or_lt b1 hj
    have c13 := K98.or_lt b1 hk
    have c23 := K98.or_lt b2 hk
    rw [← hl] at b1 b2 b3 c12 c13 c23
    refine ⟨_, rfl, _, rfl, _, _, rfl, rfl, cpow1 i (by omega), _, _, rfl, rfl, _, rfl, _, rfl, _, _, rfl, rfl, cpow1 j (by omega), _, _, rfl, rfl, _, rfl, _, rfl, _, _, rfl, rfl, cpow1 k (by omega), _, _, rfl, rfl, _, _, _, rfl, ?_⟩
    -- both
    refine ⟨_, rfl, _, rfl, _, rfl, _, _, rfl, rfl, a, _, _, _, rfl, rfl, ha, at_iv (by show Builtin.bitOr (Builtin.bitOr _ _) (Builtin.bitOr _ _) = _; rw [bor_pow, bor_pow, bor_eq, b12]) c12, ?_⟩
    refine ⟨_, rfl, _, rfl, a, _, _, _, rfl, rfl, ha, at_iv (bor_pow _ _) b3, _, _, rfl, rfl, ?_⟩
    -- the first test
    refine ⟨_, rfl, _, rfl, _, rfl, _, rfl, _, _, rfl, rfl, a, _, _, _, rfl, rfl, ha, at_iv (by show Builtin.bitOr (Builtin.bitOr _ _) (Builtin.bitOr _ _) = _; rw [bor_pow, bor_pow, bor_eq, b13]) c13, _, rfl, _, rfl, a, _, _, _, rfl, rfl, ha, at_iv (bor_pow _ _) b2, _, _, rfl, rfl, _, _, rfl, rfl, _, rfl, ?_⟩
    refine ite2 (fun h1 => ?_) (fun h1 => q)
    have h1' := of_decide_eq_true h1
    refine ⟨_, rfl, _, rfl, _, rfl, _, rfl, _, _, rfl, rfl, a, _, _, _, rfl, rfl, ha, at_iv (by show Builtin.bitOr (Builtin.bitOr _ _) (Builtin.bitOr _ _) = _; rw [bor_pow, bor_pow, bor_eq, b23]) c23, _, rfl, _, rfl, a, _, _, _, rfl, rfl, ha, at_iv (bor_pow _ _) b1, _, _, rfl, rfl, _, _, rfl, rfl, ?_⟩
    have e : decide (tabAt tab (h0 ||| 2 ^ j ||| 2 ^ k) + tabAt tab (h0 ||| 2 ^ i) < tabAt tab (h0 ||| 2 ^ i ||| 2 ^ j) + tabAt tab (h0 ||| 2 ^ k)) = false := decide_eq_false (by omega)
    show Q (.bl (decide (tabAt tab (h0 ||| 2 ^ j ||| 2 ^ k) + tabAt tab (h0 ||| 2 ^ i) < tabAt tab (h0 ||| 2 ^ i ||| 2 ^ j) + tabAt tab (h0 ||| 2 ^ k)))) H
    rw [e]
    exact q
end
end K98W
set_option Elab.async false
set_option linter.all false
set_option maxRecDepth 100000
set_option maxHeartbeats 4000000
/-! K98 walk C: first_pair, threes_beside, first_three, breaking, first_strange. -/
namespace K98W
open PySem PySem.Spec PyProof.Rows L2 K98R
open K98 (tabAt GoodTab GoodTown wt)

theorem cut_from (xs : List V) (k : Nat) : cutV xs (some (k : Int)) none = xs.drop k := by
  unfold cutV
  rw [HT.sIx_nat, HT.sIx_none]
  by_cases h : k ≤ xs.length
  · rw [Nat.min_eq_left h]
    exact List.take_of_length_le (by rw [List.length_drop]; exact Nat.le_refl _)
  · rw [Nat.min_eq_right (by omega), List.drop_of_length_le (Nat.le_refl _), List.drop_of_length_le (by omega)]
    exact List.take_nil
theorem beside_mem {h m t : Nat} : t ∈ besideL h m ↔ t < m ∧ h.testBit t = false := by
  unfold besideL
  rw [List.mem_filter, List.mem_range, Bool.not_eq_true']
theorem beside_nd (h m : Nat) : (besideL h m).Nodup := List.Pairwise.filter _ List.nodup_range
theorem beside_len (h m : Nat) : (besideL h m).length ≤ m := by
  unfold besideL
  have := List.length_filter_le (fun t => !h.testBit t) (List.range m)
  rw [List.length_range] at this
  exact this
theorem nv_get {l : List Nat} {i : Nat} {x : V} (h : (nv l)[i]? = some x) : ∃ t, l[i]? = some t ∧ x = .int (t : Nat) := by
  unfold nv at h
  rw [List.getElem?_map] at h
  cases e : l[i]? with
  | none => rw [e] at h; cases h
  | some t => rw [e] at h; exact ⟨t, rfl, (Option.some.inj h).symm⟩
theorem nv_len (l : List Nat) : (nv l).length = l.length := List.length_map ..
theorem nv_drop (l : List Nat) (k : Nat) : (nv l).drop k = nv (l.drop k) := by
  unfold nv
  rw [List.map_drop]
theorem nd_later {l : List Nat} (h : l.Nodup) {i k : Nat} {x y : Nat} (hx : l[i]? = some x) (hy : (l.drop (i + 1))[k]? = some y) : x ≠ y := by
  rw [List.getElem?_drop] at hy
  intro e
  subst e
  have := nd_ix h hx hy
  omega

section
variable {P : Program} {w : World} {K : PySem.W.Frag} {mg : Str → Option Value} {base : Heap}
def sp_first_pair (K : PySem.W.Frag) : Sp := fun vs H Q _ => ∃ (a : Addr) (tab : List Int) (m : Nat), vs = [.ref a, .int m] ∧ SqT K H a (iv tab) ∧ GoodTab m tab ∧ m ≤ 5 ∧ ∀ H', Same H H' → Q .non H'
theorem sc_first_pair : FnScope ["table", "many", "heap", "beside", "at", "i", "j"] ["table", "many"] (defScope (top 12)) := ⟨rfl, rfl, rfl, by decide +kernel, rfl, by decide +kernel, by decide +kernel⟩
theorem ok_first_pair (D : Defs K mg) (C_things_beside : Callee P w K mg base 1 "things_beside" ["heap", "many"] (sp_things_beside K)) (C_is_pair : Callee P w K mg base 1 "is_pair" ["table", "heap", "i", "j"] (sp_is_pair K)) : Callee P w K mg base 2 "first_pair" ["table", "many"] (sp_first_pair K) := by
  obtain ⟨f_things_beside, fd_things_beside, g_things_beside, m_things_beside, k_things_beside, b_things_beside⟩ := C_things_beside.ex
  obtain ⟨f_is_pair, fd_is_pair, g_is_pair, m_is_pair, k_is_pair, b_is_pair⟩ := C_is_pair.ex
  refine callee_mk D.f_first_pair sc_first_pair (fun _ _ _ _ _ _ us hl => match us, hl with | [_, _], _ => rfl) (fun vs H Q E h => ?_) (fun f cdv A outer s H vs Q E hr h => ?_)
  · obtain ⟨a, tab, m, rfl, _⟩ := h; rfl
  · obtain ⟨a, tab, m, rfl, ha, hg, hm, q⟩ := h
    refine ⟨_, (pss_cons (ps_for PassesOwn.never rfl (pi_range1 (by rfl) D.range_ (pa_cons (pe_callB call_len_seq (by rfl) D.len_ bt_len (pa_cons (pv 0) pa_nil)) pa_nil)) (pg_name (i := 2) sc_first_pair.nd rfl (.inl rfl)) (pss_cons (ps_set (i := 3) sc_first_pair.nd rfl (.inl rfl) (pe_call g_things_beside (hr.mono (by decide)) (by rfl) m_things_beside k_things_beside b_things_beside .nil pass0 (pa_cons (pv 2) (pa_cons (pv 1) pa_nil)))) (pss_one (ps_for PassesOwn.never rfl (pi_enum (by rfl) D.enumerate_ (pa_cons (pv 3) pa_nil)) (pg_tup rfl (pgs_cons (pg_name (i := 4) sc_first_pair.nd rfl (.inl rfl)) (pgs_cons (pg_name (i := 5) sc_first_pair.nd rfl (.inl rfl)) pgs_nil))) (pss_one (ps_for PassesOwn.never rfl (pi_listK (K := K) (pe_slice sl_list (pv 3) (po_some (pe_op op_add (pv 4) pe_int)) po_none)) (pg_name (i := 6) sc_first_pair.nd rfl (.inl rfl)) (pss_one (ps_if (pt_val (pe_call g_is_pair (hr.mono (by decide)) (by rfl) m_is_pair k_is_pair b_is_pair .nil pass0 (pa_cons (pv 0) (pa_cons (pv 2) (pa_cons (pv 5) (pa_cons (pv 6) pa_nil)))))) (pss_one (ps_ret (pe_tup (pa_cons (pv 2) (pa_cons (pv 5) (pa_cons (pv 6) pa_nil)))))) pss_nil)))))))) (pss_one (ps_ret pe_non))), ?_⟩
    have hl64 := len64 hg.len (by omega)
    refine ⟨_, rfl, a, _, rfl, .inr ha, _, rfl, by rw [iv_len]; omega, by rw [iv_len]; omega, ?_⟩
    rw [iv_len, Int.toNat_natCast]
    refine for_it (walk_range0 (n := tab.length)) (fun i σ H' => ∃ b c d e g, σ = [some (.ref a), some (.int m), b, c, d, e, g] ∧ Same H H') ⟨_, _, _, _, _, rfl, Same.refl _⟩ (fun _ _ _ _ _ => trivial) (fun i x σ H1 H2 hi p hy => ?_) (fun σ H1 p => ?_)
    · obtain ⟨b, c, d, e, g, rfl, s1⟩ := p
      obtain ⟨rfl, rfl⟩ := hy
      rw [hg.len] at hi
      refine ⟨_, rfl, _, rfl, i, m, rfl, by omega, fun H3 p s3 np e3 => ?_⟩
      refine ⟨_, rfl, p, _, rfl, SqL.of e3, ?_⟩
      refine for_it (walk_enum (K := K) (a := p) (xs := nv (besideL i m))) (fun i' σ H' => ∃ d e g, σ = [some (.ref a), some (.int m), some (.int (i : Nat)), some (.ref p), d, e, g] ∧ Same H3 H') ⟨_, _, _, rfl, Same.refl _⟩
        (fun _ σ H' _ ⟨_, _, _, _, s⟩ => s.seq (SqL.of e3)) (fun at_ x σ H4 H5 hat p4 hy => ?_) (fun σ H4 p4 => ?_)
      · obtain ⟨d, e, g, rfl, s4⟩ := p4
        obtain ⟨T, x1, x2, rfl, nT, rfl, e1, e2⟩ := hy
        have ex1 : x1 = .int (at_ : Nat) := (Option.some.inj e1).symm
        subst ex1
        obtain ⟨ti, hti, rfl⟩ := nv_get e2
        obtain ⟨him, hib⟩ := beside_mem.mp (List.mem_of_getElem? hti)
        refine ⟨T, _, rfl, SqT.new, rfl, _, _, rfl, _, _, rfl, rfl, ?_⟩
        have sT : Same H4 (upd H4 T (.tup [.int (at_ : Nat), .int (ti : Nat)])) := same_new nT
        have eP : SqL K (upd H4 T (.tup [.int (at_ : Nat), .int (ti : Nat)])) p (nv (besideL i m)) := (s4.trans sT).seq (SqL.of e3)
        refine ⟨_, rfl, _, rfl, _, _, rfl, rfl, _, rfl, p, _, rfl, eP, fun c nc => ⟨c, rfl, ⟨_, SqL.new⟩, ?_⟩⟩
        have s5 : Same H4 (upd (upd H4 T (.tup [.int (at_ : Nat), .int (ti : Nat)])) c (.lst (cutV (nv (besideL i m)) (some ((at_ : Int) + 1)) none))) := sT.trans (same_new nc)
        have ecut : cutV (nv (besideL i m)) (some ((at_ : Int) + 1)) none = nv ((besideL i m).drop (at_ + 1)) := by
          rw [show (at_ : Int) + 1 = ((at_ + 1 : Nat) : Int) from rfl, cut_from, nv_drop]
        rw [ecut] at s5 ⊢
        refine for_it (walk_list (K := K) (a := c) (xs := nv ((besideL i m).drop (at_ + 1)))) (fun i' σ H' => ∃ g, σ = [some (.ref a), some (.int m), some (.int (i : Nat)), some (.ref p), some (.int (at_ : Nat)), some (.int (ti : Nat)), g] ∧ Same (upd (upd H4 T (.tup [.int (at_ : Nat), .int (ti : Nat)])) c (.lst (nv ((besideL i m).drop (at_ + 1))))) H') ⟨_, rfl, Same.refl _⟩
          (fun _ σ H' _ ⟨_, _, s⟩ => s.seq SqL.new) (fun k x σ H6 H7 hk p6 hy => ?_) (fun σ H6 p6 => ?_)
        · obtain ⟨g, rfl, s6⟩ := p6
          obtain ⟨rfl, ey⟩ := hy
          obtain ⟨tj, htj, rfl⟩ := nv_get ey
          obtain ⟨hjm, hjb⟩ := beside_mem.mp (List.mem_of_mem_drop (List.mem_of_getElem? htj))
          have hne := nd_later (beside_nd i m) hti htj
          have ha6 : SqT K H7 a (iv tab) := (((s1.trans s3).trans s4).trans (s5.trans s6)).tup ha
          refine ⟨_, rfl, _, rfl, _, rfl, _, rfl, a, tab, m, i, ti, tj, rfl, ha6, hg.len, hm, hi, him, hjm, ?_⟩
          have hno := K98.no_pair hg hi him hjm hib hjb hne
          refine ⟨_, rfl, ?_⟩
          rw [decide_eq_false (by omega)]
          exact iteF ⟨_, rfl, s6⟩
        · obtain ⟨g, rfl, s6⟩ := p6
          exact ⟨_, _, _, rfl, (s4.trans s5).trans s6⟩
      · obtain ⟨d, e, g, rfl, s4⟩ := p4
        exact ⟨_, _, _, _, _, rfl, (s1.trans s3).trans s4⟩
    · obtain ⟨b, c, d, e, g, rfl, s1⟩ := p
      exact q _ s1

/-- x is a new triple of three unlike ones of bs -/
def Three (H : Hp) (bs : List Nat) (x : V) : Prop := ∃ (t : Addr) (i j k : Nat), x = .ref t ∧ H t = some (.tup [.int i, .int j, .int k]) ∧ i ∈ bs ∧ j ∈ bs ∧ k ∈ bs ∧ i ≠ j ∧ k ≠ i ∧ k ≠ j
theorem Three.same {H H' : Hp} {bs : List Nat} {x : V} (h : Three H bs x) (s : Same H H') : Three H' bs x := by
  obtain ⟨t, i, j, k, e, h1, h2⟩ := h
  exact ⟨t, i, j, k, e, s _ _ h1, h2⟩
def sp_threes_beside (K : PySem.W.Frag) : Sp := fun vs H Q _ => ∃ (b : Addr) (bs : List Nat), vs = [.ref b] ∧ SqL K H b (nv bs) ∧ bs.Nodup ∧ bs.length ≤ 6 ∧
  ∀ H' p xs, Same H H' → H p = none → H' p = some (.lst xs) → (∀ x ∈ xs, Three H' bs x) → Q (.ref p) H'
theorem sc_threes_beside : FnScope ["beside", "found", "at", "i", "j", "k"] ["beside"] (defScope (top 13)) := ⟨rfl, rfl, rfl, by decide +kernel, rfl, by decide +kernel, by decide +kernel⟩
theorem ok_threes_beside (D : Defs K mg) : Callee P w K mg base 1 "threes_beside" ["beside"] (sp_threes_beside K) := by
  refine callee_mk D.f_threes_beside sc_threes_beside (fun _ _ _ _ _ _ us hl => match us, hl with | [_], _ => rfl) (fun vs H Q E h => ?_) (fun f cdv A outer s H vs Q E hr h => ?_)
  · obtain ⟨b, bs, rfl, _⟩ := h; rfl
  · obtain ⟨b, bs, rfl, hb, hnd, hlen, q⟩ := h
    refine ⟨_, (pss_cons (ps_set (i := 1) sc_threes_beside.nd rfl (.inl rfl) (pe_lst pa_nil)) (pss_cons (ps_for PassesOwn.never rfl (pi_enum (by rfl) D.enumerate_ (pa_cons (pv 0) pa_nil)) (pg_tup rfl (pgs_cons (pg_name (i := 2) sc_threes_beside.nd rfl (.inl rfl)) (pgs_cons (pg_name (i := 3) sc_threes_beside.nd rfl (.inr rfl)) pgs_nil))) (pss_one (ps_for PassesOwn.never rfl (pi_listK (K := K) (pe_slice sl_list (pv 0) (po_some (pe_op op_add (pv 2) pe_int)) po_none)) (pg_name (i := 4) sc_threes_beside.nd rfl (.inr rfl)) (pss_one (ps_expr (pe_bm PySem.F.plainAttrs_list PySem.F.slot_list_extend PySem.F.type_list_extend mt_extend (pv 1) (pa_cons (pe_lc (own := [("k", 5)]) (g := (gName 5)) rfl sc_threes_beside.nd (pi_listK (K := K) (pv 0)) (blkOk_by (own := [("k", 5)]) (N := ["beside", "found", "at", "i", "j", "k"]) (sc := defScope (top 13)) (by decide +kernel)) (fun _ _ _ _ _ => (pg_name (i := 5) sc_threes_beside.nd rfl (.inl rfl))) (fun _ _ _ _ _ => (pts_one (pt_cmpR (op_notIn_seqK (K := K)) (pv 5) (pe_tup (pa_cons (pv 3) (pa_cons (pv 4) pa_nil))) (by rfl)))) (fun _ _ _ _ _ => (pe_tup (pa_cons (pv 3) (pa_cons (pv 4) (pa_cons (pv 5) pa_nil)))))) pa_nil))))))) (pss_one (ps_ret (pv 1))))), ?_⟩
    refine ⟨Nat.zero_le _, fun L hL => ?_⟩
    have s0 : Same H (upd H L (.lst [])) := same_new hL
    refine ⟨_, rfl, b, _, rfl, s0.seq hb, ?_⟩
    -- what holds of the list found: n items, each such a triple
    refine for_it (walk_enum (K := K) (a := b) (xs := nv bs)) (fun i σ H' => ∃ c d e g xs, σ = [some (.ref b), some (.ref L), c, d, e, g] ∧ Same H H' ∧ H' L = some (.lst xs) ∧ xs.length ≤ i * 36 ∧ ∀ x ∈ xs, Three H' bs x)
      ⟨_, _, _, _, [], rfl, s0, upd_same, Nat.zero_le _, fun x hx => by cases hx⟩ (fun _ σ H' _ ⟨_, _, _, _, _, _, s, _⟩ => s.seq hb) (fun at_ x σ H4 H5 hat p4 hy => ?_) (fun σ H4 p4 => ?_)
    · obtain ⟨c, d, e, g, xs, rfl, s4, eL, hxl, hxs⟩ := p4
      obtain ⟨T, x1, x2, rfl, nT, rfl, e1, e2⟩ := hy
      have ex1 : x1 = .int (at_ : Nat) := (Option.some.inj e1).symm
      subst ex1
      obtain ⟨ti, hti, rfl⟩ := nv_get e2
      have himem := List.mem_of_getElem? hti
      refine ⟨T, _, rfl, SqT.new, rfl, _, _, rfl, _, _, rfl, rfl, ?_⟩
      have sT : Same H4 (upd H4 T (.tup [.int (at_ : Nat), .int (ti : Nat)])) := same_new nT
      refine ⟨_, rfl, _, rfl, _, _, rfl, rfl, _, rfl, b, _, rfl, (s4.trans sT).seq hb, fun c nc => ⟨c, rfl, ⟨_, SqL.new⟩, ?_⟩⟩
      have ecut : cutV (nv bs) (some ((at_ : Int) + 1)) none = nv (bs.drop (at_ + 1)) := by
        rw [show (at_ : Int) + 1 = ((at_ + 1 : Nat) : Int) from rfl, cut_from, nv_drop]
      rw [ecut]
      have s5 : Same H4 (upd (upd H4 T (.tup [.int (at_ : Nat), .int (ti : Nat)])) c (.lst (nv (bs.drop (at_ + 1))))) := sT.trans (same_new nc)
      have ncL : c ≠ L := fun z => by
        rw [z, upd_ne (ne_of_none eL nT), eL] at nc
        cases nc
      have nLc := ncL.symm
      have hcut6 : (bs.drop (at_ + 1)).length ≤ 6 := by rw [List.length_drop]; omega
      refine for_it (walk_list (K := K) (a := c) (xs := nv (bs.drop (at_ + 1)))) (fun i' σ H' => ∃ e g xs, σ = [some (.ref b), some (.ref L), some (.int (at_ : Nat)), some (.int (ti : Nat)), e, g] ∧ Same H H' ∧ H' c = some (.lst (nv (bs.drop (at_ + 1)))) ∧ H' L = some (.lst xs) ∧ xs.length ≤ at_ * 36 + i' * 6 ∧ ∀ x ∈ xs, Three H' bs x)
        ⟨_, _, xs, rfl, s4.trans s5, upd_same, s5 _ _ eL, by omega, fun x hx => (hxs x hx).same s5⟩ (fun _ σ H' _ ⟨_, _, _, _, _, hc, _⟩ => SqL.of hc) (fun k x σ H6 H7 hk p6 hy => ?_) (fun σ H6 p6 => ?_)
      · obtain ⟨e, g, ys, rfl, s6, ec6, eL6, hyl, hys⟩ := p6
        obtain ⟨rfl, ey⟩ := hy
        obtain ⟨tj, htj, rfl⟩ := nv_get ey
        have hjmem := List.mem_of_mem_drop (List.mem_of_getElem? htj)
        have hne := nd_later hnd hti htj
        -- found.extend([(i, j, k) for k in beside if k not in (i, j)])
        refine ⟨_, rfl, .inl ⟨rfl, _, SqL.of eL6⟩, _, rfl, b, rfl, ⟨_, s6.seq hb⟩, fun D2 hD2 => ?_⟩
        refine lc_it (walk_list (K := K) (a := b) (xs := nv bs)) (fun i' H' => Same H7 H' ∧ ∃ zs, H' D2 = some (.lst zs) ∧ zs.length ≤ i' ∧ ∀ x ∈ zs, Three H' bs x) ⟨same_new hD2, [], upd_same, Nat.le_refl _, fun x hx => by cases hx⟩
          (fun i' H' _ p => (s6.trans p.1).seq hb) (fun i' x H8 H9 hi' p8 hy8 => ?_) (fun H8 p8 => ?_)
        · obtain ⟨s8, zs, ez, hzl, hz⟩ := p8
          obtain ⟨rfl, ek⟩ := hy8
          obtain ⟨tk, htk, rfl⟩ := nv_get ek
          have hkmem := List.mem_of_getElem? htk
          refine ⟨rfl, _, rfl, _, rfl, _, rfl, by show 2 ≤ sizeLine; decide, fun U nU => ?_⟩
          have sU : Same H9 (upd H9 U (.tup [.int (ti : Nat), .int (tj : Nat)])) := same_new nU
          refine ⟨U, _, rfl, .inr SqT.new, rfl, rfl, _, rfl, ?_⟩
          refine ite2 (fun hin => ?_) (fun hin => ?_)
          · have hki : tk ≠ ti ∧ tk ≠ tj := by
              constructor
              · intro z; subst z; simp [inV, eqV] at hin
              · intro z; subst z; simp [inV, eqV] at hin
            refine ⟨_, rfl, _, rfl, _, rfl, by show 3 ≤ sizeLine; decide, fun Z nZ => ?_⟩
            have sZ := same_new (o := HO.tup [.int (ti : Nat), .int (tj : Nat), .int (tk : Nat)]) nZ
            have sA := sU.trans sZ
            refine ⟨zs, sA _ _ ez, ?_, (s8.trans sA).put hD2, _, upd_same, ?_, fun y hy => ?_⟩
            · exact small_line (by rw [nv_len] at hi'; omega)
            · rw [List.length_append, List.length_singleton]; omega
            · have nZD : Z ≠ D2 := fun z => by
                have := sU _ _ ez
                rw [← z, nZ] at this
                cases this
              have keepT : ∀ (t : Addr) (o : List V), (upd (upd H9 U (.tup [.int (ti : Nat), .int (tj : Nat)])) Z (.tup [.int (ti : Nat), .int (tj : Nat), .int (tk : Nat)])) t = some (.tup o) → (upd (upd (upd H9 U (.tup [.int (ti : Nat), .int (tj : Nat)])) Z (.tup [.int (ti : Nat), .int (tj : Nat), .int (tk : Nat)])) D2 (.lst (zs ++ [.ref Z]))) t = some (.tup o) := fun t o h => by
                have ne : t ≠ D2 := fun z => by
                  rw [z, sA _ _ ez] at h
                  cases h
                rw [upd_ne ne]; exact h
              rcases List.mem_append.mp hy with hy | hy
              · obtain ⟨t, i1, j1, k1, e1, h1, h2⟩ := hz y hy
                exact ⟨t, i1, j1, k1, e1, keepT _ _ (sA _ _ h1), h2⟩
              · rw [List.mem_singleton.mp hy]
                exact ⟨Z, ti, tj, tk, rfl, keepT _ _ upd_same, himem, hjmem, hkmem, hne, hki.1, hki.2⟩
          · exact ⟨s8.trans sU, zs, sU _ _ ez, by omega, fun x hx => (hz x hx).same sU⟩
        · obtain ⟨s8, zs, ez, hzl, hz⟩ := p8
          rw [nv_len] at hzl
          refine ⟨L, D2, ys, zs, rfl, rfl, s8 _ _ eL6, ez, ?_, ?_⟩
          · exact le_line (by
              have : k < 6 := by rw [nv_len] at hk; omega
              have : at_ < 6 := by rw [nv_len] at hat; omega
              omega)
          · have keepT : ∀ (t : Addr) (o : List V), H8 t = some (.tup o) → (upd H8 L (.lst (ys ++ zs))) t = some (.tup o) := fun t o h => by
              have ne : t ≠ L := fun z => by
                rw [z, s8 _ _ eL6] at h
                cases h
              rw [upd_ne ne]; exact h
            refine ⟨_, _, _, rfl, (s6.trans s8).put hL, ?_, upd_same, ?_, fun y hy => ?_⟩
            · rw [upd_ne ncL]
              exact s8 _ _ ec6
            · rw [List.length_append]; omega
            · rcases List.mem_append.mp hy with hy | hy
              · obtain ⟨t, i1, j1, k1, e1, h1, h2⟩ := hys y hy
                exact ⟨t, i1, j1, k1, e1, keepT _ _ (s8 _ _ h1), h2⟩
              · obtain ⟨t, i1, j1, k1, e1, h1, h2⟩ := hz y hy
                exact ⟨t, i1, j1, k1, e1, keepT _ _ h1, h2⟩
      · obtain ⟨e, g, ys, rfl, s6, ec6, eL6, hyl, hys⟩ := p6
        rw [nv_len] at hyl
        exact ⟨_, _, _, _, ys, rfl, s6, eL6, by omega, hys⟩
    · obtain ⟨c, d, e, g, xs, rfl, s4, eL, hxl, hxs⟩ := p4
      exact ⟨_, rfl, q _ L xs s4 hL eL hxs⟩
def sp_first_three (K : PySem.W.Frag) : Sp := fun vs H Q _ => ∃ (a : Addr) (tab : List Int) (m : Nat), vs = [.ref a, .int m] ∧ SqT K H a (iv tab) ∧ GoodTab m tab ∧ m ≤ 5 ∧ ∀ H', Same H H' → Q .non H'
theorem sc_first_three : FnScope ["table", "many", "heap", "i", "j", "k"] ["table", "many"] (defScope (top 14)) := ⟨rfl, rfl, rfl, by decide +kernel, rfl, by decide +kernel, by decide +kernel⟩
theorem ok_first_three (D : Defs K mg) (C_things_beside : Callee P w K mg base 1 "things_beside" ["heap", "many"] (sp_things_beside K)) (C_is_three : Callee P w K mg base 1 "is_three" ["table", "heap", "i", "j", "k"] (sp_is_three K)) (C_threes_beside : Callee P w K mg base 1 "threes_beside" ["beside"] (sp_threes_beside K)) : Callee P w K mg base 2 "first_three" ["table", "many"] (sp_first_three K) := by
  obtain ⟨f_things_beside, fd_things_beside, g_things_beside, m_things_beside, k_things_beside, b_things_beside⟩ := C_things_beside.ex
  obtain ⟨f_is_three, fd_is_three, g_is_three, m_is_three, k_is_three, b_is_three⟩ := C_is_three.ex
  obtain ⟨f_threes_beside, fd_threes_beside, g_threes_beside, m_threes_beside, k_threes_beside, b_threes_beside⟩ := C_threes_beside.ex
  refine callee_mk D.f_first_three sc_first_three (fun _ _ _ _ _ _ us hl => match us, hl with | [_, _], _ => rfl) (fun vs H Q E h => ?_) (fun f cdv A outer s H vs Q E hr h => ?_)
  · obtain ⟨a, tab, m, rfl, _⟩ := h; rfl
  · obtain ⟨a, tab, m, rfl, ha, hg, hm, q⟩ := h
    refine ⟨_, (pss_cons (ps_for PassesOwn.never rfl (pi_range1 (by rfl) D.range_ (pa_cons (pe_callB call_len_seq (by rfl) D.len_ bt_len (pa_cons (pv 0) pa_nil)) pa_nil)) (pg_name (i := 2) sc_first_three.nd rfl (.inl rfl)) (pss_one (ps_for PassesOwn.never rfl (pi_listK (K := K) (pe_call g_threes_beside (hr.mono (by decide)) (by rfl) m_threes_beside k_threes_beside b_threes_beside .nil pass0 (pa_cons (pe_call g_things_beside (hr.mono (by decide)) (by rfl) m_things_beside k_things_beside b_things_beside .nil pass0 (pa_cons (pv 2) (pa_cons (pv 1) pa_nil))) pa_nil))) (pg_tup rfl (pgs_cons (pg_name (i := 3) sc_first_three.nd rfl (.inl rfl)) (pgs_cons (pg_name (i := 4) sc_first_three.nd rfl (.inl rfl)) (pgs_cons (pg_name (i := 5) sc_first_three.nd rfl (.inl rfl)) pgs_nil)))) (pss_one (ps_if (pt_val (pe_call g_is_three (hr.mono (by decide)) (by rfl) m_is_three k_is_three b_is_three .nil pass0 (pa_cons (pv 0) (pa_cons (pv 2) (pa_cons (pv 3) (pa_cons (pv 4) (pa_cons (pv 5) pa_nil))))))) (pss_one (ps_ret (pe_tup (pa_cons (pv 2) (pa_cons (pv 3) (pa_cons (pv 4) (pa_cons (pv 5) pa_nil))))))) pss_nil))))) (pss_one (ps_ret pe_non))), ?_⟩
    have hl64 := len64 hg.len (by omega)
    refine ⟨_, rfl, a, _, rfl, .inr ha, _, rfl, by rw [iv_len]; omega, by rw [iv_len]; omega, ?_⟩
    rw [iv_len, Int.toNat_natCast]
    refine for_it (walk_range0 (n := tab.length)) (fun i σ H' => ∃ b c d e, σ = [some (.ref a), some (.int m), b, c, d, e] ∧ Same H H') ⟨_, _, _, _, rfl, Same.refl _⟩ (fun _ _ _ _ _ => trivial) (fun i x σ H1 H2 hi p hy => ?_) (fun σ H1 p => ?_)
    · obtain ⟨b, c, d, e, rfl, s1⟩ := p
      obtain ⟨rfl, rfl⟩ := hy
      rw [hg.len] at hi
      refine ⟨_, rfl, _, rfl, i, m, rfl, by omega, fun H3 p s3 np e3 => ?_⟩
      have := beside_len i m
      refine ⟨p, besideL i m, rfl, SqL.of e3, beside_nd i m, by omega, fun H4 p4 xs s4 np4 e4 hx4 => ?_⟩
      refine ⟨p4, rfl, ⟨_, SqL.of e4⟩, ?_⟩
      refine for_it (walk_list (K := K) (a := p4) (xs := xs)) (fun i' σ H' => ∃ c d e, σ = [some (.ref a), some (.int m), some (.int (i : Nat)), c, d, e] ∧ Same H4 H') ⟨_, _, _, rfl, Same.refl _⟩
        (fun _ σ H' _ ⟨_, _, _, _, s⟩ => s.seq (SqL.of e4)) (fun k x σ H6 H7 hk p6 hy => ?_) (fun σ H6 p6 => ?_)
      · obtain ⟨c, d, e, rfl, s6⟩ := p6
        obtain ⟨rfl, ey⟩ := hy
        obtain ⟨t, ti, tj, tk, rfl, ht, h1, h2, h3, n1, n2, n3⟩ := hx4 x (List.mem_of_getElem? ey)
        obtain ⟨him, hib⟩ := beside_mem.mp h1
        obtain ⟨hjm, hjb⟩ := beside_mem.mp h2
        obtain ⟨hkm, hkb⟩ := beside_mem.mp h3
        refine ⟨t, _, rfl, SqT.of (s6 _ _ ht), rfl, _, _, rfl, _, _, rfl, _, _, rfl, rfl, ?_⟩
        refine ⟨_, rfl, _, rfl, _, rfl, _, rfl, _, rfl, a, tab, m, i, ti, tj, tk, rfl, (((s1.trans s3).trans s4).trans s6).tup ha, hg.len, hm, hi, him, hjm, hkm, K98.no_three hg hi him hjm hkm hib hjb hkb n1 n2 n3, ?_⟩
        exact ⟨_, rfl, iteF ⟨_, _, _, rfl, s6⟩⟩
      · obtain ⟨c, d, e, rfl, s6⟩ := p6
        exact ⟨_, _, _, _, rfl, ((s1.trans s3).trans s4).trans s6⟩
    · obtain ⟨b, c, d, e, rfl, s1⟩ := p
      exact q _ s1
def sp_breaking (K : PySem.W.Frag) : Sp := fun vs H Q _ => ∃ (a b : Addr) (tab : List Int) (m : Nat), vs = [.ref a, .ref b] ∧ SqT K H a (iv tab) ∧ SqT K H b (zeros m) ∧ GoodTab m tab ∧ m ≤ 5 ∧ ∀ H', Same H H' → Q .non H'
theorem sc_breaking : FnScope ["want", "sides", "table", "found"] ["want", "sides"] (defScope (top 15)) := ⟨rfl, rfl, rfl, by decide +kernel, rfl, by decide +kernel, by decide +kernel⟩
theorem ok_breaking (D : Defs K mg) (C_turned : Callee P w K mg base 2 "turned" ["want", "sides"] (sp_turned K)) (C_first_pair : Callee P w K mg base 2 "first_pair" ["table", "many"] (sp_first_pair K)) (C_first_three : Callee P w K mg base 2 "first_three" ["table", "many"] (sp_first_three K)) : Callee P w K mg base 3 "breaking" ["want", "sides"] (sp_breaking K) := by
  obtain ⟨f_turned, fd_turned, g_turned, m_turned, k_turned, b_turned⟩ := C_turned.ex
  obtain ⟨f_first_pair, fd_first_pair, g_first_pair, m_first_pair, k_first_pair, b_first_pair⟩ := C_first_pair.ex
  obtain ⟨f_first_three, fd_first_three, g_first_three, m_first_three, k_first_three, b_first_three⟩ := C_first_three.ex
  refine callee_mk D.f_breaking sc_breaking (fun _ _ _ _ _ _ us hl => match us, hl with | [_, _], _ => rfl) (fun vs H Q E h => ?_) (fun f cdv A outer s H vs Q E hr h => ?_)
  · obtain ⟨a, b, tab, m, rfl, _⟩ := h; rfl
  · obtain ⟨a, b, tab, m, rfl, ha, hb, hg, hm, q⟩ := h
    refine ⟨_, (pss_cons (ps_set (i := 2) sc_breaking.nd rfl (.inl rfl) (pe_call g_turned (hr.mono (by decide)) (by rfl) m_turned k_turned b_turned .nil pass0 (pa_cons (pv 0) (pa_cons (pv 1) pa_nil)))) (pss_cons (ps_set (i := 3) sc_breaking.nd rfl (.inl rfl) (pe_call g_first_pair (hr.mono (by decide)) (by rfl) m_first_pair k_first_pair b_first_pair .nil pass0 (pa_cons (pv 2) (pa_cons (pe_callB call_len_seq (by rfl) D.len_ bt_len (pa_cons (pv 1) pa_nil)) pa_nil)))) (pss_cons (ps_if (pt_cmpR op_notN (pv 3) pe_non (nomark _)) pss_never pss_nil) (pss_cons (ps_set (i := 3) sc_breaking.nd rfl (.inl rfl) (pe_call g_first_three (hr.mono (by decide)) (by rfl) m_first_three k_first_three b_first_three .nil pass0 (pa_cons (pv 2) (pa_cons (pe_callB call_len_seq (by rfl) D.len_ bt_len (pa_cons (pv 1) pa_nil)) pa_nil)))) (pss_cons (ps_if (pt_cmpR op_notN (pv 3) pe_non (nomark _)) pss_never pss_nil) (pss_one (ps_ret pe_non))))))), ?_⟩
    refine ⟨_, rfl, _, rfl, a, b, tab, m, rfl, ha, len64 hg.len (by omega), hb, hm, fun H1 p1 s1 np1 e1 => ?_⟩
    have ezl : (zeros m).length = m := List.length_replicate
    refine ⟨_, rfl, _, rfl, b, _, rfl, .inr (s1.tup hb), p1, tab, m, by rw [ezl]; rfl, SqT.of e1, hg, hm, fun H2 s2 => ?_⟩
    refine ⟨_, rfl, rfl, _, rfl, iteF ?_⟩
    refine ⟨_, rfl, _, rfl, b, _, rfl, .inr ((s1.trans s2).tup hb), p1, tab, m, by rw [ezl]; rfl, SqT.of (s2 _ _ e1), hg, hm, fun H3 s3 => ?_⟩
    refine ⟨_, rfl, rfl, _, rfl, iteF ?_⟩
    exact q _ ((s1.trans s2).trans s3)

/-! ### towns in memory -/
structure TabsAt (K : PySem.W.Frag) (H : Hp) (wa : List Addr) (wants : List (List Int)) : Prop where
  len : wa.length = wants.length
  at_ : ∀ i b, wa[i]? = some b → SqT K H b (iv (wt wants i))
theorem TabsAt.same {H H' : Hp} {wa : List Addr} {wants : List (List Int)} (h : TabsAt K H wa wants) (s : Same H H') : TabsAt K H' wa wants := ⟨h.len, fun i b e => s.tup (h.at_ i b e)⟩
structure Town (K : PySem.W.Frag) (H : Hp) (t s wv : Addr) (wa : List Addr) (m : Nat) (wants : List (List Int)) : Prop where
  t : SqT K H t [.ref s, .ref wv]
  s : SqT K H s (zeros m)
  w : SqT K H wv (wa.map V.ref)
  tabs : TabsAt K H wa wants
theorem Town.same {H H' : Hp} {t s wv : Addr} {wa : List Addr} {m : Nat} {wants : List (List Int)} (h : Town K H t s wv wa m wants) (e : Same H H') : Town K H' t s wv wa m wants := ⟨e.tup h.t, e.tup h.s, e.tup h.w, h.tabs.same e⟩
theorem ref_get {wa : List Addr} {i : Nat} {x : V} (h : (wa.map V.ref)[i]? = some x) : ∃ b, wa[i]? = some b ∧ x = .ref b := by
  rw [List.getElem?_map] at h
  cases e : wa[i]? with
  | none => rw [e] at h; cases h
  | some t => rw [e] at h; exact ⟨t, rfl, (Option.some.inj h).symm⟩
def sp_first_strange (K : PySem.W.Frag) : Sp := fun vs H Q _ => ∃ (t s wv : Addr) (wa : List Addr) (m : Nat) (wants : List (List Int)), vs = [.ref t] ∧ Town K H t s wv wa m wants ∧ GoodTown m wants ∧ ∀ H', Same H H' → Q .non H'
theorem sc_first_strange : FnScope ["town", "sides", "wants", "hand", "want"] ["town"] (defScope (top 16)) := ⟨rfl, rfl, rfl, by decide +kernel, rfl, by decide +kernel, by decide +kernel⟩
theorem ok_first_strange (D : Defs K mg) (C_breaking : Callee P w K mg base 3 "breaking" ["want", "sides"] (sp_breaking K)) : Callee P w K mg base 4 "first_strange" ["town"] (sp_first_strange K) := by
  obtain ⟨f_breaking, fd_breaking, g_breaking, m_breaking, k_breaking, b_breaking⟩ := C_breaking.ex
  refine callee_mk D.f_first_strange sc_first_strange (fun _ _ _ _ _ _ us hl => match us, hl with | [_], _ => rfl) (fun vs H Q E h => ?_) (fun f cdv A outer s H vs Q E hr h => ?_)
  · obtain ⟨t, s, wv, wa, m, wants, rfl, _⟩ := h; rfl
  · obtain ⟨t, s, wv, wa, m, wants, rfl, ht, hg, q⟩ := h
    refine ⟨_, (pss_cons (ps_asg (pv 0) (pg_tup rfl (pgs_cons (pg_name (i := 1) sc_first_strange.nd rfl (.inl rfl)) (pgs_cons (pg_name (i := 2) sc_first_strange.nd rfl (.inl rfl)) pgs_nil)))) (pss_cons (ps_for PassesOwn.never rfl (pi_enumT (by rfl) D.enumerate_ (pa_cons (pv 2) pa_nil)) (pg_tup rfl (pgs_cons (pg_name (i := 3) sc_first_strange.nd rfl (.inl rfl)) (pgs_cons (pg_name (i := 4) sc_first_strange.nd rfl (.inl rfl)) pgs_nil))) (pss_one (ps_if (pt_cmpR op_notN (pe_call g_breaking (hr.mono (by decide)) (by rfl) m_breaking k_breaking b_breaking .nil pass0 (pa_cons (pv 4) (pa_cons (pv 1) pa_nil))) pe_non (nomark _)) (pss_one (ps_ret (pv 3))) pss_nil))) (pss_one (ps_ret pe_non)))), ?_⟩
    refine ⟨_, rfl, t, _, rfl, ht.t, rfl, _, _, rfl, _, _, rfl, rfl, ?_⟩
    refine ⟨_, rfl, wv, _, rfl, ht.w, ?_⟩
    refine for_it (K98R.walk_enumT (K := K) (a := wv) (xs := wa.map V.ref)) (fun i σ H' => ∃ b c, σ = [some (.ref t), some (.ref s), some (.ref wv), b, c] ∧ Same H H') ⟨_, _, rfl, Same.refl _⟩ (fun _ σ H' _ ⟨_, _, _, s⟩ => s.tup ht.w) (fun i x σ H1 H2 hi p hy => ?_) (fun σ H1 p => ?_)
    · obtain ⟨b, c, rfl, s1⟩ := p
      obtain ⟨T, x1, x2, rfl, nT, rfl, e1, e2⟩ := hy
      have ex1 : x1 = .int (i : Nat) := (Option.some.inj e1).symm
      subst ex1
      obtain ⟨u, hu, rfl⟩ := ref_get e2
      have sT := same_new (o := HO.tup [.int (i : Nat), .ref u]) nT
      refine ⟨T, _, rfl, SqT.new, rfl, _, _, rfl, _, _, rfl, rfl, ?_⟩
      have hlt : i < wants.length := by
        rw [← ht.tabs.len]
        exact (List.getElem?_eq_some_iff.mp hu).1
      refine ⟨_, rfl, _, rfl, u, s, wt wants i, m, rfl, (s1.trans sT).tup (ht.tabs.at_ i u hu), (s1.trans sT).tup ht.s, hg.tabs _ (K98.wt_mem hlt), hg.m5, fun H3 s3 => ?_⟩
      exact ⟨rfl, _, rfl, iteF ⟨_, _, rfl, (s1.trans sT).trans s3⟩⟩
    · obtain ⟨b, c, rfl, s1⟩ := p
      exact q _ s1
end
end K98W
set_option Elab.async false
set_option linter.all false
set_option maxRecDepth 100000
set_option maxHeartbeats 4000000
/-! K98 walk D: gains, steps. -/
namespace K98W
open PySem PySem.Spec PyProof.Rows L2 K98R
open K98 (tabAt GoodTab GoodTown wt pf costsF gainsL ggain maxL payL stepL lst leastL okL lastL topL)

theorem range_map_f (l : List Int) (g : Int → Int) : (List.range l.length).map (fun i => V.int (g (tabAt l i))) = iv (l.map g) := by
  have := range_map_tab (l.map g)
  rw [List.length_map] at this
  rw [← this]
  refine List.map_congr_left fun i hi => ?_
  rw [K98.tabAt_map (List.mem_range.mp hi)]
theorem range_map_zip {a b : List Int} (h : b.length = a.length) (g : Int → Int → Int) : (List.range a.length).map (fun i => V.int (g (tabAt a i) (tabAt b i))) = iv (List.zipWith g a b) := by
  have := range_map_tab (List.zipWith g a b)
  rw [List.length_zipWith, h, Nat.min_self] at this
  rw [← this]
  refine List.map_congr_left fun i hi => ?_
  have hi' := List.mem_range.mp hi
  refine congrArg V.int (K98.tabAt_of ?_).symm
  rw [List.getElem?_zipWith, K98.tab_get hi', K98.tab_get (by omega)]
theorem iv_get? {l : List Int} {i : Nat} {x : V} (h : (iv l)[i]? = some x) : i < l.length ∧ x = .int (tabAt l i) := by
  have hi := (List.getElem?_eq_some_iff.mp h).1
  rw [iv_len] at hi
  refine ⟨hi, ?_⟩
  rw [iv_get hi] at h
  exact (Option.some.inj h).symm
theorem at_last {tab : List Int} (h : 0 < tab.length) : atI (iv tab) (-1) = some (.int (lastL tab)) := by
  have e : atI (iv tab) (-1) = (iv tab)[(-1 + ((iv tab).length : Int)).toNat]? := by
    unfold atI ixN
    rw [if_neg (by decide), if_pos (by rw [iv_len]; omega)]
    rfl
  rw [e, iv_len, show (-1 + (tab.length : Int)).toNat = tab.length - 1 by omega, iv_get (by omega)]
  rfl
theorem iv_app (a b : List Int) : iv a ++ iv b = iv (a ++ b) := List.map_append.symm
theorem pf_tab (ps : List Int) (t : Nat) : pf ps t = tabAt ps t := rfl

section
variable {P : Program} {w : World} {K : PySem.W.Frag} {mg : Str → Option Value} {base : Heap}
def sp_all_gains (K : PySem.W.Frag) : Sp := fun vs H Q _ => ∃ (a b : Addr) (tab ps : List Int) (m : Nat), vs = [.ref a, .ref b] ∧ SqT K H a (iv tab) ∧ SqT K H b (iv ps) ∧ tab.length = 2 ^ m ∧ ps.length = m ∧ m ≤ 6 ∧
  ∀ H' p, Same H H' → H p = none → H' p = some (.lst (iv (gainsL tab m (pf ps)))) → Q (.ref p) H'
theorem sc_all_gains : FnScope ["want", "prices", "costs", "price", "cost", "worth"] ["want", "prices"] (defScope (top 18)) := ⟨rfl, rfl, rfl, by decide +kernel, rfl, by decide +kernel, by decide +kernel⟩
theorem ok_all_gains (D : Defs K mg) : Callee P w K mg base 1 "all_gains" ["want", "prices"] (sp_all_gains K) := by
  refine callee_mk D.f_all_gains sc_all_gains (fun _ _ _ _ _ _ us hl => match us, hl with | [_, _], _ => rfl) (fun vs H Q E h => ?_) (fun f cdv A outer s H vs Q E hr h => ?_)
  · obtain ⟨a, b, tab, ps, m, rfl, _⟩ := h; rfl
  · obtain ⟨a, b, tab, ps, m, rfl, ha, hb, hl, hp, hm, q⟩ := h
    refine ⟨_, (pss_cons (ps_set (i := 2) sc_all_gains.nd rfl (.inl rfl) (pe_lst (pa_cons pe_int pa_nil))) (pss_cons (ps_for PassesOwn.never rfl (pi_tup (pv 1)) (pg_name (i := 3) sc_all_gains.nd rfl (.inr rfl)) (pss_one (ps_set (i := 2) sc_all_gains.nd rfl (.inl rfl) (pe_op op_cat (pv 2) (pe_lc (own := [("cost", 4)]) (g := (gName 4)) (tt := tYes) rfl sc_all_gains.nd (pi_listK (K := K) (pv 2)) (blkOk_by (own := [("cost", 4)]) (N := ["want", "prices", "costs", "price", "cost", "worth"]) (sc := defScope (top 18)) (by decide +kernel)) (fun _ _ _ _ _ => (pg_name (i := 4) sc_all_gains.nd rfl (.inl rfl))) (fun _ _ _ _ _ => pts_nil) (fun _ _ _ _ _ => (pe_op op_add (pv 4) (pv 3)))))))) (pss_one (ps_ret (pe_lc (own := [("worth", 5), ("cost", 4)]) (g := (gTup K 2 (gCons (gName 5) (gCons (gName 4) gNil)))) (tt := tYes) rfl sc_all_gains.nd (pi_zipM (by rfl) D.zip_ (pa_cons (pv 0) (pa_cons (pv 2) pa_nil))) (blkOk_by (own := [("worth", 5), ("cost", 4)]) (N := ["want", "prices", "costs", "price", "cost", "worth"]) (sc := defScope (top 18)) (by decide +kernel)) (fun _ _ _ _ _ => (pg_tup rfl (pgs_cons (pg_name (i := 5) sc_all_gains.nd rfl (.inl rfl)) (pgs_cons (pg_name (i := 4) sc_all_gains.nd rfl (.inl rfl)) pgs_nil)))) (fun _ _ _ _ _ => pts_nil) (fun _ _ _ _ _ => (pe_op op_sub (pv 5) (pv 4)))))))), ?_⟩
    have hpow : ∀ j, j ≤ m → 2 ^ j ≤ 64 := fun j hj => Nat.le_trans (Nat.pow_le_pow_right (n := 2) (by decide) (show j ≤ 6 by omega)) (by decide)
    refine ⟨by show 1 ≤ sizeLine; decide, fun c0 nc0 => ?_⟩
    refine ⟨_, rfl, b, rfl, ⟨_, (same_new nc0).tup hb⟩, ?_⟩
    refine for_it (walk_tup (K := K) (a := b) (xs := iv ps)) (fun i σ H' => ∃ c d e g, σ = [some (.ref a), some (.ref b), some (.ref c), d, e, g] ∧ Same H H' ∧ H' c = some (.lst (iv (costsF i (pf ps))))) ⟨c0, _, _, _, rfl, same_new nc0, upd_same⟩
      (fun _ σ H' _ ⟨_, _, _, _, _, s, _⟩ => s.tup hb) (fun i x σ H1 H2 hi p hy => ?_) (fun σ H1 p => ?_)
    · obtain ⟨c, d, e, g, rfl, s1, ec⟩ := p
      obtain ⟨rfl, ex⟩ := hy
      obtain ⟨hip, rfl⟩ := iv_get? ex
      have hlen := K98.costsF_len i (pf ps)
      have h64 := hpow i (by omega)
      refine ⟨_, rfl, _, rfl, c, rfl, ⟨_, SqL.of ec⟩, fun L hL => ?_⟩
      refine lc_mp (walk_list (K := K) (a := c) (xs := iv (costsF i (pf ps)))) (fun k => .int (tabAt (costsF i (pf ps)) k + tabAt ps i)) hL (le_line (by rw [iv_len, hlen]; omega)) (fun H' s => s.seq (SqL.of ec)) (fun k x H3 H4 R hk s3 hy hR => ?_) (fun H3 s3 e3 => ?_)
      · obtain ⟨rfl, ey⟩ := hy
        obtain ⟨hkc, rfl⟩ := iv_get? ey
        exact ⟨rfl, _, rfl, _, rfl, _, _, rfl, rfl, hR _ (Same.refl _)⟩
      · rw [iv_len, range_map_f _ fun y => y + tabAt ps i] at e3
        refine ⟨c, L, _, _, rfl, rfl, s3 _ _ ec, e3, ?_, fun p np => ?_⟩
        · rw [iv_len, iv_len, List.length_map, hlen]
          exact le_line (by omega)
        · refine ⟨p, _, _, _, rfl, (s1.trans s3).trans (same_new np), ?_⟩
          rw [upd_same]
          show some (HO.lst (iv (costsF i (pf ps)) ++ iv ((costsF i (pf ps)).map fun y => y + tabAt ps i))) = some (HO.lst (iv (costsF i (pf ps) ++ (costsF i (pf ps)).map fun c => c + pf ps i)))
          rw [iv_app]; rfl
    · obtain ⟨c, d, e, g, rfl, s1, ec⟩ := p
      rw [iv_len, hp] at ec
      have hlen := K98.costsF_len m (pf ps)
      have h64 := hpow m (Nat.le_refl _)
      refine ⟨_, rfl, _, rfl, a, c, _, _, rfl, s1.tup ha, SqL.of ec, fun L hL => ?_⟩
      refine lc_mp (walk_zipM (K := K) (a := a) (b := c) (xs := iv tab) (ys := iv (costsF m (pf ps))) (by rw [iv_len, iv_len, hl, hlen])) (fun k => .int (tabAt tab k - tabAt (costsF m (pf ps)) k)) hL (le_line (by rw [iv_len]; omega)) (fun H' s => ⟨(s1.trans s).tup ha, s.seq (SqL.of ec)⟩) (fun k x H3 H4 R hk s3 hy hR => ?_) (fun H3 s3 e3 => ?_)
      · obtain ⟨T, x1, x2, rfl, nT, rfl, e1, e2⟩ := hy
        obtain ⟨_, rfl⟩ := iv_get? e1
        obtain ⟨_, rfl⟩ := iv_get? e2
        exact ⟨T, _, rfl, SqT.new, rfl, _, _, rfl, _, _, rfl, rfl, rfl, _, rfl, _, rfl, _, _, rfl, rfl, hR _ (same_new nT)⟩
      · rw [iv_len, range_map_zip (by rw [hl, hlen]) fun w c => w - c] at e3
        exact q _ L (s1.trans s3) (s1.free hL) e3
def sp_greatest_gain (K : PySem.W.Frag) : Sp := fun vs H Q _ => ∃ (a b : Addr) (tab ps : List Int) (m : Nat), vs = [.ref a, .ref b] ∧ SqT K H a (iv tab) ∧ SqT K H b (iv ps) ∧ tab.length = 2 ^ m ∧ ps.length = m ∧ m ≤ 6 ∧
  ∀ H', Same H H' → Q (.int (ggain tab m (pf ps))) H'
theorem sc_greatest_gain : FnScope ["want", "prices"] ["want", "prices"] (defScope (top 19)) := ⟨rfl, rfl, rfl, by decide +kernel, rfl, by decide +kernel, by decide +kernel⟩
theorem ok_greatest_gain (D : Defs K mg) (C_all_gains : Callee P w K mg base 1 "all_gains" ["want", "prices"] (sp_all_gains K)) : Callee P w K mg base 2 "greatest_gain" ["want", "prices"] (sp_greatest_gain K) := by
  obtain ⟨f_all_gains, fd_all_gains, g_all_gains, m_all_gains, k_all_gains, b_all_gains⟩ := C_all_gains.ex
  refine callee_mk D.f_greatest_gain sc_greatest_gain (fun _ _ _ _ _ _ us hl => match us, hl with | [_, _], _ => rfl) (fun vs H Q E h => ?_) (fun f cdv A outer s H vs Q E hr h => ?_)
  · obtain ⟨a, b, tab, ps, m, rfl, _⟩ := h; rfl
  · obtain ⟨a, b, tab, ps, m, rfl, ha, hb, hl, hp, hm, q⟩ := h
    refine ⟨_, (pss_one (ps_ret (pe_callB (cr_maxK (K := K) rfl) (by rfl) D.max_ bt_max (pa_cons (pe_call g_all_gains (hr.mono (by decide)) (by rfl) m_all_gains k_all_gains b_all_gains .nil pass0 (pa_cons (pv 0) (pa_cons (pv 1) pa_nil))) pa_nil)))), ?_⟩
    refine ⟨_, rfl, _, rfl, a, b, tab, ps, m, rfl, ha, hb, hl, hp, hm, fun H1 p s1 np e1 => ?_⟩
    refine ⟨p, _, rfl, SqL.of e1, ?_, fun v hv hle => ?_⟩
    · rw [K98.gainsL_len hl]
      exact Nat.two_pow_pos m
    · have := K98.maxL_eq hv hle
      rw [this]
      exact q _ s1
def sp_top_of (K : PySem.W.Frag) : Sp := fun vs H Q _ => ∃ (t s wv : Addr) (wa : List Addr) (m : Nat) (wants : List (List Int)), vs = [.ref t] ∧ Town K H t s wv wa m wants ∧ GoodTown m wants ∧ wants.length ≤ 100 ∧ ∀ H', Same H H' → Q (.int (topL wants)) H'
theorem sc_top_of : FnScope ["town", "want"] ["town"] (defScope (top 23)) := ⟨rfl, rfl, rfl, by decide +kernel, rfl, by decide +kernel, by decide +kernel⟩
theorem ok_top_of (D : Defs K mg) : Callee P w K mg base 1 "top_of" ["town"] (sp_top_of K) := by
  refine callee_mk D.f_top_of sc_top_of (fun _ _ _ _ _ _ us hl => match us, hl with | [_], _ => rfl) (fun vs H Q E h => ?_) (fun f cdv A outer s H vs Q E hr h => ?_)
  · obtain ⟨t, s, wv, wa, m, wants, rfl, _⟩ := h; rfl
  · obtain ⟨t, s, wv, wa, m, wants, rfl, ht, hg, hn, q⟩ := h
    refine ⟨_, (pss_one (ps_ret (pe_callB (cr_maxK (K := K) rfl) (by rfl) D.max_ bt_max (pa_cons (pe_lc (own := [("want", 1)]) (g := (gName 1)) (tt := tYes) rfl sc_top_of.nd (pi_tup (pe_ix (ix_tupK (K := K)) (pv 0) pe_int (fun _ _ => rfl))) (blkOk_by (own := [("want", 1)]) (N := ["town", "want"]) (sc := defScope (top 23)) (by decide +kernel)) (fun _ _ _ _ _ => (pg_name (i := 1) sc_top_of.nd rfl (.inl rfl))) (fun _ _ _ _ _ => pts_nil) (fun _ _ _ _ _ => (pe_ix (ix_tupK (K := K)) (pv 1) (pe_un un_neg pe_int) (fun _ _ => rfl)))) pa_nil)))), ?_⟩
    have hwl := ht.tabs.len
    have hrl : (wa.map V.ref).length = wants.length := by rw [List.length_map, hwl]
    refine ⟨_, rfl, t, _, _, _, rfl, rfl, ht.t, rfl, wv, rfl, ⟨_, ht.w⟩, fun L hL => ?_⟩
    refine lc_mp (walk_tup (K := K) (a := wv) (xs := wa.map V.ref)) (fun i => .int (lastL (wt wants i))) hL (le_line (by rw [hrl]; omega)) (fun H' s => s.tup ht.w) (fun k x H3 H4 R hk s3 hy hR => ?_) (fun H3 s3 e3 => ?_)
    · obtain ⟨rfl, ey⟩ := hy
      obtain ⟨u, hu, rfl⟩ := ref_get ey
      have hpos : 0 < (wt wants k).length := by
        rw [(hg.tabs _ (K98.wt_mem (by omega))).len]
        exact Nat.two_pow_pos m
      exact ⟨rfl, _, rfl, _, rfl, u, _, _, _, rfl, rfl, s3.tup (ht.tabs.at_ k u hu), at_last hpos, hR _ (Same.refl _)⟩
    · have e : (List.range (wa.map V.ref).length).map (fun i => V.int (lastL (wt wants i))) = iv (wants.map lastL) := by
        rw [hrl]
        refine List.ext_getElem? fun i => ?_
        by_cases hi : i < wants.length
        · rw [List.getElem?_map, List.getElem?_range hi, List.getElem?_map, List.getElem?_map, List.getElem?_eq_getElem hi]
          have : wt wants i = wants[i] := by
            unfold K98.wt
            rw [List.getD_eq_getElem?_getD, List.getElem?_eq_getElem hi]; rfl
          show some (V.int (lastL (wt wants i))) = _
          rw [this]
          rfl
        · rw [List.getElem?_eq_none (by simp; omega), List.getElem?_eq_none (by simp; omega)]
      rw [e] at e3
      refine ⟨L, _, rfl, SqL.of e3, ?_, fun v hv hle => ?_⟩
      · rw [List.length_map]
        exact hg.n1
      · have := K98.maxL_eq hv hle
        rw [this]
        exact q _ s3
def firstL (m : Nat) (wants : List (List Int)) (wy : Int) : List Int := List.replicate m (if wy = 1 then 0 else topL wants)
def sp_first_prices (K : PySem.W.Frag) : Sp := fun vs H Q _ => ∃ (t s wv : Addr) (wa : List Addr) (m : Nat) (wants : List (List Int)) (wy : Int), vs = [.ref t, .int wy] ∧ Town K H t s wv wa m wants ∧ GoodTown m wants ∧ wants.length ≤ 100 ∧
  ∀ H' p, Same H H' → H p = none → H' p = some (.tup (iv (firstL m wants wy))) → Q (.ref p) H'
theorem sc_first_prices : FnScope ["town", "way", "costly", "side"] ["town", "way"] (defScope (top 24)) := ⟨rfl, rfl, rfl, by decide +kernel, rfl, by decide +kernel, by decide +kernel⟩
theorem ok_first_prices (D : Defs K mg) (C_top_of : Callee P w K mg base 1 "top_of" ["town"] (sp_top_of K)) : Callee P w K mg base 2 "first_prices" ["town", "way"] (sp_first_prices K) := by
  obtain ⟨f_top_of, fd_top_of, g_top_of, m_top_of, k_top_of, b_top_of⟩ := C_top_of.ex
  obtain ⟨tB, mBELOW⟩ := D.BELOW_
  refine callee_mk D.f_first_prices sc_first_prices (fun _ _ _ _ _ _ us hl => match us, hl with | [_, _], _ => rfl) (fun vs H Q E h => ?_) (fun f cdv A outer s H vs Q E hr h => ?_)
  · obtain ⟨t, s, wv, wa, m, wants, wy, rfl, _⟩ := h; rfl
  · obtain ⟨t, s, wv, wa, m, wants, wy, rfl, ht, hg, hn, q⟩ := h
    refine ⟨_, (pss_cons (ps_set (i := 2) sc_first_prices.nd rfl (.inr rfl) (pe_ifExp (pt_cmpR op_eq (pv 1) (pe_glob (v := .int 1) (by rfl) mBELOW ⟨_, rfl⟩) (nomark _)) pe_int pe_int)) (pss_one (ps_ret (pe_callTy call_tuple_of (by rfl) D.tuple_ bt_tuple (pa_cons (pe_lc (own := [("side", 3)]) (g := (gName 3)) (tt := tYes) rfl sc_first_prices.nd (pi_tup (pe_ix (ix_tupK (K := K)) (pv 0) pe_int (fun _ _ => rfl))) (blkOk_by (own := [("side", 3)]) (N := ["town", "way", "costly", "side"]) (sc := defScope (top 24)) (by decide +kernel)) (fun _ _ _ _ _ => (pg_name (i := 3) sc_first_prices.nd rfl (.inl rfl))) (fun _ _ _ _ _ => pts_nil) (fun _ _ _ _ _ => (pe_op op_mul (pe_call g_top_of (hr.mono (by decide)) (by rfl) m_top_of k_top_of b_top_of .nil pass0 (pa_cons (pv 0) pa_nil)) (pe_callTy call_int1 (by rfl) D.int_ bt_int (pa_cons (pe_cmpR op_eq (pv 3) (pv 2) (nomark _)) pa_nil))))) pa_nil))))), ?_⟩
    have hm := hg.m5
    have zl : (zeros m).length = m := List.length_replicate
    -- costly
    have rest : ∀ cy : Int, (cy = if wy = 1 then 1 else 0) → ∀ H1, Same H H1 → Q = Q → True := fun _ _ _ _ _ => trivial
    have key : ∀ cy : Int, (cy = if wy = 1 then 1 else 0) → (tRet (tCB (fun xs H Q => ∃ p ys, xs = [.ref p] ∧ ((SqL K H p ys ∧ ∀ l, H l = none → Q (.ref l) (upd H l (.tup ys))) ∨ (SqT K H p ys ∧ Q (.ref p) H)))
        (tCons (tLc (iTup K (tOp (rIxT K) (tVar 0) (tC (.int 0)))) (gName 3) tYes (tOp (rI CMul fun i j => .int (i * j)) (tCall (sp_top_of K) [] E0 (tCons (tVar 0) tNil)) (tCB (fun xs H Q => (∃ i, xs = [.int i] ∧ Q (.int i) H) ∨ ∃ k, xs = [.bl k] ∧ Q (.int (if k then 1 else 0)) H) (tCons (tOp rEq (tVar 3) (tVar 2)) tNil))) [3]) tNil)))
        { nx := fun _ H' => Q .non H', rt := Q } [some (.ref t), some (.int wy), some (.int cy), none] H := fun cy hcy => by
      refine ⟨_, rfl, t, _, _, _, rfl, rfl, ht.t, rfl, s, rfl, ⟨_, ht.s⟩, fun L hL => ?_⟩
      refine lc_mp (walk_tup (K := K) (a := s) (xs := zeros m)) (fun i => .int (if wy = 1 then 0 else topL wants)) hL (le_line (by rw [zl]; omega)) (fun H' s => s.tup ht.s) (fun k x H3 H4 R hk s3 hy hR => ?_) (fun H3 s3 e3 => ?_)
      · obtain ⟨rfl, ey⟩ := hy
        have ex := rep_at ey
        subst ex
        refine ⟨rfl, _, rfl, t, s, wv, wa, m, wants, rfl, ht.same s3, hg, hn, fun H5 s5 => ?_⟩
        refine ⟨_, rfl, _, rfl, rfl, .inr ⟨_, rfl, _, _, rfl, rfl, .inr ?_, ?_⟩⟩
        · split <;> decide
        · have e : topL wants * (if decide (V.int 0 = V.int cy) = true then 1 else 0) = if wy = 1 then 0 else topL wants := by
            rw [hcy]
            by_cases h1 : wy = 1
            · rw [if_pos h1, if_pos h1, if_neg (by decide)]; omega
            · rw [if_neg h1, if_neg h1, if_pos (by decide)]; omega
          show R (.int (topL wants * (if decide (V.int 0 = V.int cy) = true then 1 else 0))) H5
          rw [e]
          exact hR _ s5
      · have e : (List.range (zeros m).length).map (fun _ => V.int (if wy = 1 then 0 else topL wants)) = iv (firstL m wants wy) := by
          rw [zl]
          unfold firstL
          rw [iv, List.map_replicate, List.map_const', List.length_range]
        rw [e] at e3
        refine ⟨L, _, rfl, .inl ⟨SqL.of e3, fun p hp => ?_⟩⟩
        exact q _ p (s3.trans (same_new hp)) (s3.free hp) upd_same
    refine ⟨_, rfl, rfl, _, rfl, ?_⟩
    refine ite2 (fun h1 => ?_) (fun h1 => ?_)
    · have h1' : wy = 1 := V.int.inj (of_decide_eq_true h1)
      exact key 1 (by rw [if_pos h1'])
    · have h1' : ¬ wy = 1 := fun z => h1 (decide_eq_true (congrArg V.int z))
      exact key 0 (by rw [if_neg h1'])
def sp_change_of (K : PySem.W.Frag) : Sp := fun vs H Q _ => ∃ wy : Int, vs = [.int 0, .int wy] ∧ Q (.int wy) H
theorem sc_change_of : FnScope ["side", "way"] ["side", "way"] (defScope (top 25)) := ⟨rfl, rfl, rfl, by decide +kernel, rfl, by decide +kernel, by decide +kernel⟩
theorem ok_change_of (D : Defs K mg) : Callee P w K mg base 1 "change_of" ["side", "way"] (sp_change_of K) := by
  refine callee_mk D.f_change_of sc_change_of (fun _ _ _ _ _ _ us hl => match us, hl with | [_, _], _ => rfl) (fun vs H Q E h => ?_) (fun f cdv A outer s H vs Q E hr h => ?_)
  · obtain ⟨wy, rfl, _⟩ := h; rfl
  · obtain ⟨wy, rfl, q⟩ := h
    refine ⟨_, (pss_one (ps_ret (pe_ifExp (pt_cmpR op_eq (pv 0) pe_int (nomark _)) (pv 1) (pe_un un_neg (pv 1))))), ?_⟩
    exact ⟨_, rfl, rfl, _, rfl, iteT ⟨_, rfl, q⟩⟩

/-! ### stepped -/
def partStep (ps : List Int) (bs : List Nat) (wy : Int) : List Int := (List.range ps.length).map fun t => pf ps t + if t ∈ bs then wy else 0
theorem partStep_nil (ps : List Int) (wy : Int) : partStep ps [] wy = ps := by
  refine List.ext_getElem? fun t => ?_
  unfold partStep
  by_cases h : t < ps.length
  · rw [List.getElem?_map, List.getElem?_range h, K98.pf_get h]
    simp
  · rw [List.getElem?_eq_none (by simp; omega), List.getElem?_eq_none (by omega)]
theorem partStep_at {ps : List Int} {bs : List Nat} {wy : Int} {t : Nat} (h : t < ps.length) : (iv (partStep ps bs wy))[t]? = some (.int (pf ps t + if t ∈ bs then wy else 0)) := by
  unfold partStep
  rw [List.getElem?_map, List.getElem?_map, List.getElem?_range h]; rfl
theorem partStep_len (ps : List Int) (bs : List Nat) (wy : Int) : (partStep ps bs wy).length = ps.length := by
  unfold partStep
  rw [List.length_map, List.length_range]
theorem partStep_set {ps : List Int} {bs : List Nat} {wy : Int} {t : Nat} (h : t < ps.length) (hn : t ∉ bs) : (iv (partStep ps bs wy)).set t (.int (pf ps t + (if t ∈ bs then wy else 0) + wy)) = iv (partStep ps (bs ++ [t]) wy) := by
  refine List.ext_getElem? fun u => ?_
  by_cases e : u = t
  · subst e
    rw [List.getElem?_set_self (by rw [iv_len, partStep_len]; exact h), partStep_at h, if_neg hn, if_pos (by simp)]
    congr 2; omega
  · rw [List.getElem?_set_ne (fun z => e z.symm)]
    by_cases hu : u < ps.length
    · rw [partStep_at hu, partStep_at hu]
      simp [e]
    · rw [List.getElem?_eq_none (by rw [iv_len, partStep_len]; omega), List.getElem?_eq_none (by rw [iv_len, partStep_len]; omega)]
theorem bits_mem {h t : Nat} : t ∈ bitsB h 6 ↔ t < 6 ∧ h.testBit t = true := by
  unfold bitsB
  rw [List.mem_filter, List.mem_range]
theorem bits_nd (h : Nat) : (bitsB h 6).Nodup := List.Pairwise.filter _ List.nodup_range
theorem partStep_all {ps : List Int} {h : Nat} {wy : Int} (hm : ps.length ≤ 6) : partStep ps (bitsB h 6) wy = stepL ps h wy := by
  unfold partStep K98.stepL
  refine List.map_congr_left fun t ht => ?_
  have := List.mem_range.mp ht
  by_cases q : h.testBit t = true
  · rw [if_pos q, if_pos (bits_mem.mpr ⟨by omega, q⟩)]
  · rw [if_neg q, if_neg (fun z => q (bits_mem.mp z).2)]
theorem take_new {l : List Nat} (hn : l.Nodup) {i t : Nat} (h : l[i]? = some t) : t ∉ l.take i ∧ l.take (i + 1) = l.take i ++ [t] := by
  refine ⟨fun hm => ?_, ?_⟩
  · obtain ⟨j, hj, e⟩ := List.getElem_of_mem hm
    rw [List.length_take] at hj
    rw [List.getElem_take] at e
    have : l[j]? = some t := by rw [List.getElem?_eq_getElem (by omega), e]
    have := nd_ix hn h this
    omega
  · rw [List.take_add_one, h]; rfl
def sp_stepped (K : PySem.W.Frag) : Sp := fun vs H Q _ => ∃ (s b : Addr) (ps : List Int) (m h : Nat) (wy : Int), vs = [.ref s, .ref b, .int h, .int wy] ∧ SqT K H s (zeros m) ∧ SqT K H b (iv ps) ∧ ps.length = m ∧ m ≤ 5 ∧ h < 2 ^ m ∧
  ∀ H' p, Same H H' → H p = none → H' p = some (.tup (iv (stepL ps h wy))) → Q (.ref p) H'
theorem sc_stepped : FnScope ["sides", "prices", "heap", "way", "found", "thing"] ["sides", "prices", "heap", "way"] (defScope (top 26)) := ⟨rfl, rfl, rfl, by decide +kernel, rfl, by decide +kernel, by decide +kernel⟩
theorem ok_stepped (D : Defs K mg) (C_things_in : Callee P w K mg base 1 "things_in" ["heap"] (sp_things_in K)) (C_change_of : Callee P w K mg base 1 "change_of" ["side", "way"] (sp_change_of K)) : Callee P w K mg base 2 "stepped" ["sides", "prices", "heap", "way"] (sp_stepped K) := by
  obtain ⟨f_things_in, fd_things_in, g_things_in, m_things_in, k_things_in, b_things_in⟩ := C_things_in.ex
  obtain ⟨f_change_of, fd_change_of, g_change_of, m_change_of, k_change_of, b_change_of⟩ := C_change_of.ex
  refine callee_mk D.f_stepped sc_stepped (fun _ _ _ _ _ _ us hl => match us, hl with | [_, _, _, _], _ => rfl) (fun vs H Q E h => ?_) (fun f cdv A outer s H vs Q E hr h => ?_)
  · obtain ⟨s0, b, ps, m, h0, wy, rfl, _⟩ := h; rfl
  · obtain ⟨s0, b, ps, m, h0, wy, rfl, hs, hb, hp, hm, hh, q⟩ := h
    refine ⟨_, (pss_cons (ps_set (i := 4) sc_stepped.nd rfl (.inl rfl) (pe_callTy call_list_of (by rfl) D.list_ bt_list (pa_cons (pv 1) pa_nil))) (pss_cons (ps_for PassesOwn.never rfl (pi_tup (pe_call g_things_in (hr.mono (by decide)) (by rfl) m_things_in k_things_in b_things_in .nil pass0 (pa_cons (pv 2) pa_nil))) (pg_name (i := 5) sc_stepped.nd rfl (.inl rfl)) (pss_one (ps_augS (pv 4) (pv 5) get_list (pe_call g_change_of (hr.mono (by decide)) (by rfl) m_change_of k_change_of b_change_of .nil pass0 (pa_cons (pe_ix (ix_tupK (K := K)) (pv 0) (pv 5) (fun _ _ => rfl)) (pa_cons (pv 3) pa_nil))) ip_add set_list))) (pss_one (ps_ret (pe_callTy call_tuple_of (by rfl) D.tuple_ bt_tuple (pa_cons (pv 4) pa_nil)))))), ?_⟩
    refine ⟨_, rfl, b, _, rfl, .inr hb, fun L hL => ?_⟩
    have h64 : h0 < 64 := Nat.lt_of_lt_of_le hh (Nat.pow_le_pow_right (n := 2) (by decide) (show m ≤ 6 by omega))
    refine ⟨_, rfl, h0, rfl, h64, fun H1 p s1 np e1 => ?_⟩
    refine ⟨p, rfl, ⟨_, SqT.of e1⟩, ?_⟩
    have s01 : Same H H1 := (same_new hL).trans s1
    refine for_it (walk_tup (K := K) (a := p) (xs := nv (bitsB h0 6))) (fun i σ H' => ∃ g, σ = [some (.ref s0), some (.ref b), some (.int h0), some (.int wy), some (.ref L), g] ∧ Same H H' ∧ H' p = some (.tup (nv (bitsB h0 6))) ∧ H' L = some (.lst (iv (partStep ps ((bitsB h0 6).take i) wy))))
      ⟨_, rfl, s01, e1, by rw [List.take_zero, partStep_nil]; exact s1 _ _ upd_same⟩ (fun _ σ H' _ ⟨_, _, _, ep, _⟩ => SqT.of ep) (fun i x σ H2 H3 hi p2 hy => ?_) (fun σ H2 p2 => ?_)
    · obtain ⟨g, rfl, s2, ep, eL⟩ := p2
      obtain ⟨rfl, ex⟩ := hy
      obtain ⟨t, ht, rfl⟩ := nv_get ex
      obtain ⟨ht6, htb⟩ := bits_mem.mp (List.mem_of_getElem? ht)
      have htm : t < m := by
        by_cases q : t < m
        · exact q
        · rw [Nat.testBit_lt_two_pow (Nat.lt_of_lt_of_le hh (Nat.pow_le_pow_right (by decide) (by omega)))] at htb
          cases htb
      have htp : t < ps.length := by omega
      obtain ⟨hnew, htake⟩ := take_new (bits_nd h0) ht
      have zat : (zeros m)[t]? = some (.int 0) := by
        unfold zeros
        rw [List.getElem?_replicate, if_pos htm]
      refine ⟨_, rfl, _, rfl, L, _, t, _, rfl, rfl, eL, partStep_at htp, ?_⟩
      refine ⟨_, rfl, _, rfl, s0, _, _, _, rfl, rfl, s2.tup hs, at_nat rfl zat, _, rfl, wy, rfl, ?_⟩
      refine ⟨_, _, rfl, rfl, L, _, _, t, rfl, rfl, eL, ?_, ?_⟩
      · unfold ixN
        rw [if_pos (by omega), if_pos (by rw [iv_len, partStep_len]; omega), Int.toNat_natCast]
      · refine ⟨_, rfl, s2.put hL, ?_, ?_⟩
        · rw [upd_ne (fun z => by rw [z, eL] at ep; cases ep)]; exact ep
        · rw [upd_same, htake, partStep_set htp hnew]
    · obtain ⟨g, rfl, s2, ep, eL⟩ := p2
      rw [List.take_of_length_le (by rw [nv_len]; exact Nat.le_refl _), partStep_all (by omega)] at eL
      refine ⟨_, rfl, L, _, rfl, .inl ⟨SqL.of eL, fun p' np' => ?_⟩⟩
      exact q _ p' (s2.trans (same_new np')) (s2.free np') upd_same
def sp_paid_and_gained (K : PySem.W.Frag) : Sp := fun vs H Q _ => ∃ (t s wv : Addr) (wa : List Addr) (m : Nat) (wants : List (List Int)) (b : Addr) (ps : List Int), vs = [.ref t, .ref b] ∧ Town K H t s wv wa m wants ∧ GoodTown m wants ∧ wants.length ≤ 100 ∧ SqT K H b (iv ps) ∧ ps.length = m ∧
  ∀ H', Same H H' → Q (.int (payL wants ps)) H'
theorem sc_paid_and_gained : FnScope ["town", "prices", "want"] ["town", "prices"] (defScope (top 27)) := ⟨rfl, rfl, rfl, by decide +kernel, rfl, by decide +kernel, by decide +kernel⟩
theorem ok_paid_and_gained (D : Defs K mg) (C_greatest_gain : Callee P w K mg base 2 "greatest_gain" ["want", "prices"] (sp_greatest_gain K)) : Callee P w K mg base 3 "paid_and_gained" ["town", "prices"] (sp_paid_and_gained K) := by
  obtain ⟨f_greatest_gain, fd_greatest_gain, g_greatest_gain, m_greatest_gain, k_greatest_gain, b_greatest_gain⟩ := C_greatest_gain.ex
  refine callee_mk D.f_paid_and_gained sc_paid_and_gained (fun _ _ _ _ _ _ us hl => match us, hl with | [_, _], _ => rfl) (fun vs H Q E h => ?_) (fun f cdv A outer s H vs Q E hr h => ?_)
  · obtain ⟨t, s, wv, wa, m, wants, b, ps, rfl, _⟩ := h; rfl
  · obtain ⟨t, s, wv, wa, m, wants, b, ps, rfl, ht, hg, hn, hb, hp, q⟩ := h
    refine ⟨_, (pss_one (ps_ret (pe_op op_add (pe_callB (cr_sum rfl) (by rfl) D.sum_ bt_sum (pa_cons (pe_lc (own := [("want", 2)]) (g := (gName 2)) (tt := tYes) rfl sc_paid_and_gained.nd (pi_tup (pe_ix (ix_tupK (K := K)) (pv 0) pe_int (fun _ _ => rfl))) (blkOk_by (own := [("want", 2)]) (N := ["town", "prices", "want"]) (sc := defScope (top 27)) (by decide +kernel)) (fun _ _ _ _ _ => (pg_name (i := 2) sc_paid_and_gained.nd rfl (.inl rfl))) (fun _ _ _ _ _ => pts_nil) (fun _ _ _ _ _ => (pe_call g_greatest_gain (hr.mono (by decide)) (by rfl) m_greatest_gain k_greatest_gain b_greatest_gain .nil pass0 (pa_cons (pv 2) (pa_cons (pv 1) pa_nil))))) pa_nil)) (pe_callB (cr_sumT rfl) (by rfl) D.sum_ bt_sum (pa_cons (pv 1) pa_nil))))), ?_⟩
    have hwl := ht.tabs.len
    have hrl : (wa.map V.ref).length = wants.length := by rw [List.length_map, hwl]
    refine ⟨_, rfl, t, _, _, _, rfl, rfl, ht.t, rfl, wv, rfl, ⟨_, ht.w⟩, fun L hL => ?_⟩
    refine lc_mp (walk_tup (K := K) (a := wv) (xs := wa.map V.ref)) (fun i => .int (ggain (wt wants i) m (pf ps))) hL (le_line (by rw [hrl]; omega)) (fun H' s => s.tup ht.w) (fun k x H3 H4 R hk s3 hy hR => ?_) (fun H3 s3 e3 => ?_)
    · obtain ⟨rfl, ey⟩ := hy
      obtain ⟨u, hu, rfl⟩ := ref_get ey
      exact ⟨rfl, _, rfl, _, rfl, u, b, wt wants k, ps, m, rfl, s3.tup (ht.tabs.at_ k u hu), s3.tup hb, (hg.tabs _ (K98.wt_mem (by omega))).len, hp, Nat.le_trans hg.m5 (by decide), fun H5 s5 => hR _ s5⟩
    · have e : (List.range (wa.map V.ref).length).map (fun i => V.int (ggain (wt wants i) m (pf ps))) = iv (wants.map fun tab => ggain tab m (pf ps)) := by
        rw [hrl]
        refine List.ext_getElem? fun i => ?_
        by_cases hi : i < wants.length
        · rw [List.getElem?_map, List.getElem?_range hi, List.getElem?_map, List.getElem?_map, List.getElem?_eq_getElem hi]
          have : wt wants i = wants[i] := by
            unfold K98.wt
            rw [List.getD_eq_getElem?_getD, List.getElem?_eq_getElem hi]; rfl
          show some (V.int (ggain (wt wants i) m (pf ps))) = _
          rw [this]
          rfl
        · rw [List.getElem?_eq_none (by simp; omega), List.getElem?_eq_none (by simp; omega)]
      rw [e] at e3
      refine ⟨L, _, rfl, SqL.of e3, _, rfl, b, ps, rfl, s3.tup hb, _, _, rfl, rfl, ?_⟩
      have eq : (wants.map fun tab => ggain tab m (pf ps)).sum + ps.sum = payL wants ps := by
        unfold K98.payL
        rw [hp]
      show Q (.int ((wants.map fun tab => ggain tab m (pf ps)).sum + ps.sum)) H3
      rw [eq]
      exact q _ s3
theorem ok_min {l : List Int} {m : Int} (hm : m ∈ l) (h : ∀ y, y ∈ l → m ≤ y) : decide (0 ≤ m) = okL l := by
  unfold K98.okL
  by_cases q : 0 ≤ m
  · rw [decide_eq_true q]
    exact (List.all_eq_true.mpr fun x hx => decide_eq_true (Int.le_trans q (h x hx))).symm
  · rw [decide_eq_false q]
    refine (Bool.eq_false_iff.mpr fun z => q ?_).symm
    exact of_decide_eq_true (List.all_eq_true.mp z m hm)
/-- what the name «least» holds -/
def leastV : Option Int → V
  | none => .non
  | some l => .int l
def sp_least_step (K : PySem.W.Frag) : Sp := fun vs H Q _ => ∃ (t s wv : Addr) (wa : List Addr) (m : Nat) (wants : List (List Int)) (b : Addr) (ps : List Int) (wy : Int), vs = [.ref t, .ref b, .int wy] ∧ Town K H t s wv wa m wants ∧ GoodTown m wants ∧ wants.length ≤ 100 ∧ SqT K H b (iv ps) ∧ ps.length = m ∧
  ∀ H', Same H H' → Q (.int (leastL wants ps wy : Nat)) H'
theorem sc_least_step : FnScope ["town", "prices", "way", "least", "found", "heap", "behind", "here"] ["town", "prices", "way"] (defScope (top 28)) := ⟨rfl, rfl, rfl, by decide +kernel, rfl, by decide +kernel, by decide +kernel⟩
theorem ok_least_step (D : Defs K mg) (C_stepped : Callee P w K mg base 2 "stepped" ["sides", "prices", "heap", "way"] (sp_stepped K)) (C_paid_and_gained : Callee P w K mg base 3 "paid_and_gained" ["town", "prices"] (sp_paid_and_gained K)) : Callee P w K mg base 4 "least_step" ["town", "prices", "way"] (sp_least_step K) := by
  obtain ⟨f_stepped, fd_stepped, g_stepped, m_stepped, k_stepped, b_stepped⟩ := C_stepped.ex
  obtain ⟨f_paid_and_gained, fd_paid_and_gained, g_paid_and_gained, m_paid_and_gained, k_paid_and_gained, b_paid_and_gained⟩ := C_paid_and_gained.ex
  refine callee_mk D.f_least_step sc_least_step (fun _ _ _ _ _ _ us hl => match us, hl with | [_, _, _], _ => rfl) (fun vs H Q E h => ?_) (fun f cdv A outer s H vs Q E hr h => ?_)
  · obtain ⟨t, s0, wv, wa, m, wants, b, ps, wy, rfl, _⟩ := h; rfl
  · obtain ⟨t, s0, wv, wa, m, wants, b, ps, wy, rfl, ht, hg, hn, hb, hp, q⟩ := h
    refine ⟨_, (pss_cons (ps_set (i := 3) sc_least_step.nd rfl (.inl rfl) pe_non) (pss_cons (ps_set (i := 4) sc_least_step.nd rfl (.inl rfl) pe_int) (pss_cons (ps_for PassesOwn.never rfl (pi_range1 (by rfl) D.range_ (pa_cons (pe_callB call_len_seq (by rfl) D.len_ bt_len (pa_cons (pe_ix (ix_tupK (K := K)) (pe_ix (ix_tupK (K := K)) (pv 0) pe_int (fun _ _ => rfl)) pe_int (fun _ _ => rfl)) pa_nil)) pa_nil)) (pg_name (i := 5) sc_least_step.nd rfl (.inl rfl)) (pss_cons (ps_set (i := 6) sc_least_step.nd rfl (.inl rfl) (pe_call g_stepped (hr.mono (by decide)) (by rfl) m_stepped k_stepped b_stepped .nil pass0 (pa_cons (pe_ix (ix_tupK (K := K)) (pv 0) pe_int (fun _ _ => rfl)) (pa_cons (pv 1) (pa_cons (pv 5) (pa_cons (pv 2) pa_nil)))))) (pss_one (ps_if (pt_cmpR op_ge (pe_callB (cr_minT rfl) (by rfl) D.min_ bt_min (pa_cons (pv 6) pa_nil)) pe_int (nomark _)) (pss_cons (ps_set (i := 7) sc_least_step.nd rfl (.inl rfl) (pe_call g_paid_and_gained (hr.mono (by decide)) (by rfl) m_paid_and_gained k_paid_and_gained b_paid_and_gained .nil pass0 (pa_cons (pv 0) (pa_cons (pv 6) pa_nil)))) (pss_one (ps_if (PW.pt (pw_or (pt_cmpR op_isN (pv 3) pe_non (nomark _)) (pw_or1 (pt_cmpR op_lt (pv 7) (pv 3) (nomark _))))) (pss_one (ps_par (i := 3) (j := 4) rfl sc_least_step.nd rfl rfl (by decide) rfl rfl (pa_cons (pv 7) (pa_cons (pv 5) pa_nil)) (by rfl))) (pss_one (ps_if (pt_cmpR op_eq (pv 7) (pv 3) (nomark _)) (pss_one (ps_set (i := 4) sc_least_step.nd rfl (.inl rfl) (pe_op op_and (pv 4) (pv 5)))) pss_nil))))) pss_nil)))) (pss_one (ps_ret (pv 4)))))), ?_⟩
    have hm := hg.m5
    have hm1 := hg.m1
    have hn1 := hg.n1
    have hl0 : (wt wants 0).length = 2 ^ m := (hg.tabs _ (K98.wt_mem hn1)).len
    have h64 : 2 ^ m ≤ 64 := Nat.le_trans (Nat.pow_le_pow_right (n := 2) (by decide) (show m ≤ 6 by omega)) (by decide)
    obtain ⟨u0, hu0⟩ : ∃ u, wa[0]? = some u := by
      rw [← ht.tabs.len] at hn1
      exact ⟨_, List.getElem?_eq_getElem hn1⟩
    have hw0 : (wa.map V.ref)[0]? = some (.ref u0) := by rw [List.getElem?_map, hu0]; rfl
    refine ⟨_, rfl, t, _, _, _, rfl, rfl, ht.t, rfl, wv, _, _, _, rfl, rfl, ht.w, at_nat (i := 0) rfl hw0, u0, _, rfl, .inr (ht.tabs.at_ 0 u0 hu0), _, rfl, by rw [iv_len]; omega, by rw [iv_len]; omega, ?_⟩
    rw [iv_len, Int.toNat_natCast, hl0]
    refine for_it (walk_range0 (n := 2 ^ m)) (fun i σ H' => ∃ c d e, σ = [some (.ref t), some (.ref b), some (.int wy), some (leastV (lst wants ps wy i).1), some (.int ((lst wants ps wy i).2 : Nat)), c, d, e] ∧ Same H H') ⟨_, _, _, rfl, Same.refl _⟩
      (fun _ _ _ _ _ => trivial) (fun i x σ H1 H2 hi p hy => ?_) (fun σ H1 p => ?_)
    · obtain ⟨c, d, e, rfl, s1⟩ := p
      obtain ⟨rfl, rfl⟩ := hy
      refine ⟨_, rfl, t, _, _, _, rfl, rfl, s1.tup ht.t, rfl, _, rfl, _, rfl, _, rfl, s0, b, ps, m, i, wy, rfl, s1.tup ht.s, s1.tup hb, hp, hm, hi, fun H3 p3 s3 np3 e3 => ?_⟩
      have s13 := s1.trans s3
      have hsl : (stepL ps i wy).length = m := by rw [K98.stepL_len, hp]
      refine ⟨_, rfl, p3, _, rfl, SqT.of e3, by rw [hsl]; omega, fun mn hmn hle => ?_⟩
      refine ⟨_, _, rfl, rfl, _, rfl, ?_⟩
      have eok := ok_min hmn hle
      have elst : lst wants ps wy (i + 1) = if okL (stepL ps i wy) then
        (match (lst wants ps wy i).1 with
        | none => (some (payL wants (stepL ps i wy)), i)
        | some l => if payL wants (stepL ps i wy) < l then (some (payL wants (stepL ps i wy)), i) else if payL wants (stepL ps i wy) = l then (some l, (lst wants ps wy i).2 &&& i) else lst wants ps wy i)
        else lst wants ps wy i := rfl
      have fin : ∀ (o : Option Int) (f1 : Nat), lst wants ps wy (i + 1) = (o, f1) → ∀ (c d e : Option V) (H' : Hp), Same H H' →
          ∃ c' d' e', [some (.ref t), some (.ref b), some (.int wy), some (leastV o), some (.int (f1 : Nat)), c, d, e] = [some (.ref t), some (.ref b), some (.int wy), some (leastV (lst wants ps wy (i + 1)).1), some (.int ((lst wants ps wy (i + 1)).2 : Nat)), c', d', e'] ∧ Same H H' :=
        fun o f1 h c d e H' s => ⟨c, d, e, by rw [h], s⟩
      rcases hr1 : lst wants ps wy i with ⟨o, f0⟩
      rw [hr1] at elst
      refine ite2 (fun hc => ?_) (fun hc => ?_)
      · have ok : okL (stepL ps i wy) = true := eok.symm.trans hc
        rw [ok, if_pos rfl] at elst
        refine ⟨_, rfl, _, rfl, t, s0, wv, wa, m, wants, p3, stepL ps i wy, rfl, ht.same s13, hg, hn, SqT.of e3, hsl, fun H4 s4 => ?_⟩
        have s14 := s13.trans s4
        cases o with
        | none =>
          refine ⟨_, rfl, rfl, _, rfl, iteT (iteT ?_)⟩
          refine ⟨_, rfl, _, rfl, _, _, rfl, ?_⟩
          exact fin (some (payL wants (stepL ps i wy))) i elst _ _ _ _ s14
        | some l =>
          refine ⟨_, rfl, rfl, _, rfl, iteF ?_⟩
          refine ⟨_, rfl, _, rfl, _, _, rfl, rfl, _, rfl, ?_⟩
          refine ite2 (fun hlt => ?_) (fun hlt => ?_)
          · have hlt' : payL wants (stepL ps i wy) < l := of_decide_eq_true hlt
            refine ⟨_, rfl, _, rfl, _, _, rfl, ?_⟩
            exact fin (some (payL wants (stepL ps i wy))) i (elst.trans (if_pos hlt')) _ _ _ _ s14
          · have hlt' : ¬ payL wants (stepL ps i wy) < l := fun z => hlt (decide_eq_true z)
            refine ⟨_, rfl, _, rfl, rfl, _, rfl, ?_⟩
            refine ite2 (fun heq => ?_) (fun heq => ?_)
            · have heq' : payL wants (stepL ps i wy) = l := V.int.inj (of_decide_eq_true heq)
              refine ⟨_, rfl, _, rfl, _, _, rfl, rfl, ?_⟩
              have := fin (some l) (f0 &&& i) (elst.trans ((if_neg hlt').trans (if_pos heq'))) (some (.int (i : Nat))) (some (.ref p3)) (some (.int (payL wants (stepL ps i wy)))) _ s14
              rw [← band_eq] at this
              exact this
            · have heq' : ¬ payL wants (stepL ps i wy) = l := fun z => heq (decide_eq_true (congrArg V.int z))
              exact fin (some l) f0 (elst.trans ((if_neg hlt').trans (if_neg heq'))) _ _ _ _ s14
      · have ok : okL (stepL ps i wy) = false := Bool.eq_false_iff.mpr fun z => hc (eok.trans z)
        rw [ok, if_neg Bool.false_ne_true] at elst
        exact fin o f0 elst _ _ _ _ s13
    · obtain ⟨c, d, e, rfl, s1⟩ := p
      refine ⟨_, rfl, ?_⟩
      have e1 : leastL wants ps wy = (lst wants ps wy (2 ^ m)).2 := by unfold K98.leastL; rw [hp]
      rw [← e1]
      exact q _ s1
end
end K98W
set_option Elab.async false
set_option linter.all false
set_option maxRecDepth 100000
set_option maxHeartbeats 4000000
/-! K98 walk E: steps to their end, from the first prices. -/
namespace K98W
open PySem PySem.Spec PyProof.Rows L2 K98R
open K98 (tabAt GoodTab GoodTown wt pf payL stepL leastL lowL highL topL)

/-- steps that stay within I, whose gap falls, that end at one place -/
structure Goes (m : Nat) (wants : List (List Int)) (wy : Int) (I : List Int → Prop) (mu : List Int → Int) (target : List Int) : Prop where
  len : ∀ ps, I ps → ps.length = m
  bd : ∀ ps, I ps → 0 ≤ mu ps ∧ mu ps ≤ 400
  lt : ∀ ps, I ps → leastL wants ps wy < 2 ^ m
  on : ∀ ps, I ps → leastL wants ps wy ≠ 0 → I (stepL ps (leastL wants ps wy) wy) ∧ mu (stepL ps (leastL wants ps wy) wy) < mu ps
  fin : ∀ ps, I ps → leastL wants ps wy = 0 → ps = target

section
variable {P : Program} {w : World} {K : PySem.W.Frag} {mg : Str → Option Value} {base : Heap}
def sp_kind_checked (K : PySem.W.Frag) : Sp := fun vs H Q _ => ∃ (t s wv : Addr) (wa : List Addr) (m : Nat) (wants : List (List Int)), vs = [.ref t] ∧ Town K H t s wv wa m wants ∧ GoodTown m wants ∧ ∀ H', Same H H' → Q .non H'
theorem sc_kind_checked : FnScope ["town", "hand"] ["town"] (defScope (top 29)) := ⟨rfl, rfl, rfl, by decide +kernel, rfl, by decide +kernel, by decide +kernel⟩
theorem ok_kind_checked (D : Defs K mg) (C_first_strange : Callee P w K mg base 4 "first_strange" ["town"] (sp_first_strange K)) : Callee P w K mg base 5 "kind_checked" ["town"] (sp_kind_checked K) := by
  obtain ⟨f_first_strange, fd_first_strange, g_first_strange, m_first_strange, k_first_strange, b_first_strange⟩ := C_first_strange.ex
  refine callee_mk D.f_kind_checked sc_kind_checked (fun _ _ _ _ _ _ us hl => match us, hl with | [_], _ => rfl) (fun vs H Q E h => ?_) (fun f cdv A outer s H vs Q E hr h => ?_)
  · obtain ⟨t, s, wv, wa, m, wants, rfl, _⟩ := h; rfl
  · obtain ⟨t, s, wv, wa, m, wants, rfl, ht, hg, q⟩ := h
    refine ⟨_, (pss_cons (ps_set (i := 1) sc_kind_checked.nd rfl (.inl rfl) (pe_call g_first_strange (hr.mono (by decide)) (by rfl) m_first_strange k_first_strange b_first_strange .nil pass0 (pa_cons (pv 0) pa_nil))) (pss_one (ps_if (pt_cmpR op_notN (pv 1) pe_non (nomark _)) pss_never pss_nil))), ?_⟩
    refine ⟨_, rfl, t, s, wv, wa, m, wants, rfl, ht, hg, fun H1 s1 => ?_⟩
    exact ⟨_, rfl, rfl, _, rfl, iteF (q _ s1)⟩
def sp_steps_by (K : PySem.W.Frag) : Sp := fun vs H Q _ => ∃ (t s wv : Addr) (wa : List Addr) (m : Nat) (wants : List (List Int)) (wy : Int) (I : List Int → Prop) (mu : List Int → Int) (target : List Int), vs = [.ref t, .int wy] ∧ Town K H t s wv wa m wants ∧ GoodTown m wants ∧ wants.length ≤ 100 ∧
  Goes m wants wy I mu target ∧ I (firstL m wants wy) ∧ ∀ H' p r pr, Same H H' → SqT K H' p [.ref r, .ref pr] → SqT K H' pr (iv target) → Q (.ref p) H'
theorem sc_steps_by : FnScope ["town", "way", "prices", "row", "heap"] ["town", "way"] (defScope (top 30)) := ⟨rfl, rfl, rfl, by decide +kernel, rfl, by decide +kernel, by decide +kernel⟩
theorem ok_steps_by (D : Defs K mg) (C_first_prices : Callee P w K mg base 2 "first_prices" ["town", "way"] (sp_first_prices K)) (C_stepped : Callee P w K mg base 2 "stepped" ["sides", "prices", "heap", "way"] (sp_stepped K)) (C_least_step : Callee P w K mg base 4 "least_step" ["town", "prices", "way"] (sp_least_step K)) (C_kind_checked : Callee P w K mg base 5 "kind_checked" ["town"] (sp_kind_checked K)) : Callee P w K mg base 6 "steps_by" ["town", "way"] (sp_steps_by K) := by
  obtain ⟨f_first_prices, fd_first_prices, g_first_prices, m_first_prices, k_first_prices, b_first_prices⟩ := C_first_prices.ex
  obtain ⟨f_stepped, fd_stepped, g_stepped, m_stepped, k_stepped, b_stepped⟩ := C_stepped.ex
  obtain ⟨f_least_step, fd_least_step, g_least_step, m_least_step, k_least_step, b_least_step⟩ := C_least_step.ex
  obtain ⟨f_kind_checked, fd_kind_checked, g_kind_checked, m_kind_checked, k_kind_checked, b_kind_checked⟩ := C_kind_checked.ex
  refine callee_mk D.f_steps_by sc_steps_by (fun _ _ _ _ _ _ us hl => match us, hl with | [_, _], _ => rfl) (fun vs H Q E h => ?_) (fun f cdv A outer s H vs Q E hr h => ?_)
  · obtain ⟨t, s0, wv, wa, m, wants, wy, I, mu, target, rfl, _⟩ := h; rfl
  · obtain ⟨t, s0, wv, wa, m, wants, wy, I, mu, target, rfl, ht, hg, hn, go, i0, q⟩ := h
    refine ⟨_, (pss_cons (ps_expr (pe_call g_kind_checked (hr.mono (by decide)) (by rfl) m_kind_checked k_kind_checked b_kind_checked .nil pass0 (pa_cons (pv 0) pa_nil))) (pss_cons (ps_set (i := 2) sc_steps_by.nd rfl (.inl rfl) (pe_call g_first_prices (hr.mono (by decide)) (by rfl) m_first_prices k_first_prices b_first_prices .nil pass0 (pa_cons (pv 0) (pa_cons (pv 1) pa_nil)))) (pss_cons (ps_set (i := 3) sc_steps_by.nd rfl (.inl rfl) (pe_lst pa_nil)) (pss_cons (ps_set (i := 4) sc_steps_by.nd rfl (.inl rfl) (pe_call g_least_step (hr.mono (by decide)) (by rfl) m_least_step k_least_step b_least_step .nil pass0 (pa_cons (pv 0) (pa_cons (pv 2) (pa_cons (pv 1) pa_nil))))) (pss_cons (ps_while PassesOwn.never (pt_cmpR op_ne (pv 4) pe_int (nomark _)) (pss_cons (ps_expr (pe_bm PySem.F.plainAttrs_list PySem.F.slot_list_append PySem.F.type_list_append mt_append (pv 3) (pa_cons (pv 4) pa_nil))) (pss_cons (ps_set (i := 2) sc_steps_by.nd rfl (.inl rfl) (pe_call g_stepped (hr.mono (by decide)) (by rfl) m_stepped k_stepped b_stepped .nil pass0 (pa_cons (pe_ix (ix_tupK (K := K)) (pv 0) pe_int (fun _ _ => rfl)) (pa_cons (pv 2) (pa_cons (pv 4) (pa_cons (pv 1) pa_nil)))))) (pss_one (ps_set (i := 4) sc_steps_by.nd rfl (.inl rfl) (pe_call g_least_step (hr.mono (by decide)) (by rfl) m_least_step k_least_step b_least_step .nil pass0 (pa_cons (pv 0) (pa_cons (pv 2) (pa_cons (pv 1) pa_nil))))))))) (pss_one (ps_ret (pe_tup (pa_cons (pe_callTy call_tuple_of (by rfl) D.tuple_ bt_tuple (pa_cons (pv 3) pa_nil)) (pa_cons (pv 2) pa_nil)))))))))), ?_⟩
    refine ⟨_, rfl, t, s0, wv, wa, m, wants, rfl, ht, hg, fun H1 s1 => ?_⟩
    refine ⟨_, rfl, _, rfl, t, s0, wv, wa, m, wants, wy, rfl, ht.same s1, hg, hn, fun H2 b s2 nb e2 => ?_⟩
    have s12 := s1.trans s2
    refine ⟨Nat.zero_le _, fun L hL => ?_⟩
    have s3 : Same H2 (upd H2 L (.lst [])) := same_new hL
    have hLH : H L = none := s12.free hL
    refine ⟨_, rfl, _, rfl, _, rfl, t, s0, wv, wa, m, wants, b, firstL m wants wy, wy, rfl, ht.same (s12.trans s3), hg, hn, s3.tup (SqT.of e2), go.len _ i0, fun H4 s4 => ?_⟩
    refine ⟨fun k σ H' => ∃ (b : Addr) (ps : List Int) (xs : List V), σ = [some (.ref t), some (.int wy), some (.ref b), some (.ref L), some (.int (leastL wants ps wy : Nat))] ∧ Same H H' ∧ SqT K H' b (iv ps) ∧ I ps ∧ H' L = some (.lst xs) ∧ (xs.length : Int) + mu ps ≤ 400 ∧ (k : Int) = mu ps,
      ⟨(mu (firstL m wants wy)).toNat, b, firstL m wants wy, [], rfl, (s12.trans s3).trans s4, (s3.trans s4).tup (SqT.of e2), i0, s4 _ _ upd_same, ?_, ?_⟩, fun k σ H5 hW => ?_⟩
    · have := go.bd _ i0
      show ((0 : Nat) : Int) + _ ≤ 400
      omega
    · have := go.bd _ i0
      omega
    · obtain ⟨b, ps, xs, rfl, s5, eb, ip, eL, hb, hk⟩ := hW
      have hbd := go.bd _ ip
      refine ⟨_, rfl, rfl, _, rfl, ?_⟩
      refine ite2 (fun hc => ?_) (fun hc => ?_)
      · have hne : leastL wants ps wy ≠ 0 := fun z => by
          rw [z] at hc
          exact absurd hc (by decide)
        obtain ⟨ip', hmu⟩ := go.on _ ip hne
        have hbd' := go.bd _ ip'
        refine ⟨fun σ' H' => ∃ k', k' < k ∧ ∃ (b : Addr) (ps : List Int) (xs : List V), σ' = [some (.ref t), some (.int wy), some (.ref b), some (.ref L), some (.int (leastL wants ps wy : Nat))] ∧ Same H H' ∧ SqT K H' b (iv ps) ∧ I ps ∧ H' L = some (.lst xs) ∧ (xs.length : Int) + mu ps ≤ 400 ∧ (k' : Int) = mu ps, fun σ' H' h => h, ?_⟩
        refine ⟨_, rfl, .inl ⟨rfl, _, SqL.of eL⟩, _, rfl, L, _, _, rfl, rfl, eL, small_line (by omega), ?_⟩
        have s6 : Same H (upd H5 L (.lst (xs ++ [.int (leastL wants ps wy : Nat)]))) := s5.put hLH
        have eb6 : SqT K (upd H5 L (.lst (xs ++ [.int (leastL wants ps wy : Nat)]))) b (iv ps) := by
          rcases eb with (z | ⟨o, z⟩) | z
          · exact .inl (.inl (by rw [upd_ne (ne_of z eL (by intro q; cases q))]; exact z))
          · exact .inl (.inr ⟨o, by rw [upd_ne (ne_of z eL (by intro q; cases q))]; exact z⟩)
          · exact .inr z
        refine ⟨_, rfl, t, _, _, _, rfl, rfl, s6.tup ht.t, rfl, _, rfl, _, rfl, _, rfl, s0, b, ps, m, _, wy, rfl, s6.tup ht.s, eb6, go.len _ ip, hg.m5, go.lt _ ip, fun H7 p7 s7 np7 e7 => ?_⟩
        refine ⟨_, rfl, _, rfl, _, rfl, t, s0, wv, wa, m, wants, p7, _, wy, rfl, ht.same (s6.trans s7), hg, hn, SqT.of e7, go.len _ ip', fun H8 s8 => ?_⟩
        refine ⟨(mu (stepL ps (leastL wants ps wy) wy)).toNat, by omega, p7, _, _, rfl, (s6.trans s7).trans s8, s8.tup (SqT.of e7), ip', (s7.trans s8) _ _ upd_same, ?_, by omega⟩
        rw [List.length_append, List.length_singleton]
        omega
      · have hz : leastL wants ps wy = 0 := by
          by_cases z : leastL wants ps wy = 0
          · exact z
          · exfalso
            refine hc ?_
            have : ¬ V.int (leastL wants ps wy : Nat) = V.int 0 := fun y => z (by have := V.int.inj y; omega)
            show (!decide (V.int (leastL wants ps wy : Nat) = V.int 0)) = true
            rw [decide_eq_false this]; rfl
        have ept := go.fin _ ip hz
        subst ept
        refine ⟨_, rfl, L, _, rfl, .inl ⟨SqL.of eL, fun r nr => ?_⟩⟩
        refine ⟨_, rfl, by show 2 ≤ sizeLine; decide, fun p np => ?_⟩
        have s9 := (s5.trans (same_new (o := HO.tup xs) nr)).trans (same_new (o := HO.tup [.ref r, .ref b]) np)
        exact q _ p r b s9 SqT.new (((same_new (o := HO.tup xs) nr).trans (same_new (o := HO.tup [.ref r, .ref b]) np)).tup eb)

/-! ### rising, falling -/
theorem goes_rise {m : Nat} {wants : List (List Int)} (g : GoodTown m wants) : Goes m wants 1 (K98.Under m wants) (fun ps => K98.gap m (pf ps) (pf (lowL m wants))) (lowL m wants) where
  len := fun ps u => u.len
  bd := fun ps u => K98.gap_under g u
  lt := fun ps u => by
    obtain ⟨a, c, k, R, _⟩ := g.reps
    exact (K98.leastL_step u.len rfl R g.gains (.inl rfl) u.n0).2
  on := fun ps u h => K98.rise_on g u h
  fin := fun ps u h => K98.rise_ends g u h
theorem goes_fall {m : Nat} {wants : List (List Int)} (g : GoodTown m wants) : Goes m wants (-1) (fun ps => K98.Over m wants ps ∧ ∀ t, t < m → pf ps t ≤ 80) (fun ps => K98.gap m (pf (highL m wants)) (pf ps)) (highL m wants) where
  len := fun ps u => u.1.len
  bd := fun ps u => K98.gap_over g u.1 u.2
  lt := fun ps u => by
    obtain ⟨a, c, k, R, _⟩ := g.reps
    exact (K98.leastL_step u.1.len rfl R g.gains (.inr rfl) fun t ht => Int.le_trans (K98.high_nonneg g ht) (u.1.ge t ht)).2
  on := fun ps u h => by
    obtain ⟨h1, h2⟩ := K98.fall_on g u.1 h
    refine ⟨⟨h1, fun t ht => ?_⟩, h2⟩
    have := u.2 t ht
    rw [K98.stepL_at (by rw [u.1.len]; exact ht)]
    unfold K98.mv
    split <;> omega
  fin := fun ps u h => K98.fall_ends g u.1 h
def sp_rising (K : PySem.W.Frag) : Sp := fun vs H Q _ => ∃ (t s wv : Addr) (wa : List Addr) (m : Nat) (wants : List (List Int)), vs = [.ref t] ∧ Town K H t s wv wa m wants ∧ GoodTown m wants ∧ wants.length ≤ 100 ∧
  ∀ H' p r pr, Same H H' → SqT K H' p [.ref r, .ref pr] → SqT K H' pr (iv (lowL m wants)) → Q (.ref p) H'
theorem sc_rising : FnScope ["town"] ["town"] (defScope (top 31)) := ⟨rfl, rfl, rfl, by decide +kernel, rfl, by decide +kernel, by decide +kernel⟩
theorem ok_rising (D : Defs K mg) (C_steps_by : Callee P w K mg base 6 "steps_by" ["town", "way"] (sp_steps_by K)) : Callee P w K mg base 7 "rising" ["town"] (sp_rising K) := by
  obtain ⟨f_steps_by, fd_steps_by, g_steps_by, m_steps_by, k_steps_by, b_steps_by⟩ := C_steps_by.ex
  obtain ⟨tB, mBELOW⟩ := D.BELOW_
  refine callee_mk D.f_rising sc_rising (fun _ _ _ _ _ _ us hl => match us, hl with | [_], _ => rfl) (fun vs H Q E h => ?_) (fun f cdv A outer s H vs Q E hr h => ?_)
  · obtain ⟨t, s, wv, wa, m, wants, rfl, _⟩ := h; rfl
  · obtain ⟨t, s, wv, wa, m, wants, rfl, ht, hg, hn, q⟩ := h
    refine ⟨_, (pss_one (ps_ret (pe_call g_steps_by (hr.mono (by decide)) (by rfl) m_steps_by k_steps_by b_steps_by .nil pass0 (pa_cons (pv 0) (pa_cons (pe_glob (v := .int 1) (by rfl) mBELOW ⟨_, rfl⟩) pa_nil))))), ?_⟩
    refine ⟨_, rfl, t, s, wv, wa, m, wants, 1, _, _, _, rfl, ht, hg, hn, goes_rise hg, K98.under_first hg, q⟩
def sp_falling (K : PySem.W.Frag) : Sp := fun vs H Q _ => ∃ (t s wv : Addr) (wa : List Addr) (m : Nat) (wants : List (List Int)), vs = [.ref t] ∧ Town K H t s wv wa m wants ∧ GoodTown m wants ∧ wants.length ≤ 100 ∧
  ∀ H' p r pr, Same H H' → SqT K H' p [.ref r, .ref pr] → SqT K H' pr (iv (highL m wants)) → Q (.ref p) H'
theorem sc_falling : FnScope ["town"] ["town"] (defScope (top 32)) := ⟨rfl, rfl, rfl, by decide +kernel, rfl, by decide +kernel, by decide +kernel⟩
theorem ok_falling (D : Defs K mg) (C_steps_by : Callee P w K mg base 6 "steps_by" ["town", "way"] (sp_steps_by K)) : Callee P w K mg base 7 "falling" ["town"] (sp_falling K) := by
  obtain ⟨f_steps_by, fd_steps_by, g_steps_by, m_steps_by, k_steps_by, b_steps_by⟩ := C_steps_by.ex
  obtain ⟨tA, mABOVE⟩ := D.ABOVE_
  refine callee_mk D.f_falling sc_falling (fun _ _ _ _ _ _ us hl => match us, hl with | [_], _ => rfl) (fun vs H Q E h => ?_) (fun f cdv A outer s H vs Q E hr h => ?_)
  · obtain ⟨t, s, wv, wa, m, wants, rfl, _⟩ := h; rfl
  · obtain ⟨t, s, wv, wa, m, wants, rfl, ht, hg, hn, q⟩ := h
    refine ⟨_, (pss_one (ps_ret (pe_call g_steps_by (hr.mono (by decide)) (by rfl) m_steps_by k_steps_by b_steps_by .nil pass0 (pa_cons (pv 0) (pa_cons (pe_glob (v := .int (-1)) (by rfl) mABOVE ⟨_, rfl⟩) pa_nil))))), ?_⟩
    refine ⟨_, rfl, t, s, wv, wa, m, wants, -1, _, _, _, rfl, ht, hg, hn, goes_fall hg, ⟨K98.over_first hg, fun t ht => ?_⟩, q⟩
    show pf (List.replicate m (topL wants)) t ≤ 80
    rw [K98.pf_replicate ht]
    exact K98.top_le hg
end
end K98W
set_option Elab.async false
set_option linter.all false
set_option maxRecDepth 100000
set_option maxHeartbeats 4000000
/-! K98 walk F: the greatest sums. -/
namespace K98W
open PySem PySem.Spec PyProof.Rows L2 K98R
open K98 (tabAt GoodTab GoodTown wt hwL hwAux sbh sbStep greatL greatOf doubledL twoL maxL lastL)

theorem hwAux_zero (n h : Nat) : hwAux n 0 h = [] := by
  cases n <;> rfl
theorem hwAux_succ {n p h : Nat} (hp : 0 < p) : hwAux (n + 1) p h = p :: hwAux n ((p - 1) &&& h) h := by
  show (if p = 0 then [] else _) = _
  rw [if_neg (by omega)]
theorem nv_app (a b : List Nat) : nv a ++ nv b = nv (a ++ b) := List.map_append.symm
theorem hw_len (h : Nat) : (hwL h).length ≤ 65 := by
  have : ∀ n p, (hwAux n p h).length ≤ n := by
    intro n
    induction n with
    | zero => intro p; exact Nat.le_refl _
    | succ n ih =>
      intro p
      show (if p = 0 then [] else p :: hwAux n ((p - 1) &&& h) h).length ≤ n + 1
      split
      · exact Nat.zero_le _
      · exact Nat.succ_le_succ (ih _)
  have := this 64 h
  show (hwAux 64 h h).length + 1 ≤ 65
  omega
theorem range_map_nat (l : List Nat) (g : Nat → Int) : (List.range l.length).map (fun i => V.int (g (l.getD i 0))) = iv (l.map g) := by
  refine List.ext_getElem? fun i => ?_
  by_cases h : i < l.length
  · rw [List.getElem?_map, List.getElem?_range h, List.getElem?_map, List.getElem?_map, List.getElem?_eq_getElem h]
    show some (V.int (g (l.getD i 0))) = _
    rw [List.getD_eq_getElem?_getD, List.getElem?_eq_getElem h]; rfl
  · rw [List.getElem?_eq_none (by simp; omega), List.getElem?_eq_none (by simp; omega)]

theorem shl_bd (m : Nat) (h : m ≤ 6) : -(2 ^ 63) ≤ (1 : Int) * 2 ^ ((m : Int)).toNat ∧ (1 : Int) * 2 ^ ((m : Int)).toNat < 2 ^ 63 ∧ -(2 ^ 62) ≤ (1 : Int) * 2 ^ ((m : Int)).toNat ∧ (1 : Int) * 2 ^ ((m : Int)).toNat < 2 ^ 62 := by
  have eshl : (1 : Int) * 2 ^ ((m : Int)).toNat = ((2 ^ m : Nat) : Int) := shl_eq m
  have h64 : 2 ^ m ≤ 64 := Nat.le_trans (Nat.pow_le_pow_right (n := 2) (by decide) h) (by decide)
  rw [eshl]
  generalize 2 ^ m = x at h64
  omega
theorem walk_shl (m : Nat) : Walk (Itr 0 ((1 : Int) * 2 ^ ((m : Int)).toNat).toNat) (2 ^ m) (fun _ => True) (fun i H x H' => H' = H ∧ x = .int ((i : Nat) : Int)) := by
  have eshl : (1 : Int) * 2 ^ ((m : Int)).toNat = ((2 ^ m : Nat) : Int) := shl_eq m
  rw [eshl, Int.toNat_natCast]
  exact walk_range0
/-- a comprehension without a test, with what holds at each turn -/
theorem lc_rel {J : It} {n : Nat} {G : Hp → Prop} {Y : Nat → Hp → V → Hp → Prop} (w : Walk J n G Y) {g : TG} {te : TE} {vs : List Nat} {σ : L2.St} {H1 : Hp} {D : Addr} {Qd : Hp → Prop} (Pv : Nat → Hp → Prop)
    (h0 : Pv 0 (upd H1 D (.lst [])))
    (hG : ∀ i H, i ≤ n → Pv i H → G H)
    (turn : ∀ i x H H', i < n → Pv i H → Y i H x H' → g x (wipe σ vs) H' fun σ2 H2 => wipe σ2 vs = wipe σ vs ∧ te σ2 H2 fun y H4 => ∃ acc, H4 D = some (.lst acc) ∧ acc.length < sizeLine ∧ Pv (i + 1) (upd H4 D (.lst (acc ++ [y]))))
    (done : ∀ H, Pv n H → Qd H) :
    ∃ W : Nat → Nat → Hp → Prop, (∃ m, W 0 m (upd H1 D (.lst []))) ∧ ∀ i m H, W i m H →
      (J.stop i H ∧ Qd H) ∨ (J.go i H ∧ ∃ Nx : Hp → Prop, (∀ H', Nx H' → ∃ m', m' < m ∧ W (i + 1) m' H') ∧ ∀ x H', J.yld i H x H' → g x (wipe σ vs) H' fun σ2 H2 => wipe σ2 vs = wipe σ vs ∧ tYes σ2 H2 fun b H3 =>
        if b = true then te σ2 H3 fun y H4 => ∃ acc, H4 D = some (.lst acc) ∧ acc.length < sizeLine ∧ Nx (upd H4 D (.lst (acc ++ [y]))) else Nx H3) := by
  refine lc_it w Pv h0 hG (fun i x H H' hi p hy => ?_) done
  have := turn i x H H' hi p hy
  simp only [tYes, eq_self, if_true]
  exact this

section
variable {P : Program} {w : World} {K : PySem.W.Frag} {mg : Str → Option Value} {base : Heap}
def sp_heaps_within (K : PySem.W.Frag) : Sp := fun vs H Q _ => ∃ h : Nat, vs = [.int h] ∧ h < 64 ∧ ∀ H' p, Same H H' → H p = none → H' p = some (.lst (nv (hwL h))) → Q (.ref p) H'
theorem sc_heaps_within : FnScope ["heap", "found", "part"] ["heap"] (defScope (top 34)) := ⟨rfl, rfl, rfl, by decide +kernel, rfl, by decide +kernel, by decide +kernel⟩
theorem ok_heaps_within (D : Defs K mg) : Callee P w K mg base 1 "heaps_within" ["heap"] (sp_heaps_within K) := by
  refine callee_mk D.f_heaps_within sc_heaps_within (fun _ _ _ _ _ _ us hl => match us, hl with | [_], _ => rfl) (fun vs H Q E h => ?_) (fun f cdv A outer s H vs Q E hr h => ?_)
  · obtain ⟨h0, rfl, _⟩ := h; rfl
  · obtain ⟨h0, rfl, hlt, q⟩ := h
    refine ⟨_, (pss_cons (ps_set (i := 1) sc_heaps_within.nd rfl (.inl rfl) (pe_lst (pa_cons pe_int pa_nil))) (pss_cons (ps_set (i := 2) sc_heaps_within.nd rfl (.inl rfl) (pv 0)) (pss_cons (ps_while PassesOwn.never (pt_cmpR op_gt (pv 2) pe_int (nomark _)) (pss_cons (ps_expr (pe_bm PySem.F.plainAttrs_list PySem.F.slot_list_append PySem.F.type_list_append mt_append (pv 1) (pa_cons (pv 2) pa_nil))) (pss_one (ps_set (i := 2) sc_heaps_within.nd rfl (.inl rfl) (pe_op op_and (pe_op op_sub (pv 2) pe_int) (pv 0)))))) (pss_one (ps_ret (pv 1)))))), ?_⟩
    refine ⟨by show 1 ≤ sizeLine; decide, fun L hL => ?_⟩
    refine ⟨_, rfl, ?_⟩
    refine ⟨fun k σ H' => ∃ (n p : Nat) (xs : List Nat), σ = [some (.int h0), some (.ref L), some (.int (p : Nat))] ∧ Same H H' ∧ H' L = some (.lst (nv xs)) ∧ xs ++ hwAux n p h0 = hwL h0 ∧ p ≤ n ∧ xs.length + n = 65 ∧ k = p,
      ⟨h0, 64, h0, [0], rfl, same_new hL, upd_same, rfl, by omega, rfl, rfl⟩, fun k σ H1 hW => ?_⟩
    obtain ⟨n, p, xs, rfl, s1, eL, ex, hpn, hlen, rfl⟩ := hW
    refine ⟨_, rfl, _, _, rfl, rfl, _, rfl, ?_⟩
    refine ite2 (fun hc => ?_) (fun hc => ?_)
    · have hp : 0 < k := Int.natCast_pos.mp (of_decide_eq_true hc)
      obtain ⟨n', rfl⟩ : ∃ n', n = n' + 1 := ⟨n - 1, by omega⟩
      rw [hwAux_succ hp] at ex
      refine ⟨fun σ' H' => ∃ k', k' < k ∧ ∃ (n p : Nat) (xs : List Nat), σ' = [some (.int h0), some (.ref L), some (.int (p : Nat))] ∧ Same H H' ∧ H' L = some (.lst (nv xs)) ∧ xs ++ hwAux n p h0 = hwL h0 ∧ p ≤ n ∧ xs.length + n = 65 ∧ k' = p, fun σ' H' h => h, ?_⟩
      refine ⟨_, rfl, .inl ⟨rfl, _, SqL.of eL⟩, _, rfl, L, _, _, rfl, rfl, eL, small_line (by rw [nv_len]; omega), ?_⟩
      refine ⟨_, rfl, _, _, rfl, rfl, _, rfl, _, _, rfl, rfl, ?_⟩
      have e1 : Builtin.bitAnd ((k : Int) - 1) (h0 : Int) = (((k - 1) &&& h0 : Nat) : Int) := by
        rw [← band_eq]
        congr 1
        omega
      have hle : (k - 1) &&& h0 ≤ k - 1 := Nat.and_le_left
      refine ⟨(k - 1) &&& h0, by omega, n', (k - 1) &&& h0, xs ++ [k], ?_, s1.put hL, ?_, ?_, by omega, ?_, rfl⟩
      · rw [← e1]; rfl
      · rw [upd_same, ← nv_app]; rfl
      · rw [List.append_assoc]; exact ex
      · rw [List.length_append, List.length_singleton]; omega
    · have hp : k = 0 := by
        by_cases z : k = 0
        · exact z
        · exact absurd (decide_eq_true (Int.natCast_pos.mpr (Nat.pos_of_ne_zero z))) hc
      subst hp
      rw [hwAux_zero, List.append_nil] at ex
      rw [ex] at eL
      exact ⟨_, rfl, q _ L s1 hL eL⟩

/-- tables, each a list or a tuple -/
structure AnyTabs (K : PySem.W.Frag) (H : Hp) (wa : List Addr) (wants : List (List Int)) (m : Nat) : Prop where
  len : wa.length = wants.length
  at_ : ∀ i b, wa[i]? = some b → SqL K H b (iv (wt wants i)) ∨ SqT K H b (iv (wt wants i))
  sz : ∀ i, i < wants.length → (wt wants i).length = 2 ^ m
theorem AnyTabs.same {H H' : Hp} {wa : List Addr} {wants : List (List Int)} {m : Nat} (h : AnyTabs K H wa wants m) (s : Same H H') : AnyTabs K H' wa wants m :=
  ⟨h.len, fun i b e => (h.at_ i b e).elim (fun z => .inl (s.seq z)) (fun z => .inr (s.tup z)), h.sz⟩
def sp_sums_by_heap (K : PySem.W.Frag) : Sp := fun vs H Q _ => ∃ (wv : Addr) (wa : List Addr) (wants : List (List Int)) (m : Nat), vs = [.ref wv, .int m] ∧ (SqL K H wv (wa.map V.ref) ∨ SqT K H wv (wa.map V.ref)) ∧ AnyTabs K H wa wants m ∧ m ≤ 6 ∧
  ∀ H' p, Same H H' → H p = none → H' p = some (.lst (iv (sbh wants m))) → Q (.ref p) H'
theorem sc_sums_by_heap : FnScope ["wants", "many", "found", "want", "heap", "part"] ["wants", "many"] (defScope (top 35)) := ⟨rfl, rfl, rfl, by decide +kernel, rfl, by decide +kernel, by decide +kernel⟩
theorem ok_sums_by_heap (D : Defs K mg) (C_heaps_within : Callee P w K mg base 1 "heaps_within" ["heap"] (sp_heaps_within K)) : Callee P w K mg base 2 "sums_by_heap" ["wants", "many"] (sp_sums_by_heap K) := by
  obtain ⟨f_heaps_within, fd_heaps_within, g_heaps_within, m_heaps_within, k_heaps_within, b_heaps_within⟩ := C_heaps_within.ex
  refine callee_mk D.f_sums_by_heap sc_sums_by_heap (fun _ _ _ _ _ _ us hl => match us, hl with | [_, _], _ => rfl) (fun vs H Q E h => ?_) (fun f cdv A outer s H vs Q E hr h => ?_)
  · obtain ⟨wv, wa, wants, m, rfl, _⟩ := h; rfl
  · obtain ⟨wv, wa, wants, m, rfl, hw, ht, hm, q⟩ := h
    refine ⟨_, (pss_cons (ps_set (i := 2) sc_sums_by_heap.nd rfl (.inr rfl) (pe_op op_rep (pe_lst (pa_cons pe_int pa_nil)) (pe_op op_shl pe_int (pv 1)))) (pss_cons (ps_for PassesOwn.never rfl (pi_any (K := K) (pv 0)) (pg_name (i := 3) sc_sums_by_heap.nd rfl (.inr rfl)) (pss_one (ps_set (i := 2) sc_sums_by_heap.nd rfl (.inr rfl) (pe_lc (own := [("heap", 4)]) (g := (gName 4)) (tt := tYes) rfl sc_sums_by_heap.nd (pi_range1 (by rfl) D.range_ (pa_cons (pe_op op_shl pe_int (pv 1)) pa_nil)) (blkOk_by (own := [("heap", 4)]) (N := ["wants", "many", "found", "want", "heap", "part"]) (sc := defScope (top 35)) (by decide +kernel)) (fun _ _ _ _ _ => (pg_name (i := 4) sc_sums_by_heap.nd rfl (.inr rfl))) (fun _ _ _ _ _ => pts_nil) (fun _ _ _ _ _ => (pe_callB (cr_maxK (K := K) rfl) (by rfl) D.max_ bt_max (pa_cons (pe_lc (own := [("part", 5)]) (g := (gName 5)) (tt := tYes) rfl sc_sums_by_heap.nd (pi_listK (K := K) (pe_call g_heaps_within (hr.mono (by decide)) (by rfl) m_heaps_within k_heaps_within b_heaps_within .nil pass0 (pa_cons (pv 4) pa_nil))) (blkOk_by (own := [("part", 5)]) (N := ["wants", "many", "found", "want", "heap", "part"]) (sc := relS { kind := .function, names := [(PySem.Str.ofString ".0", .local), (PySem.Str.ofString "heap", .cell), (PySem.Str.ofString "max", .globalImplicit), (PySem.Str.ofString "heaps_within", .globalImplicit), (PySem.Str.ofString "found", .free), (PySem.Str.ofString "want", .free)], isGenerator := false, isCoroutine := false, more := [] } (defScope (top 35))) (by decide +kernel)) (fun _ _ _ _ _ => (pg_name (i := 5) sc_sums_by_heap.nd rfl (.inl rfl))) (fun _ _ _ _ _ => pts_nil) (fun _ _ _ _ _ => (pe_op op_add (pe_ix (ix_listK (K := K)) (pv 2) (pe_op op_sub (pv 4) (pv 5)) (fun _ _ => rfl)) (pe_ix (ix_seqK (K := K)) (pv 3) (pv 5) (fun _ _ => rfl))))) pa_nil))))))) (pss_one (ps_ret (pv 2))))), ?_⟩
    have h64 : 2 ^ m ≤ 64 := Nat.le_trans (Nat.pow_le_pow_right (n := 2) (by decide) hm) (by decide)
    have eshl : (1 : Int) * 2 ^ ((m : Int)).toNat = ((2 ^ m : Nat) : Int) := shl_eq m
    have hrl : (wa.map V.ref).length = wants.length := by rw [List.length_map, ht.len]
    refine ⟨by show 1 ≤ sizeLine; decide, fun l0 nl0 => ?_⟩
    refine ⟨_, rfl, _, _, rfl, rfl, cpow1 m (by omega), l0, _, _, rfl, rfl, upd_same, ?_, ?_, ?_, fun L nL => ?_⟩
    · exact (shl_bd m hm).1
    · exact (shl_bd m hm).2.1
    · show ([V.int 0].length) * ((1 : Int) * 2 ^ ((m : Int)).toNat).toNat ≤ sizeLine
      rw [eshl, Int.toNat_natCast]
      exact le_line (by simp; omega)
    have efl : (List.replicate ((1 : Int) * 2 ^ ((m : Int)).toNat).toNat [V.int 0]).flatten = iv (List.replicate (2 ^ m) 0) := by
      rw [eshl, Int.toNat_natCast, List.flatten_replicate_singleton, iv, List.map_replicate]
    have s0 : Same H (upd H l0 (.lst [.int 0])) := same_new nl0
    have s1 : Same H (upd (upd H l0 (.lst [.int 0])) L (.lst (List.replicate ((1 : Int) * 2 ^ ((m : Int)).toNat).toNat [V.int 0]).flatten)) := s0.trans (same_new nL)
    refine ⟨_, rfl, wv, _, rfl, hw.elim (fun z => .inl (s1.seq z)) (fun z => .inr (s1.tup z)), fun J hJ => ?_⟩
    have hLH : H L = none := s0.free nL
    refine for_it hJ (fun i σ H' => ∃ (c : Addr) (d e g : Option V), σ = [some (.ref wv), some (.int m), some (.ref c), d, e, g] ∧ Same (upd (upd H l0 (.lst [.int 0])) L (.lst (List.replicate ((1 : Int) * 2 ^ ((m : Int)).toNat).toNat [V.int 0]).flatten)) H' ∧ H c = none ∧ H' c = some (.lst (iv (sbh (wants.take i) m))))
      ⟨L, _, _, _, rfl, Same.refl _, hLH, ?_⟩ (fun _ σ H' _ ⟨_, _, _, _, _, s, _⟩ => s) (fun i x σ H1 H2 hi p hy => ?_) (fun σ H1 p => ?_)
    · rw [upd_same, List.take_zero]
      exact congrArg (fun z => some (HO.lst z)) efl
    · obtain ⟨c, d, e, g, rfl, s2, ncH, ec⟩ := p
      obtain ⟨rfl, ey⟩ := hy
      obtain ⟨u, hu, rfl⟩ := ref_get ey
      have hiw : i < wants.length := by omega
      have s12 := s1.trans s2
      have htab := (ht.same s12).at_ i u hu
      have hsz := ht.sz i hiw
      have hcl := K98.sbh_len (wants.take i) m
      refine ⟨_, rfl, _, _, rfl, rfl, cpow1 m (by omega), _, rfl, ?_, ?_, fun M hM => ?_⟩
      · exact (shl_bd m hm).2.2.1
      · exact (shl_bd m hm).2.2.2
      refine lc_mp (walk_shl m) (fun h => .int (maxL ((hwL h).map fun part => tabAt (sbh (wants.take i) m) (h - part) + tabAt (wt wants i) part))) hM (le_line (by omega)) (fun _ _ => trivial) (fun h x H3 H4 R hh s3 hy hR => ?_) (fun H3 s3 e3 => ?_)
      · obtain ⟨rfl, rfl⟩ := hy
        have hh64 : h < 64 := by omega
        refine ⟨rfl, ?_⟩
        refine ⟨_, rfl, h, rfl, hh64, fun H5 p5 s5 np5 e5 => ⟨p5, rfl, ⟨_, SqL.of e5⟩, fun M2 hM2 => ?_⟩⟩
        have hwl := hw_len h
        refine lc_mp (walk_list (K := K) (a := p5) (xs := nv (hwL h))) (fun k => .int (tabAt (sbh (wants.take i) m) (h - (hwL h).getD k 0) + tabAt (wt wants i) ((hwL h).getD k 0))) hM2 (le_line (by rw [nv_len]; omega)) (fun H' s => s.seq (SqL.of e5)) (fun k x H6 H7 R2 hk s6 hy hR2 => ?_) (fun H6 s6 e6 => ?_)
        · obtain ⟨rfl, ey2⟩ := hy
          obtain ⟨pt, hpt, rfl⟩ := nv_get ey2
          have hmem := (K98.hw_mem hh64).mp (List.mem_of_getElem? hpt)
          have hple : pt ≤ h := by rw [← hmem]; exact Nat.and_le_right
          have eg : (hwL h).getD k 0 = pt := by rw [List.getD_eq_getElem?_getD, hpt]; rfl
          have s36 := (s3.trans s5).trans s6
          rw [eg] at hR2
          refine ⟨rfl, _, rfl, _, rfl, _, rfl, _, _, rfl, rfl, c, _, _, _, rfl, rfl, SqL.of (s36 _ _ ec), at_iv (i := h - pt) (by show (h : Int) - (pt : Int) = _; omega) (by rw [hcl]; omega), _, rfl, _, rfl, ?_⟩
          have hidx : atI (iv (wt wants i)) ((pt : Nat) : Int) = some (.int (tabAt (wt wants i) pt)) := at_iv rfl (by rw [hsz]; omega)
          rcases htab with z | z
          · exact .inl ⟨u, _, _, _, rfl, rfl, s36.seq z, hidx, _, _, rfl, rfl, hR2 _ (Same.refl _)⟩
          · exact .inr (.inl ⟨u, _, _, _, rfl, rfl, s36.tup z, hidx, _, _, rfl, rfl, hR2 _ (Same.refl _)⟩)
        · have enat := range_map_nat (hwL h) fun part => tabAt (sbh (wants.take i) m) (h - part) + tabAt (wt wants i) part
          rw [nv_len, enat] at e6
          refine ⟨M2, _, rfl, SqL.of e6, ?_, fun v hv hle => ?_⟩
          · rw [List.length_map]
            exact Nat.succ_pos _
          · rw [K98.maxL_eq hv hle]
            exact hR _ (s5.trans s6)
      · have estep : sbh (wants.take (i + 1)) m = sbStep m (sbh (wants.take i) m) (wt wants i) := by
          unfold K98.sbh K98.wt
          rw [List.take_add_one, List.getElem?_eq_getElem hiw, List.foldl_append, List.getD_eq_getElem?_getD, List.getElem?_eq_getElem hiw]
          rfl
        have eiv : (List.range (2 ^ m)).map (fun h => V.int (maxL ((hwL h).map fun part => tabAt (sbh (wants.take i) m) (h - part) + tabAt (wt wants i) part))) = iv (sbh (wants.take (i + 1)) m) := by
          rw [estep, iv, K98.sbStep, List.map_map]
          rfl
        rw [eiv] at e3
        exact ⟨M, _, _, _, rfl, s2.trans s3, s12.free hM, e3⟩
    · obtain ⟨c, d, e, g, rfl, s2, ncH, ec⟩ := p
      rw [hrl, List.take_length] at ec
      exact ⟨_, rfl, q _ c (s1.trans s2) ncH ec⟩
theorem last_sbh {l : List Int} {m : Nat} (h : l.length = 2 ^ m) : atI (iv l) (-1) = some (.int (tabAt l (2 ^ m - 1))) := by
  have hp : 0 < 2 ^ m := Nat.two_pow_pos m
  have e : atI (iv l) (-1) = (iv l)[(-1 + ((iv l).length : Int)).toNat]? := by
    unfold atI ixN
    rw [if_neg (by decide), if_pos (by rw [iv_len]; omega)]
    rfl
  rw [e, iv_len, h, show (-1 + ((2 ^ m : Nat) : Int)).toNat = 2 ^ m - 1 by omega, iv_get (by omega)]
theorem Town.any {H : Hp} {t s wv : Addr} {wa : List Addr} {m : Nat} {wants : List (List Int)} (h : Town K H t s wv wa m wants) (g : GoodTown m wants) : AnyTabs K H wa wants m :=
  ⟨h.tabs.len, fun i b e => .inr (h.tabs.at_ i b e), g.lens⟩
theorem zeros_len (m : Nat) : (zeros m).length = m := List.length_replicate
def sp_greatest (K : PySem.W.Frag) : Sp := fun vs H Q _ => ∃ (t s wv : Addr) (wa : List Addr) (m : Nat) (wants : List (List Int)), vs = [.ref t] ∧ Town K H t s wv wa m wants ∧ GoodTown m wants ∧ ∀ H', Same H H' → Q (.int (greatL wants m)) H'
theorem sc_greatest : FnScope ["town", "sides", "wants"] ["town"] (defScope (top 36)) := ⟨rfl, rfl, rfl, by decide +kernel, rfl, by decide +kernel, by decide +kernel⟩
theorem ok_greatest (D : Defs K mg) (C_sums_by_heap : Callee P w K mg base 2 "sums_by_heap" ["wants", "many"] (sp_sums_by_heap K)) : Callee P w K mg base 3 "greatest" ["town"] (sp_greatest K) := by
  obtain ⟨f_sums_by_heap, fd_sums_by_heap, g_sums_by_heap, m_sums_by_heap, k_sums_by_heap, b_sums_by_heap⟩ := C_sums_by_heap.ex
  refine callee_mk D.f_greatest sc_greatest (fun _ _ _ _ _ _ us hl => match us, hl with | [_], _ => rfl) (fun vs H Q E h => ?_) (fun f cdv A outer s H vs Q E hr h => ?_)
  · obtain ⟨t, s, wv, wa, m, wants, rfl, _⟩ := h; rfl
  · obtain ⟨t, s, wv, wa, m, wants, rfl, ht, hg, q⟩ := h
    refine ⟨_, (pss_cons (ps_asg (pv 0) (pg_tup rfl (pgs_cons (pg_name (i := 1) sc_greatest.nd rfl (.inl rfl)) (pgs_cons (pg_name (i := 2) sc_greatest.nd rfl (.inl rfl)) pgs_nil)))) (pss_one (ps_ret (pe_ix (ix_listK (K := K)) (pe_call g_sums_by_heap (hr.mono (by decide)) (by rfl) m_sums_by_heap k_sums_by_heap b_sums_by_heap .nil pass0 (pa_cons (pv 2) (pa_cons (pe_callB call_len_seq (by rfl) D.len_ bt_len (pa_cons (pv 1) pa_nil)) pa_nil))) (pe_un un_neg pe_int) (fun _ _ => rfl))))), ?_⟩
    refine ⟨_, rfl, t, _, rfl, ht.t, rfl, _, _, rfl, _, _, rfl, rfl, ?_⟩
    refine ⟨_, rfl, _, rfl, s, _, rfl, .inr ht.s, wv, wa, wants, m, by rw [zeros_len]; rfl, .inr ht.w, ht.any hg, Nat.le_trans hg.m5 (by decide), fun H1 p s1 np e1 => ?_⟩
    exact ⟨_, rfl, p, _, _, _, rfl, rfl, SqL.of e1, last_sbh (K98.sbh_len wants m), q _ s1⟩
def sp_greatest_of (K : PySem.W.Frag) : Sp := fun vs H Q _ => ∃ (t s wv : Addr) (wa : List Addr) (m : Nat) (wants : List (List Int)) (h : Nat), vs = [.ref t, .int h] ∧ Town K H t s wv wa m wants ∧ GoodTown m wants ∧ h < 2 ^ m ∧ ∀ H', Same H H' → Q (.int (greatOf wants m h)) H'
theorem sc_greatest_of : FnScope ["town", "heap", "sides", "wants"] ["town", "heap"] (defScope (top 37)) := ⟨rfl, rfl, rfl, by decide +kernel, rfl, by decide +kernel, by decide +kernel⟩
theorem ok_greatest_of (D : Defs K mg) (C_sums_by_heap : Callee P w K mg base 2 "sums_by_heap" ["wants", "many"] (sp_sums_by_heap K)) : Callee P w K mg base 3 "greatest_of" ["town", "heap"] (sp_greatest_of K) := by
  obtain ⟨f_sums_by_heap, fd_sums_by_heap, g_sums_by_heap, m_sums_by_heap, k_sums_by_heap, b_sums_by_heap⟩ := C_sums_by_heap.ex
  refine callee_mk D.f_greatest_of sc_greatest_of (fun _ _ _ _ _ _ us hl => match us, hl with | [_, _], _ => rfl) (fun vs H Q E h => ?_) (fun f cdv A outer s H vs Q E hr h => ?_)
  · obtain ⟨t, s, wv, wa, m, wants, h0, rfl, _⟩ := h; rfl
  · obtain ⟨t, s, wv, wa, m, wants, h0, rfl, ht, hg, hh, q⟩ := h
    refine ⟨_, (pss_cons (ps_asg (pv 0) (pg_tup rfl (pgs_cons (pg_name (i := 2) sc_greatest_of.nd rfl (.inl rfl)) (pgs_cons (pg_name (i := 3) sc_greatest_of.nd rfl (.inl rfl)) pgs_nil)))) (pss_one (ps_ret (pe_ix (ix_listK (K := K)) (pe_call g_sums_by_heap (hr.mono (by decide)) (by rfl) m_sums_by_heap k_sums_by_heap b_sums_by_heap .nil pass0 (pa_cons (pv 3) (pa_cons (pe_callB call_len_seq (by rfl) D.len_ bt_len (pa_cons (pv 2) pa_nil)) pa_nil))) (pv 1) (fun _ _ => rfl))))), ?_⟩
    refine ⟨_, rfl, t, _, rfl, ht.t, rfl, _, _, rfl, _, _, rfl, rfl, ?_⟩
    refine ⟨_, rfl, _, rfl, s, _, rfl, .inr ht.s, wv, wa, wants, m, by rw [zeros_len]; rfl, .inr ht.w, ht.any hg, Nat.le_trans hg.m5 (by decide), fun H1 p s1 np e1 => ?_⟩
    exact ⟨_, rfl, p, _, _, _, rfl, rfl, SqL.of e1, at_iv rfl (by rw [K98.sbh_len]; exact hh), q _ s1⟩
def sp_doubled (K : PySem.W.Frag) : Sp := fun vs H Q _ => ∃ (a : Addr) (tab : List Int) (m j : Nat), vs = [.ref a, .int m, .int j] ∧ SqT K H a (iv tab) ∧ tab.length = 2 ^ m ∧ m ≤ 5 ∧ j < m ∧
  ∀ H' p, Same H H' → H p = none → H' p = some (.lst (iv (doubledL tab m j))) → Q (.ref p) H'
theorem sc_doubled : FnScope ["want", "many", "thing", "found", "heap"] ["want", "many", "thing"] (defScope (top 38)) := ⟨rfl, rfl, rfl, by decide +kernel, rfl, by decide +kernel, by decide +kernel⟩
theorem ok_doubled (D : Defs K mg) : Callee P w K mg base 1 "doubled" ["want", "many", "thing"] (sp_doubled K) := by
  refine callee_mk D.f_doubled sc_doubled (fun _ _ _ _ _ _ us hl => match us, hl with | [_, _, _], _ => rfl) (fun vs H Q E h => ?_) (fun f cdv A outer s H vs Q E hr h => ?_)
  · obtain ⟨a, tab, m, j, rfl, _⟩ := h; rfl
  · obtain ⟨a, tab, m, j, rfl, ha, hl, hm, hj, q⟩ := h
    refine ⟨_, (pss_cons (ps_set (i := 3) sc_doubled.nd rfl (.inl rfl) (pe_callTy call_list_of (by rfl) D.list_ bt_list (pa_cons (pv 0) pa_nil))) (pss_cons (ps_for PassesOwn.never rfl (pi_range1 (by rfl) D.range_ (pa_cons (pe_op op_shl pe_int (pv 1)) pa_nil)) (pg_name (i := 4) sc_doubled.nd rfl (.inl rfl)) (pss_one (ps_expr (pe_bm PySem.F.plainAttrs_list PySem.F.slot_list_append PySem.F.type_list_append mt_append (pv 3) (pa_cons (pe_ix (ix_tupK (K := K)) (pv 0) (pe_op op_or (pv 4) (pe_op op_shl pe_int (pv 2))) (fun _ _ => rfl)) pa_nil))))) (pss_one (ps_ret (pv 3))))), ?_⟩
    have h64 : 2 ^ m ≤ 64 := Nat.le_trans (Nat.pow_le_pow_right (n := 2) (by decide) (show m ≤ 6 by omega)) (by decide)
    have eshl : (1 : Int) * 2 ^ ((m : Int)).toNat = ((2 ^ m : Nat) : Int) := shl_eq m
    refine ⟨_, rfl, a, _, rfl, .inr ha, fun L hL => ?_⟩
    refine ⟨_, rfl, _, _, rfl, rfl, cpow1 m (by omega), _, rfl, ?_, ?_, ?_⟩
    · exact (shl_bd m (by omega)).2.2.1
    · exact (shl_bd m (by omega)).2.2.2
    refine for_it (walk_shl m) (fun i σ H' => ∃ g, σ = [some (.ref a), some (.int m), some (.int j), some (.ref L), g] ∧ Same H H' ∧ H' L = some (.lst (iv (tab ++ (List.range i).map fun h => tabAt tab (h ||| 2 ^ j))))) ⟨_, rfl, same_new hL, by rw [upd_same]; simp⟩
      (fun _ _ _ _ _ => trivial) (fun i x σ H1 H2 hi p hy => ?_) (fun σ H1 p => ?_)
    · obtain ⟨g, rfl, s1, eL⟩ := p
      obtain ⟨rfl, rfl⟩ := hy
      have hor := K98.or_lt hi hj
      refine ⟨_, rfl, .inl ⟨rfl, _, SqL.of eL⟩, _, rfl, _, rfl, _, rfl, _, _, rfl, rfl, cpow1 j (by omega), _, _, rfl, rfl, a, _, _, _, rfl, rfl, s1.tup ha, at_iv (bor_pow i j) (by rw [hl]; exact hor), L, _, _, rfl, rfl, eL, ?_, ?_⟩
      · rw [iv_len, List.length_append, List.length_map, List.length_range, hl]
        exact small_line (by omega)
      · refine ⟨_, rfl, s1.put hL, ?_⟩
        rw [upd_same]
        simp [iv, List.range_succ]
    · obtain ⟨g, rfl, s1, eL⟩ := p
      exact ⟨_, rfl, q _ L s1 hL eL⟩
def sp_greatest_with_two (K : PySem.W.Frag) : Sp := fun vs H Q _ => ∃ (t s wv : Addr) (wa : List Addr) (m : Nat) (wants : List (List Int)) (j : Nat), vs = [.ref t, .int j] ∧ Town K H t s wv wa m wants ∧ GoodTown m wants ∧ wants.length ≤ 100 ∧ j < m ∧ ∀ H', Same H H' → Q (.int (twoL wants m j)) H'
theorem sc_greatest_with_two : FnScope ["town", "thing", "sides", "wants", "many", "want"] ["town", "thing"] (defScope (top 39)) := ⟨rfl, rfl, rfl, by decide +kernel, rfl, by decide +kernel, by decide +kernel⟩
theorem ok_greatest_with_two (D : Defs K mg) (C_sums_by_heap : Callee P w K mg base 2 "sums_by_heap" ["wants", "many"] (sp_sums_by_heap K)) (C_doubled : Callee P w K mg base 1 "doubled" ["want", "many", "thing"] (sp_doubled K)) : Callee P w K mg base 3 "greatest_with_two" ["town", "thing"] (sp_greatest_with_two K) := by
  obtain ⟨f_sums_by_heap, fd_sums_by_heap, g_sums_by_heap, m_sums_by_heap, k_sums_by_heap, b_sums_by_heap⟩ := C_sums_by_heap.ex
  obtain ⟨f_doubled, fd_doubled, g_doubled, m_doubled, k_doubled, b_doubled⟩ := C_doubled.ex
  refine callee_mk D.f_greatest_with_two sc_greatest_with_two (fun _ _ _ _ _ _ us hl => match us, hl with | [_, _], _ => rfl) (fun vs H Q E h => ?_) (fun f cdv A outer s H vs Q E hr h => ?_)
  · obtain ⟨t, s, wv, wa, m, wants, j, rfl, _⟩ := h; rfl
  · obtain ⟨t, s, wv, wa, m, wants, j, rfl, ht, hg, hn, hj, q⟩ := h
    refine ⟨_, (pss_cons (ps_asg (pv 0) (pg_tup rfl (pgs_cons (pg_name (i := 2) sc_greatest_with_two.nd rfl (.inl rfl)) (pgs_cons (pg_name (i := 3) sc_greatest_with_two.nd rfl (.inl rfl)) pgs_nil)))) (pss_cons (ps_set (i := 4) sc_greatest_with_two.nd rfl (.inr rfl) (pe_callB call_len_seq (by rfl) D.len_ bt_len (pa_cons (pv 2) pa_nil))) (pss_one (ps_ret (pe_ix (ix_listK (K := K)) (pe_call g_sums_by_heap (hr.mono (by decide)) (by rfl) m_sums_by_heap k_sums_by_heap b_sums_by_heap .nil pass0 (pa_cons (pe_lc (own := [("want", 5)]) (g := (gName 5)) (tt := tYes) rfl sc_greatest_with_two.nd (pi_tup (pv 3)) (blkOk_by (own := [("want", 5)]) (N := ["town", "thing", "sides", "wants", "many", "want"]) (sc := defScope (top 39)) (by decide +kernel)) (fun _ _ _ _ _ => (pg_name (i := 5) sc_greatest_with_two.nd rfl (.inl rfl))) (fun _ _ _ _ _ => pts_nil) (fun _ _ _ _ _ => (pe_call g_doubled (hr.mono (by decide)) (by rfl) m_doubled k_doubled b_doubled .nil pass0 (pa_cons (pv 5) (pa_cons (pv 4) (pa_cons (pv 1) pa_nil)))))) (pa_cons (pe_op op_add (pv 4) pe_int) pa_nil))) (pe_un un_neg pe_int) (fun _ _ => rfl)))))), ?_⟩
    have hrl : (wa.map V.ref).length = wants.length := by rw [List.length_map, ht.tabs.len]
    have hm5 := hg.m5
    refine ⟨_, rfl, t, _, rfl, ht.t, rfl, _, _, rfl, _, _, rfl, rfl, ?_⟩
    refine ⟨_, rfl, s, _, rfl, .inr ht.s, ?_⟩
    refine ⟨_, rfl, wv, rfl, ⟨_, ht.w⟩, fun L hL => ?_⟩
    refine lc_rel (walk_tup (K := K) (a := wv) (xs := wa.map V.ref)) (fun i H' => Same H H' ∧ ∃ wb : List Addr, wb.length = i ∧ H' L = some (.lst (wb.map V.ref)) ∧ ∀ k b, wb[k]? = some b → H' b = some (.lst (iv (doubledL (wt wants k) m j)))) ⟨same_new hL, [], rfl, upd_same, fun k b h => by simp at h⟩
      (fun i H' _ p => p.1.tup ht.w) (fun i x H1 H2 hi p hy => ?_) (fun H1 p => ?_)
    · obtain ⟨s1, wb, hwb, eL, hb⟩ := p
      obtain ⟨rfl, ey⟩ := hy
      obtain ⟨u, hu, rfl⟩ := ref_get ey
      have hiw : i < wants.length := by omega
      refine ⟨rfl, ?_⟩
      refine ⟨_, rfl, _, rfl, _, rfl, u, wt wants i, m, j, by rw [zeros_len]; rfl, s1.tup (ht.tabs.at_ i u hu), hg.lens i hiw, hm5, hj, fun H3 p3 s3 np3 e3 => ?_⟩
      refine ⟨_, s3 _ _ eL, small_line (by rw [List.length_map]; omega), (s1.trans s3).put hL, wb ++ [p3], by rw [List.length_append, List.length_singleton, hwb], ?_, fun k b hk => ?_⟩
      · rw [upd_same, List.map_append]; rfl
      · have npL : p3 ≠ L := fun z => by rw [z, eL] at np3; cases np3
        by_cases hlt : k < wb.length
        · rw [List.getElem?_append_left hlt] at hk
          have := hb k b hk
          have nbL : b ≠ L := fun z => by
            rw [z, eL] at this
            have h2 := HO.lst.inj (Option.some.inj this)
            have h3 := congrArg (fun l => l[0]?) h2
            have hd0 : 0 < (iv (doubledL (wt wants k) m j)).length := by
              rw [iv_len]
              unfold K98.doubledL
              rw [List.length_append, List.length_map, List.length_range]
              have := Nat.two_pow_pos m
              omega
            rw [List.getElem?_map, iv_get (by rw [iv_len] at hd0; exact hd0)] at h3
            cases e : wb[0]? with
            | none => rw [e] at h3; cases h3
            | some y => rw [e] at h3; cases h3
          rw [upd_ne nbL]
          exact s3 _ _ this
        · have ek : k = wb.length := by
            have := (List.getElem?_eq_some_iff.mp hk).1
            rw [List.length_append, List.length_singleton] at this
            omega
          subst ek
          rw [List.getElem?_append_right (Nat.le_refl _), Nat.sub_self] at hk
          have : p3 = b := Option.some.inj hk
          subst this
          rw [upd_ne npL, hwb]
          exact e3
    · obtain ⟨s1, wb, hwb, eL, hb⟩ := p
      rw [hrl] at hwb
      have hlm : (wants.map fun tab => doubledL tab m j).length = wants.length := List.length_map ..
      refine ⟨_, rfl, _, _, rfl, rfl, L, wb, wants.map fun tab => doubledL tab m j, m + 1, by rw [zeros_len]; rfl, .inl (SqL.of eL), ⟨by rw [hlm, hwb], fun k b hk => .inl (SqL.of ?_), fun k hk => ?_⟩, by omega, fun H3 p3 s3 np3 e3 => ?_⟩
      · have hk' := (List.getElem?_eq_some_iff.mp hk).1
        rw [K98.wt_map (by omega)]
        exact hb k b hk
      · rw [hlm] at hk
        rw [K98.wt_map hk]
        unfold K98.doubledL
        rw [List.length_append, List.length_map, List.length_range, hg.lens k hk, Nat.pow_succ]
        omega
      · exact ⟨_, rfl, p3, _, _, _, rfl, rfl, SqL.of e3, last_sbh (K98.sbh_len _ (m + 1)), q _ (s1.trans s3)⟩
end
end K98W
set_option Elab.async false
set_option linter.all false
set_option maxRecDepth 100000
set_option maxHeartbeats 4000000
/-! K98 walk G: low and high prices; steps from given prices. -/
namespace K98W
open PySem PySem.Spec PyProof.Rows L2 K98R
open K98 (tabAt GoodTab GoodTown wt pf payL stepL leastL lowL highL topL greatL greatOf twoL leastP greatP)

section
variable {P : Program} {w : World} {K : PySem.W.Frag} {mg : Str → Option Value} {base : Heap}
def sp_least_price (K : PySem.W.Frag) : Sp := fun vs H Q _ => ∃ (t s wv : Addr) (wa : List Addr) (m : Nat) (wants : List (List Int)) (j : Nat), vs = [.ref t, .int j] ∧ Town K H t s wv wa m wants ∧ GoodTown m wants ∧ wants.length ≤ 100 ∧ j < m ∧ ∀ H', Same H H' → Q (.int (leastP wants m j)) H'
theorem sc_least_price : FnScope ["town", "thing"] ["town", "thing"] (defScope (top 41)) := ⟨rfl, rfl, rfl, by decide +kernel, rfl, by decide +kernel, by decide +kernel⟩
theorem ok_least_price (D : Defs K mg) (C_greatest : Callee P w K mg base 3 "greatest" ["town"] (sp_greatest K)) (C_greatest_with_two : Callee P w K mg base 3 "greatest_with_two" ["town", "thing"] (sp_greatest_with_two K)) : Callee P w K mg base 4 "least_price" ["town", "thing"] (sp_least_price K) := by
  obtain ⟨f_greatest, fd_greatest, g_greatest, m_greatest, k_greatest, b_greatest⟩ := C_greatest.ex
  obtain ⟨f_greatest_with_two, fd_greatest_with_two, g_greatest_with_two, m_greatest_with_two, k_greatest_with_two, b_greatest_with_two⟩ := C_greatest_with_two.ex
  refine callee_mk D.f_least_price sc_least_price (fun _ _ _ _ _ _ us hl => match us, hl with | [_, _], _ => rfl) (fun vs H Q E h => ?_) (fun f cdv A outer s H vs Q E hr h => ?_)
  · obtain ⟨t, s, wv, wa, m, wants, j, rfl, _⟩ := h; rfl
  · obtain ⟨t, s, wv, wa, m, wants, j, rfl, ht, hg, hn, hj, q⟩ := h
    refine ⟨_, (pss_one (ps_ret (pe_op op_sub (pe_call g_greatest_with_two (hr.mono (by decide)) (by rfl) m_greatest_with_two k_greatest_with_two b_greatest_with_two .nil pass0 (pa_cons (pv 0) (pa_cons (pv 1) pa_nil))) (pe_call g_greatest (hr.mono (by decide)) (by rfl) m_greatest k_greatest b_greatest .nil pass0 (pa_cons (pv 0) pa_nil))))), ?_⟩
    refine ⟨_, rfl, _, rfl, t, s, wv, wa, m, wants, j, rfl, ht, hg, hn, hj, fun H1 s1 => ?_⟩
    refine ⟨_, rfl, t, s, wv, wa, m, wants, rfl, ht.same s1, hg, fun H2 s2 => ?_⟩
    exact ⟨_, _, rfl, rfl, q _ (s1.trans s2)⟩
def sp_greatest_price (K : PySem.W.Frag) : Sp := fun vs H Q _ => ∃ (t s wv : Addr) (wa : List Addr) (m : Nat) (wants : List (List Int)) (j : Nat), vs = [.ref t, .int j] ∧ Town K H t s wv wa m wants ∧ GoodTown m wants ∧ j < m ∧ ∀ H', Same H H' → Q (.int (greatP wants m j)) H'
theorem sc_greatest_price : FnScope ["town", "thing", "every"] ["town", "thing"] (defScope (top 42)) := ⟨rfl, rfl, rfl, by decide +kernel, rfl, by decide +kernel, by decide +kernel⟩
theorem ok_greatest_price (D : Defs K mg) (C_greatest : Callee P w K mg base 3 "greatest" ["town"] (sp_greatest K)) (C_greatest_of : Callee P w K mg base 3 "greatest_of" ["town", "heap"] (sp_greatest_of K)) : Callee P w K mg base 4 "greatest_price" ["town", "thing"] (sp_greatest_price K) := by
  obtain ⟨f_greatest, fd_greatest, g_greatest, m_greatest, k_greatest, b_greatest⟩ := C_greatest.ex
  obtain ⟨f_greatest_of, fd_greatest_of, g_greatest_of, m_greatest_of, k_greatest_of, b_greatest_of⟩ := C_greatest_of.ex
  refine callee_mk D.f_greatest_price sc_greatest_price (fun _ _ _ _ _ _ us hl => match us, hl with | [_, _], _ => rfl) (fun vs H Q E h => ?_) (fun f cdv A outer s H vs Q E hr h => ?_)
  · obtain ⟨t, s, wv, wa, m, wants, j, rfl, _⟩ := h; rfl
  · obtain ⟨t, s, wv, wa, m, wants, j, rfl, ht, hg, hj, q⟩ := h
    refine ⟨_, (pss_cons (ps_set (i := 2) sc_greatest_price.nd rfl (.inl rfl) (pe_op op_sub (pe_op op_shl pe_int (pe_callB call_len_seq (by rfl) D.len_ bt_len (pa_cons (pe_ix (ix_tupK (K := K)) (pv 0) pe_int (fun _ _ => rfl)) pa_nil))) pe_int)) (pss_one (ps_ret (pe_op op_sub (pe_call g_greatest (hr.mono (by decide)) (by rfl) m_greatest k_greatest b_greatest .nil pass0 (pa_cons (pv 0) pa_nil)) (pe_call g_greatest_of (hr.mono (by decide)) (by rfl) m_greatest_of k_greatest_of b_greatest_of .nil pass0 (pa_cons (pv 0) (pa_cons (pe_op op_sub (pv 2) (pe_op op_shl pe_int (pv 1))) pa_nil))))))), ?_⟩
    have hlt : 2 ^ m - 1 - 2 ^ j < 2 ^ m := (fun (a b : Nat) (h : 0 < a) => (by omega : a - 1 - b < a)) _ _ (Nat.two_pow_pos m)
    have hm5 := hg.m5
    have h1 : (1 : Int) * 2 ^ ((m : Int)).toNat = ((2 ^ m : Nat) : Int) := shl_eq m
    have h2 : (1 : Int) * 2 ^ ((j : Int)).toNat = ((2 ^ j : Nat) : Int) := shl_eq j
    have hjm : 2 ^ j < 2 ^ m := Nat.pow_lt_pow_right (by decide) hj
    have zl : ((zeros m).length : Int) = (m : Int) := by rw [zeros_len]
    refine ⟨_, rfl, t, _, _, _, rfl, rfl, ht.t, rfl, s, _, rfl, .inr ht.s, _, _, rfl, rfl, cpow1 _ (by rw [zeros_len]; omega), _, _, rfl, rfl, ?_⟩
    refine ⟨_, rfl, t, s, wv, wa, m, wants, rfl, ht, hg, fun H1 s1 => ?_⟩
    have hjz : (zeros m).length = m := zeros_len m
    have eix : (1 : Int) * 2 ^ ((((zeros m).length : Nat) : Int)).toNat - 1 - 1 * 2 ^ ((j : Int)).toNat = ((2 ^ m - 1 - 2 ^ j : Nat) : Int) := by
      rw [hjz, h1, h2]; omega
    refine ⟨_, rfl, _, rfl, _, rfl, _, _, rfl, rfl, cpow1 j (by omega), _, _, rfl, rfl, t, s, wv, wa, m, wants, 2 ^ m - 1 - 2 ^ j, ?_, ht.same s1, hg, hlt, fun H2 s2 => ?_⟩
    · exact congrArg (fun z => [V.ref t, V.int z]) eix
    · exact ⟨_, _, rfl, rfl, q _ (s1.trans s2)⟩
def sp_refuse_strange (K : PySem.W.Frag) : Sp := fun vs H Q _ => ∃ (t s wv : Addr) (wa : List Addr) (m : Nat) (wants : List (List Int)), vs = [.ref t] ∧ Town K H t s wv wa m wants ∧ GoodTown m wants ∧ ∀ H', Same H H' → Q .non H'
theorem sc_refuse_strange : FnScope ["town", "hand"] ["town"] (defScope (top 43)) := ⟨rfl, rfl, rfl, by decide +kernel, rfl, by decide +kernel, by decide +kernel⟩
theorem ok_refuse_strange (D : Defs K mg) (C_first_strange : Callee P w K mg base 4 "first_strange" ["town"] (sp_first_strange K)) : Callee P w K mg base 5 "refuse_strange" ["town"] (sp_refuse_strange K) := by
  obtain ⟨f_first_strange, fd_first_strange, g_first_strange, m_first_strange, k_first_strange, b_first_strange⟩ := C_first_strange.ex
  refine callee_mk D.f_refuse_strange sc_refuse_strange (fun _ _ _ _ _ _ us hl => match us, hl with | [_], _ => rfl) (fun vs H Q E h => ?_) (fun f cdv A outer s H vs Q E hr h => ?_)
  · obtain ⟨t, s, wv, wa, m, wants, rfl, _⟩ := h; rfl
  · obtain ⟨t, s, wv, wa, m, wants, rfl, ht, hg, q⟩ := h
    refine ⟨_, (pss_cons (ps_set (i := 1) sc_refuse_strange.nd rfl (.inl rfl) (pe_call g_first_strange (hr.mono (by decide)) (by rfl) m_first_strange k_first_strange b_first_strange .nil pass0 (pa_cons (pv 0) pa_nil))) (pss_one (ps_if (pt_cmpR op_notN (pv 1) pe_non (nomark _)) pss_never pss_nil))), ?_⟩
    refine ⟨_, rfl, t, s, wv, wa, m, wants, rfl, ht, hg, fun H1 s1 => ?_⟩
    exact ⟨_, rfl, rfl, _, rfl, iteF (q _ s1)⟩
def sp_low_prices (K : PySem.W.Frag) : Sp := fun vs H Q _ => ∃ (t s wv : Addr) (wa : List Addr) (m : Nat) (wants : List (List Int)), vs = [.ref t] ∧ Town K H t s wv wa m wants ∧ GoodTown m wants ∧ wants.length ≤ 100 ∧
  ∀ H' p, Same H H' → H p = none → H' p = some (.tup (iv (lowL m wants))) → Q (.ref p) H'
theorem sc_low_prices : FnScope ["town", "t", "side"] ["town"] (defScope (top 44)) := ⟨rfl, rfl, rfl, by decide +kernel, rfl, by decide +kernel, by decide +kernel⟩
theorem ok_low_prices (D : Defs K mg) (C_least_price : Callee P w K mg base 4 "least_price" ["town", "thing"] (sp_least_price K)) (C_greatest_price : Callee P w K mg base 4 "greatest_price" ["town", "thing"] (sp_greatest_price K)) (C_refuse_strange : Callee P w K mg base 5 "refuse_strange" ["town"] (sp_refuse_strange K)) : Callee P w K mg base 6 "low_prices" ["town"] (sp_low_prices K) := by
  obtain ⟨f_least_price, fd_least_price, g_least_price, m_least_price, k_least_price, b_least_price⟩ := C_least_price.ex
  obtain ⟨f_greatest_price, fd_greatest_price, g_greatest_price, m_greatest_price, k_greatest_price, b_greatest_price⟩ := C_greatest_price.ex
  obtain ⟨f_refuse_strange, fd_refuse_strange, g_refuse_strange, m_refuse_strange, k_refuse_strange, b_refuse_strange⟩ := C_refuse_strange.ex
  refine callee_mk D.f_low_prices sc_low_prices (fun _ _ _ _ _ _ us hl => match us, hl with | [_], _ => rfl) (fun vs H Q E h => ?_) (fun f cdv A outer s H vs Q E hr h => ?_)
  · obtain ⟨t, s, wv, wa, m, wants, rfl, _⟩ := h; rfl
  · obtain ⟨t, s, wv, wa, m, wants, rfl, ht, hg, hn, q⟩ := h
    refine ⟨_, (pss_cons (ps_expr (pe_call g_refuse_strange (hr.mono (by decide)) (by rfl) m_refuse_strange k_refuse_strange b_refuse_strange .nil pass0 (pa_cons (pv 0) pa_nil))) (pss_one (ps_ret (pe_callTy call_tuple_of (by rfl) D.tuple_ bt_tuple (pa_cons (pe_lc (own := [("t", 1), ("side", 2)]) (g := (gTup K 2 (gCons (gName 1) (gCons (gName 2) gNil)))) (tt := tYes) rfl sc_low_prices.nd (pi_enumT (by rfl) D.enumerate_ (pa_cons (pe_ix (ix_tupK (K := K)) (pv 0) pe_int (fun _ _ => rfl)) pa_nil)) (blkOk_by (own := [("t", 1), ("side", 2)]) (N := ["town", "t", "side"]) (sc := defScope (top 44)) (by decide +kernel)) (fun _ _ _ _ _ => (pg_tup rfl (pgs_cons (pg_name (i := 1) sc_low_prices.nd rfl (.inl rfl)) (pgs_cons (pg_name (i := 2) sc_low_prices.nd rfl (.inl rfl)) pgs_nil)))) (fun _ _ _ _ _ => pts_nil) (fun _ _ _ _ _ => (pe_ifExp (pt_cmpR op_eq (pv 2) pe_int (nomark _)) (pe_call g_greatest_price (hr.mono (by decide)) (by rfl) m_greatest_price k_greatest_price b_greatest_price .nil pass0 (pa_cons (pv 0) (pa_cons (pv 1) pa_nil))) (pe_call g_least_price (hr.mono (by decide)) (by rfl) m_least_price k_least_price b_least_price .nil pass0 (pa_cons (pv 0) (pa_cons (pv 1) pa_nil)))))) pa_nil))))), ?_⟩
    have hm5 := hg.m5
    refine ⟨_, rfl, t, s, wv, wa, m, wants, rfl, ht, hg, fun H1 s1 => ?_⟩
    refine ⟨_, rfl, t, _, _, _, rfl, rfl, s1.tup ht.t, rfl, s, _, rfl, s1.tup ht.s, fun L hL => ?_⟩
    refine lc_mp (K98R.walk_enumT (K := K) (a := s) (xs := zeros m)) (fun i => .int (leastP wants m i)) hL (le_line (by rw [zeros_len]; omega)) (fun H' s => (s1.trans s).tup ht.s) (fun k x H3 H4 R hk s3 hy hR => ?_) (fun H3 s3 e3 => ?_)
    · obtain ⟨T, x1, x2, rfl, nT, rfl, e1, e2⟩ := hy
      have ex1 := Option.some.inj e1
      subst ex1
      have ex2 := rep_at e2
      subst ex2
      rw [zeros_len] at hk
      have s4 := s3.trans (same_new (o := HO.tup [.int (k : Nat), .int 0]) nT)
      refine ⟨T, _, rfl, SqT.new, rfl, _, _, rfl, _, _, rfl, rfl, rfl, _, rfl, rfl, _, rfl, iteF ?_⟩
      exact ⟨_, rfl, _, rfl, t, s, wv, wa, m, wants, k, rfl, ht.same (s1.trans s4), hg, hn, hk, fun H5 s5 => hR _ ((same_new nT).trans s5)⟩
    · have e : (List.range (zeros m).length).map (fun i => V.int (leastP wants m i)) = iv (lowL m wants) := by
        rw [zeros_len, iv, K98.lowL, List.map_map]; rfl
      rw [e] at e3
      refine ⟨L, _, rfl, .inl ⟨SqL.of e3, fun p np => ?_⟩⟩
      have s5 := s1.trans s3
      exact q _ p (s5.trans (same_new np)) (s5.free np) upd_same
def sp_high_prices (K : PySem.W.Frag) : Sp := fun vs H Q _ => ∃ (t s wv : Addr) (wa : List Addr) (m : Nat) (wants : List (List Int)), vs = [.ref t] ∧ Town K H t s wv wa m wants ∧ GoodTown m wants ∧ wants.length ≤ 100 ∧
  ∀ H' p, Same H H' → H p = none → H' p = some (.tup (iv (highL m wants))) → Q (.ref p) H'
theorem sc_high_prices : FnScope ["town", "t", "side"] ["town"] (defScope (top 45)) := ⟨rfl, rfl, rfl, by decide +kernel, rfl, by decide +kernel, by decide +kernel⟩
theorem ok_high_prices (D : Defs K mg) (C_least_price : Callee P w K mg base 4 "least_price" ["town", "thing"] (sp_least_price K)) (C_greatest_price : Callee P w K mg base 4 "greatest_price" ["town", "thing"] (sp_greatest_price K)) (C_refuse_strange : Callee P w K mg base 5 "refuse_strange" ["town"] (sp_refuse_strange K)) : Callee P w K mg base 6 "high_prices" ["town"] (sp_high_prices K) := by
  obtain ⟨f_least_price, fd_least_price, g_least_price, m_least_price, k_least_price, b_least_price⟩ := C_least_price.ex
  obtain ⟨f_greatest_price, fd_greatest_price, g_greatest_price, m_greatest_price, k_greatest_price, b_greatest_price⟩ := C_greatest_price.ex
  obtain ⟨f_refuse_strange, fd_refuse_strange, g_refuse_strange, m_refuse_strange, k_refuse_strange, b_refuse_strange⟩ := C_refuse_strange.ex
  refine callee_mk D.f_high_prices sc_high_prices (fun _ _ _ _ _ _ us hl => match us, hl with | [_], _ => rfl) (fun vs H Q E h => ?_) (fun f cdv A outer s H vs Q E hr h => ?_)
  · obtain ⟨t, s, wv, wa, m, wants, rfl, _⟩ := h; rfl
  · obtain ⟨t, s, wv, wa, m, wants, rfl, ht, hg, hn, q⟩ := h
    refine ⟨_, (pss_cons (ps_expr (pe_call g_refuse_strange (hr.mono (by decide)) (by rfl) m_refuse_strange k_refuse_strange b_refuse_strange .nil pass0 (pa_cons (pv 0) pa_nil))) (pss_one (ps_ret (pe_callTy call_tuple_of (by rfl) D.tuple_ bt_tuple (pa_cons (pe_lc (own := [("t", 1), ("side", 2)]) (g := (gTup K 2 (gCons (gName 1) (gCons (gName 2) gNil)))) (tt := tYes) rfl sc_high_prices.nd (pi_enumT (by rfl) D.enumerate_ (pa_cons (pe_ix (ix_tupK (K := K)) (pv 0) pe_int (fun _ _ => rfl)) pa_nil)) (blkOk_by (own := [("t", 1), ("side", 2)]) (N := ["town", "t", "side"]) (sc := defScope (top 45)) (by decide +kernel)) (fun _ _ _ _ _ => (pg_tup rfl (pgs_cons (pg_name (i := 1) sc_high_prices.nd rfl (.inl rfl)) (pgs_cons (pg_name (i := 2) sc_high_prices.nd rfl (.inl rfl)) pgs_nil)))) (fun _ _ _ _ _ => pts_nil) (fun _ _ _ _ _ => (pe_ifExp (pt_cmpR op_eq (pv 2) pe_int (nomark _)) (pe_call g_least_price (hr.mono (by decide)) (by rfl) m_least_price k_least_price b_least_price .nil pass0 (pa_cons (pv 0) (pa_cons (pv 1) pa_nil))) (pe_call g_greatest_price (hr.mono (by decide)) (by rfl) m_greatest_price k_greatest_price b_greatest_price .nil pass0 (pa_cons (pv 0) (pa_cons (pv 1) pa_nil)))))) pa_nil))))), ?_⟩
    have hm5 := hg.m5
    refine ⟨_, rfl, t, s, wv, wa, m, wants, rfl, ht, hg, fun H1 s1 => ?_⟩
    refine ⟨_, rfl, t, _, _, _, rfl, rfl, s1.tup ht.t, rfl, s, _, rfl, s1.tup ht.s, fun L hL => ?_⟩
    refine lc_mp (K98R.walk_enumT (K := K) (a := s) (xs := zeros m)) (fun i => .int (greatP wants m i)) hL (le_line (by rw [zeros_len]; omega)) (fun H' s => (s1.trans s).tup ht.s) (fun k x H3 H4 R hk s3 hy hR => ?_) (fun H3 s3 e3 => ?_)
    · obtain ⟨T, x1, x2, rfl, nT, rfl, e1, e2⟩ := hy
      have ex1 := Option.some.inj e1
      subst ex1
      have ex2 := rep_at e2
      subst ex2
      rw [zeros_len] at hk
      have s4 := s3.trans (same_new (o := HO.tup [.int (k : Nat), .int 0]) nT)
      refine ⟨T, _, rfl, SqT.new, rfl, _, _, rfl, _, _, rfl, rfl, rfl, _, rfl, rfl, _, rfl, iteF ?_⟩
      exact ⟨_, rfl, _, rfl, t, s, wv, wa, m, wants, k, rfl, ht.same (s1.trans s4), hg, hk, fun H5 s5 => hR _ ((same_new nT).trans s5)⟩
    · have e : (List.range (zeros m).length).map (fun i => V.int (greatP wants m i)) = iv (highL m wants) := by
        rw [zeros_len, iv, K98.highL, List.map_map]; rfl
      rw [e] at e3
      refine ⟨L, _, rfl, .inl ⟨SqL.of e3, fun p np => ?_⟩⟩
      have s5 := s1.trans s3
      exact q _ p (s5.trans (same_new np)) (s5.free np) upd_same
/-- what steps from given prices ask of them -/
def Near (m : Nat) (wants : List (List Int)) (wy : Int) (ps : List Int) : Prop :=
  ps.length = m ∧ (wy = 1 ∧ (∀ t, t < m → pf ps t ≤ leastP wants m t) ∨ wy = -1 ∧ ∀ t, t < m → greatP wants m t ≤ pf ps t)
def sp_is_beyond (K : PySem.W.Frag) : Sp := fun vs H Q _ => ∃ (t s wv : Addr) (wa : List Addr) (m : Nat) (wants : List (List Int)) (b : Addr) (ps : List Int) (j : Nat) (wy : Int), vs = [.ref t, .ref b, .int j, .int wy] ∧ Town K H t s wv wa m wants ∧ GoodTown m wants ∧ wants.length ≤ 100 ∧
  SqT K H b (iv ps) ∧ Near m wants wy ps ∧ j < m ∧ ∀ H', Same H H' → Q (.bl false) H'
theorem sc_is_beyond : FnScope ["town", "prices", "thing", "way"] ["town", "prices", "thing", "way"] (defScope (top 47)) := ⟨rfl, rfl, rfl, by decide +kernel, rfl, by decide +kernel, by decide +kernel⟩
theorem ok_is_beyond (D : Defs K mg) (C_least_price : Callee P w K mg base 4 "least_price" ["town", "thing"] (sp_least_price K)) (C_greatest_price : Callee P w K mg base 4 "greatest_price" ["town", "thing"] (sp_greatest_price K)) : Callee P w K mg base 5 "is_beyond" ["town", "prices", "thing", "way"] (sp_is_beyond K) := by
  obtain ⟨f_least_price, fd_least_price, g_least_price, m_least_price, k_least_price, b_least_price⟩ := C_least_price.ex
  obtain ⟨f_greatest_price, fd_greatest_price, g_greatest_price, m_greatest_price, k_greatest_price, b_greatest_price⟩ := C_greatest_price.ex
  obtain ⟨tB, mBELOW⟩ := D.BELOW_
  refine callee_mk D.f_is_beyond sc_is_beyond (fun _ _ _ _ _ _ us hl => match us, hl with | [_, _, _, _], _ => rfl) (fun vs H Q E h => ?_) (fun f cdv A outer s H vs Q E hr h => ?_)
  · obtain ⟨t, s, wv, wa, m, wants, b, ps, j, wy, rfl, _⟩ := h; rfl
  · obtain ⟨t, s, wv, wa, m, wants, b, ps, j, wy, rfl, ht, hg, hn, hb, hp, hj, q⟩ := h
    refine ⟨_, (pss_cons (ps_if (pt_cmpR op_eq (pe_cmpR op_eq (pe_ix (ix_tupK (K := K)) (pe_ix (ix_tupK (K := K)) (pv 0) pe_int (fun _ _ => rfl)) (pv 2) (fun _ _ => rfl)) pe_int (nomark _)) (pe_cmpR op_eq (pv 3) (pe_glob (v := .int 1) (by rfl) mBELOW ⟨_, rfl⟩) (nomark _)) (nomark _)) (pss_one (ps_ret (pe_cmpR op_gt (pe_ix (ix_tupK (K := K)) (pv 1) (pv 2) (fun _ _ => rfl)) (pe_call g_least_price (hr.mono (by decide)) (by rfl) m_least_price k_least_price b_least_price .nil pass0 (pa_cons (pv 0) (pa_cons (pv 2) pa_nil))) (nomark _)))) pss_nil) (pss_one (ps_ret (pe_cmpR op_lt (pe_ix (ix_tupK (K := K)) (pv 1) (pv 2) (fun _ _ => rfl)) (pe_call g_greatest_price (hr.mono (by decide)) (by rfl) m_greatest_price k_greatest_price b_greatest_price .nil pass0 (pa_cons (pv 0) (pa_cons (pv 2) pa_nil))) (nomark _))))), ?_⟩
    obtain ⟨hl, hw⟩ := hp
    have ez : atI (zeros m) ((j : Nat) : Int) = some (.int 0) := at_nat rfl (by unfold zeros; rw [List.getElem?_replicate, if_pos hj])
    have ep : atI (iv ps) ((j : Nat) : Int) = some (.int (pf ps j)) := at_iv rfl (by omega)
    refine ⟨_, rfl, t, _, _, _, rfl, rfl, ht.t, rfl, _, rfl, s, _, _, _, rfl, rfl, ht.s, ez, ?_⟩
    rcases hw with ⟨rfl, hw⟩ | ⟨rfl, hw⟩
    · refine ⟨rfl, _, rfl, rfl, rfl, _, rfl, iteT ?_⟩
      refine ⟨_, rfl, _, rfl, b, _, _, _, rfl, rfl, hb, ep, _, rfl, _, rfl, t, s, wv, wa, m, wants, j, rfl, ht, hg, hn, hj, fun H1 s1 => ?_⟩
      refine ⟨_, _, rfl, rfl, ?_⟩
      have e0 : decide (leastP wants m j < pf ps j) = false := decide_eq_false (by have := hw j hj; omega)
      show Q (.bl (decide (leastP wants m j < pf ps j))) H1
      rw [e0]
      exact q _ s1
    · refine ⟨rfl, _, rfl, rfl, rfl, _, rfl, iteF ?_⟩
      refine ⟨_, rfl, _, rfl, b, _, _, _, rfl, rfl, hb, ep, _, rfl, _, rfl, t, s, wv, wa, m, wants, j, rfl, ht, hg, hj, fun H1 s1 => ?_⟩
      refine ⟨_, _, rfl, rfl, ?_⟩
      have e0 : decide (pf ps j < greatP wants m j) = false := decide_eq_false (by have := hw j hj; omega)
      show Q (.bl (decide (pf ps j < greatP wants m j))) H1
      rw [e0]
      exact q _ s1
def sp_steps_from (K : PySem.W.Frag) : Sp := fun vs H Q _ => ∃ (t s wv : Addr) (wa : List Addr) (m : Nat) (wants : List (List Int)) (b : Addr) (ps : List Int) (wy : Int) (I : List Int → Prop) (mu : List Int → Int) (target : List Int), vs = [.ref t, .ref b, .int wy] ∧ Town K H t s wv wa m wants ∧ GoodTown m wants ∧ wants.length ≤ 100 ∧
  SqT K H b (iv ps) ∧ Near m wants wy ps ∧ Goes m wants wy I mu target ∧ I ps ∧ ∀ H' p r pr, Same H H' → SqT K H' p [.ref r, .ref pr] → SqT K H' pr (iv target) → Q (.ref p) H'
theorem sc_steps_from : FnScope ["town", "prices", "way", "thing", "row", "heap"] ["town", "prices", "way"] (defScope (top 48)) := ⟨rfl, rfl, rfl, by decide +kernel, rfl, by decide +kernel, by decide +kernel⟩
theorem ok_steps_from (D : Defs K mg) (C_stepped : Callee P w K mg base 2 "stepped" ["sides", "prices", "heap", "way"] (sp_stepped K)) (C_least_step : Callee P w K mg base 4 "least_step" ["town", "prices", "way"] (sp_least_step K)) (C_kind_checked : Callee P w K mg base 5 "kind_checked" ["town"] (sp_kind_checked K)) (C_is_beyond : Callee P w K mg base 5 "is_beyond" ["town", "prices", "thing", "way"] (sp_is_beyond K)) : Callee P w K mg base 6 "steps_from" ["town", "prices", "way"] (sp_steps_from K) := by
  obtain ⟨f_stepped, fd_stepped, g_stepped, m_stepped, k_stepped, b_stepped⟩ := C_stepped.ex
  obtain ⟨f_least_step, fd_least_step, g_least_step, m_least_step, k_least_step, b_least_step⟩ := C_least_step.ex
  obtain ⟨f_kind_checked, fd_kind_checked, g_kind_checked, m_kind_checked, k_kind_checked, b_kind_checked⟩ := C_kind_checked.ex
  obtain ⟨f_is_beyond, fd_is_beyond, g_is_beyond, m_is_beyond, k_is_beyond, b_is_beyond⟩ := C_is_beyond.ex
  refine callee_mk D.f_steps_from sc_steps_from (fun _ _ _ _ _ _ us hl => match us, hl with | [_, _, _], _ => rfl) (fun vs H Q E h => ?_) (fun f cdv A outer s H vs Q E hr h => ?_)
  · obtain ⟨t, s0, wv, wa, m, wants, b0, p0, wy, I, mu, target, rfl, _⟩ := h; rfl
  · obtain ⟨t, s0, wv, wa, m, wants, b0, p0, wy, I, mu, target, rfl, ht, hg, hn, hb0, hnear, go, i0, q⟩ := h
    refine ⟨_, (pss_cons (ps_expr (pe_call g_kind_checked (hr.mono (by decide)) (by rfl) m_kind_checked k_kind_checked b_kind_checked .nil pass0 (pa_cons (pv 0) pa_nil))) (pss_cons (ps_for PassesOwn.never rfl (pi_range1 (by rfl) D.range_ (pa_cons (pe_callB call_len_seq (by rfl) D.len_ bt_len (pa_cons (pv 1) pa_nil)) pa_nil)) (pg_name (i := 3) sc_steps_from.nd rfl (.inl rfl)) (pss_one (ps_if (pt_val (pe_call g_is_beyond (hr.mono (by decide)) (by rfl) m_is_beyond k_is_beyond b_is_beyond .nil pass0 (pa_cons (pv 0) (pa_cons (pv 1) (pa_cons (pv 3) (pa_cons (pv 2) pa_nil)))))) pss_never pss_nil))) (pss_cons (ps_set (i := 4) sc_steps_from.nd rfl (.inl rfl) (pe_lst pa_nil)) (pss_cons (ps_set (i := 5) sc_steps_from.nd rfl (.inl rfl) (pe_call g_least_step (hr.mono (by decide)) (by rfl) m_least_step k_least_step b_least_step .nil pass0 (pa_cons (pv 0) (pa_cons (pv 1) (pa_cons (pv 2) pa_nil))))) (pss_cons (ps_while PassesOwn.never (pt_cmpR op_ne (pv 5) pe_int (nomark _)) (pss_cons (ps_expr (pe_bm PySem.F.plainAttrs_list PySem.F.slot_list_append PySem.F.type_list_append mt_append (pv 4) (pa_cons (pv 5) pa_nil))) (pss_cons (ps_set (i := 1) sc_steps_from.nd rfl (.inl rfl) (pe_call g_stepped (hr.mono (by decide)) (by rfl) m_stepped k_stepped b_stepped .nil pass0 (pa_cons (pe_ix (ix_tupK (K := K)) (pv 0) pe_int (fun _ _ => rfl)) (pa_cons (pv 1) (pa_cons (pv 5) (pa_cons (pv 2) pa_nil)))))) (pss_one (ps_set (i := 5) sc_steps_from.nd rfl (.inl rfl) (pe_call g_least_step (hr.mono (by decide)) (by rfl) m_least_step k_least_step b_least_step .nil pass0 (pa_cons (pv 0) (pa_cons (pv 1) (pa_cons (pv 2) pa_nil))))))))) (pss_one (ps_ret (pe_tup (pa_cons (pe_callTy call_tuple_of (by rfl) D.tuple_ bt_tuple (pa_cons (pv 4) pa_nil)) (pa_cons (pv 1) pa_nil)))))))))), ?_⟩
    refine ⟨_, rfl, t, s0, wv, wa, m, wants, rfl, ht, hg, fun H1 s1 => ?_⟩
    have hm5 := hg.m5
    have hp0 : p0.length = m := hnear.1
    refine ⟨_, rfl, b0, _, rfl, .inr (s1.tup hb0), _, rfl, by rw [iv_len]; omega, by rw [iv_len]; omega, ?_⟩
    rw [iv_len, Int.toNat_natCast]
    refine for_it (walk_range0 (n := p0.length)) (fun i σ H' => ∃ d, σ = [some (.ref t), some (.ref b0), some (.int wy), d, none, none] ∧ Same H H') ⟨_, rfl, s1⟩ (fun _ _ _ _ _ => trivial) (fun i x σ H2 H3 hi p hy => ?_) (fun σ H2 p => ?_)
    · obtain ⟨d, rfl, s2⟩ := p
      obtain ⟨rfl, rfl⟩ := hy
      refine ⟨_, rfl, _, rfl, _, rfl, _, rfl, t, s0, wv, wa, m, wants, b0, p0, i, wy, rfl, ht.same s2, hg, hn, s2.tup hb0, hnear, by omega, fun H4 s4 => ?_⟩
      exact ⟨_, rfl, iteF ⟨_, rfl, s2.trans s4⟩⟩
    obtain ⟨d, rfl, s12⟩ := p
    refine ⟨Nat.zero_le _, fun L hL => ?_⟩
    have s3 : Same H2 (upd H2 L (.lst [])) := same_new hL
    have hLH : H L = none := s12.free hL
    refine ⟨_, rfl, _, rfl, _, rfl, t, s0, wv, wa, m, wants, b0, p0, wy, rfl, ht.same (s12.trans s3), hg, hn, (s12.trans s3).tup hb0, go.len _ i0, fun H4 s4 => ?_⟩
    refine ⟨fun k σ H' => ∃ (b : Addr) (ps : List Int) (xs : List V), σ = [some (.ref t), some (.ref b), some (.int wy), d, some (.ref L), some (.int (leastL wants ps wy : Nat))] ∧ Same H H' ∧ SqT K H' b (iv ps) ∧ I ps ∧ H' L = some (.lst xs) ∧ (xs.length : Int) + mu ps ≤ 400 ∧ (k : Int) = mu ps,
      ⟨(mu (p0)).toNat, b0, p0, [], rfl, (s12.trans s3).trans s4, ((s12.trans s3).trans s4).tup hb0, i0, s4 _ _ upd_same, ?_, ?_⟩, fun k σ H5 hW => ?_⟩
    · have := go.bd _ i0
      show ((0 : Nat) : Int) + _ ≤ 400
      omega
    · have := go.bd _ i0
      omega
    · obtain ⟨b, ps, xs, rfl, s5, eb, ip, eL, hb, hk⟩ := hW
      have hbd := go.bd _ ip
      refine ⟨_, rfl, rfl, _, rfl, ?_⟩
      refine ite2 (fun hc => ?_) (fun hc => ?_)
      · have hne : leastL wants ps wy ≠ 0 := fun z => by
          rw [z] at hc
          exact absurd hc (by decide)
        obtain ⟨ip', hmu⟩ := go.on _ ip hne
        have hbd' := go.bd _ ip'
        refine ⟨fun σ' H' => ∃ k', k' < k ∧ ∃ (b : Addr) (ps : List Int) (xs : List V), σ' = [some (.ref t), some (.ref b), some (.int wy), d, some (.ref L), some (.int (leastL wants ps wy : Nat))] ∧ Same H H' ∧ SqT K H' b (iv ps) ∧ I ps ∧ H' L = some (.lst xs) ∧ (xs.length : Int) + mu ps ≤ 400 ∧ (k' : Int) = mu ps, fun σ' H' h => h, ?_⟩
        refine ⟨_, rfl, .inl ⟨rfl, _, SqL.of eL⟩, _, rfl, L, _, _, rfl, rfl, eL, small_line (by omega), ?_⟩
        have s6 : Same H (upd H5 L (.lst (xs ++ [.int (leastL wants ps wy : Nat)]))) := s5.put hLH
        have eb6 : SqT K (upd H5 L (.lst (xs ++ [.int (leastL wants ps wy : Nat)]))) b (iv ps) := by
          rcases eb with (z | ⟨o, z⟩) | z
          · exact .inl (.inl (by rw [upd_ne (ne_of z eL (by intro q; cases q))]; exact z))
          · exact .inl (.inr ⟨o, by rw [upd_ne (ne_of z eL (by intro q; cases q))]; exact z⟩)
          · exact .inr z
        refine ⟨_, rfl, t, _, _, _, rfl, rfl, s6.tup ht.t, rfl, _, rfl, _, rfl, _, rfl, s0, b, ps, m, _, wy, rfl, s6.tup ht.s, eb6, go.len _ ip, hg.m5, go.lt _ ip, fun H7 p7 s7 np7 e7 => ?_⟩
        refine ⟨_, rfl, _, rfl, _, rfl, t, s0, wv, wa, m, wants, p7, _, wy, rfl, ht.same (s6.trans s7), hg, hn, SqT.of e7, go.len _ ip', fun H8 s8 => ?_⟩
        refine ⟨(mu (stepL ps (leastL wants ps wy) wy)).toNat, by omega, p7, _, _, rfl, (s6.trans s7).trans s8, s8.tup (SqT.of e7), ip', (s7.trans s8) _ _ upd_same, ?_, by omega⟩
        rw [List.length_append, List.length_singleton]
        omega
      · have hz : leastL wants ps wy = 0 := by
          by_cases z : leastL wants ps wy = 0
          · exact z
          · exfalso
            refine hc ?_
            have : ¬ V.int (leastL wants ps wy : Nat) = V.int 0 := fun y => z (by have := V.int.inj y; omega)
            show (!decide (V.int (leastL wants ps wy : Nat) = V.int 0)) = true
            rw [decide_eq_false this]; rfl
        have ept := go.fin _ ip hz
        subst ept
        refine ⟨_, rfl, L, _, rfl, .inl ⟨SqL.of eL, fun r nr => ?_⟩⟩
        refine ⟨_, rfl, by show 2 ≤ sizeLine; decide, fun p np => ?_⟩
        have s9 := (s5.trans (same_new (o := HO.tup xs) nr)).trans (same_new (o := HO.tup [.ref r, .ref b]) np)
        exact q _ p r b s9 SqT.new (((same_new (o := HO.tup xs) nr).trans (same_new (o := HO.tup [.ref r, .ref b]) np)).tup eb)

def sp_rising_from (K : PySem.W.Frag) : Sp := fun vs H Q _ => ∃ (t s wv : Addr) (wa : List Addr) (m : Nat) (wants : List (List Int)) (b : Addr) (ps : List Int), vs = [.ref t, .ref b] ∧ Town K H t s wv wa m wants ∧ GoodTown m wants ∧ wants.length ≤ 100 ∧
  SqT K H b (iv ps) ∧ K98.Under m wants ps ∧ ∀ H' p r pr, Same H H' → SqT K H' p [.ref r, .ref pr] → SqT K H' pr (iv (lowL m wants)) → Q (.ref p) H'
theorem sc_rising_from : FnScope ["town", "prices"] ["town", "prices"] (defScope (top 49)) := ⟨rfl, rfl, rfl, by decide +kernel, rfl, by decide +kernel, by decide +kernel⟩
theorem ok_rising_from (D : Defs K mg) (C_steps_from : Callee P w K mg base 6 "steps_from" ["town", "prices", "way"] (sp_steps_from K)) : Callee P w K mg base 7 "rising_from" ["town", "prices"] (sp_rising_from K) := by
  obtain ⟨f_steps_from, fd_steps_from, g_steps_from, m_steps_from, k_steps_from, b_steps_from⟩ := C_steps_from.ex
  obtain ⟨tB, mBELOW⟩ := D.BELOW_
  refine callee_mk D.f_rising_from sc_rising_from (fun _ _ _ _ _ _ us hl => match us, hl with | [_, _], _ => rfl) (fun vs H Q E h => ?_) (fun f cdv A outer s H vs Q E hr h => ?_)
  · obtain ⟨t, s, wv, wa, m, wants, b, ps, rfl, _⟩ := h; rfl
  · obtain ⟨t, s, wv, wa, m, wants, b, ps, rfl, ht, hg, hn, hb, hu, q⟩ := h
    refine ⟨_, (pss_one (ps_ret (pe_call g_steps_from (hr.mono (by decide)) (by rfl) m_steps_from k_steps_from b_steps_from .nil pass0 (pa_cons (pv 0) (pa_cons (pv 1) (pa_cons (pe_glob (v := .int 1) (by rfl) mBELOW ⟨_, rfl⟩) pa_nil)))))), ?_⟩
    refine ⟨_, rfl, _, rfl, t, s, wv, wa, m, wants, b, ps, 1, _, _, _, rfl, ht, hg, hn, hb, ⟨hu.len, .inl ⟨rfl, fun t ht => ?_⟩⟩, goes_rise hg, hu, q⟩
    have := hu.le t ht
    rw [K98.lowL_at ht] at this
    exact this
def sp_falling_from (K : PySem.W.Frag) : Sp := fun vs H Q _ => ∃ (t s wv : Addr) (wa : List Addr) (m : Nat) (wants : List (List Int)) (b : Addr) (ps : List Int), vs = [.ref t, .ref b] ∧ Town K H t s wv wa m wants ∧ GoodTown m wants ∧ wants.length ≤ 100 ∧
  SqT K H b (iv ps) ∧ K98.Over m wants ps ∧ (∀ t, t < m → pf ps t ≤ 80) ∧ ∀ H' p r pr, Same H H' → SqT K H' p [.ref r, .ref pr] → SqT K H' pr (iv (highL m wants)) → Q (.ref p) H'
theorem sc_falling_from : FnScope ["town", "prices"] ["town", "prices"] (defScope (top 50)) := ⟨rfl, rfl, rfl, by decide +kernel, rfl, by decide +kernel, by decide +kernel⟩
theorem ok_falling_from (D : Defs K mg) (C_steps_from : Callee P w K mg base 6 "steps_from" ["town", "prices", "way"] (sp_steps_from K)) : Callee P w K mg base 7 "falling_from" ["town", "prices"] (sp_falling_from K) := by
  obtain ⟨f_steps_from, fd_steps_from, g_steps_from, m_steps_from, k_steps_from, b_steps_from⟩ := C_steps_from.ex
  obtain ⟨tA, mABOVE⟩ := D.ABOVE_
  refine callee_mk D.f_falling_from sc_falling_from (fun _ _ _ _ _ _ us hl => match us, hl with | [_, _], _ => rfl) (fun vs H Q E h => ?_) (fun f cdv A outer s H vs Q E hr h => ?_)
  · obtain ⟨t, s, wv, wa, m, wants, b, ps, rfl, _⟩ := h; rfl
  · obtain ⟨t, s, wv, wa, m, wants, b, ps, rfl, ht, hg, hn, hb, hu, h80, q⟩ := h
    refine ⟨_, (pss_one (ps_ret (pe_call g_steps_from (hr.mono (by decide)) (by rfl) m_steps_from k_steps_from b_steps_from .nil pass0 (pa_cons (pv 0) (pa_cons (pv 1) (pa_cons (pe_glob (v := .int (-1)) (by rfl) mABOVE ⟨_, rfl⟩) pa_nil)))))), ?_⟩
    refine ⟨_, rfl, _, rfl, t, s, wv, wa, m, wants, b, ps, -1, _, _, _, rfl, ht, hg, hn, hb, ⟨hu.len, .inr ⟨rfl, fun t ht => ?_⟩⟩, goes_fall hg, ⟨hu, h80⟩, q⟩
    have := hu.ge t ht
    rw [K98.highL_at ht] at this
    exact this
end
end K98W
set_option Elab.async false
set_option linter.all false
set_option maxRecDepth 100000
set_option maxHeartbeats 4000000
/-! K98 walk H: the law's own drawing. -/
namespace K98W
open PySem PySem.Spec PyProof.Rows L2 K98R
open K98 (tabAt)

/-- all but two places stay -/
def Off (p l : Addr) (H H' : Hp) : Prop := ∀ b x, H b = some x → b ≠ p → b ≠ l → H' b = some x
theorem Off.refl {p l : Addr} (H : Hp) : Off p l H H := fun _ _ e _ _ => e
theorem Off.trans {p l : Addr} {H H' H'' : Hp} (a : Off p l H H') (b : Off p l H' H'') : Off p l H H'' := fun c x e n1 n2 => b c x (a c x e n1 n2) n1 n2
theorem Off.same {p l : Addr} {H H' H'' : Hp} (a : Off p l H H') (b : Same H' H'') : Off p l H H'' := fun c x e n1 n2 => b c x (a c x e n1 n2)
theorem Off.of {p l : Addr} {H H' : Hp} (b : Same H H') : Off p l H H' := fun c x e _ _ => b c x e
theorem Off.put1 {p l : Addr} {H H' : Hp} (a : Off p l H H') {o : HO} : Off p l H (upd H' p o) := fun c x e n1 n2 => by
  rw [upd_ne n1]; exact a c x e n1 n2
theorem Off.put2 {p l : Addr} {H H' : Hp} (a : Off p l H H') {o : HO} : Off p l H (upd H' l o) := fun c x e n1 n2 => by
  rw [upd_ne n2]; exact a c x e n1 n2
abbrev potL (l : Addr) (k st tn : Int) : List V := [.ref l, .int k, .int st, .int tn]
/-- the pot -/
structure Pot (H : Hp) (p l : Addr) : Prop where
  ex : ∃ (cells : List Int) (k st tn : Int), H p = some (.lst (potL l k st tn)) ∧ H l = some (.lst (iv cells)) ∧ 0 ≤ k ∧ cells.length ≤ 100
theorem pot_ne {H : Hp} {p l : Addr} {cells : List Int} {k st tn : Int} (h1 : H p = some (.lst (potL l k st tn))) (h2 : H l = some (.lst (iv cells))) : p ≠ l := fun e => by
  rw [e, h2] at h1
  have h3 := HO.lst.inj (Option.some.inj h1)
  cases cells with
  | nil => cases h3
  | cons a b => cases h3

section
variable {P : Program} {w : World} {K : PySem.W.Frag} {mg : Str → Option Value} {base : Heap}
def sp_l_stirred (K : PySem.W.Frag) : Sp := fun vs H Q _ => ∃ n t : Int, vs = [.int n, .int t] ∧ ∀ r : Int, 0 ≤ r → Q (.int r) H
theorem sc_l_stirred : FnScope ["_law_number", "_law_turn", "_law_once"] ["_law_number", "_law_turn"] (defScope (top 52)) := ⟨rfl, rfl, rfl, by decide +kernel, rfl, by decide +kernel, by decide +kernel⟩
theorem ok_l_stirred (D : Defs K mg) : Callee P w K mg base 1 "_law_stirred" ["_law_number", "_law_turn"] (sp_l_stirred K) := by
  refine callee_mk D.f_l_stirred sc_l_stirred (fun _ _ _ _ _ _ us hl => match us, hl with | [_, _], _ => rfl) (fun vs H Q E h => ?_) (fun f cdv A outer s H vs Q E hr h => ?_)
  · obtain ⟨n, t, rfl, _⟩ := h; rfl
  · obtain ⟨n, t, rfl, q⟩ := h
    refine ⟨_, (pss_cons (ps_set (i := 2) sc_l_stirred.nd rfl (.inl rfl) (pe_op op_mod (pe_op op_mul (pe_op op_add (pe_op op_add (pe_op op_mod (pv 0) pe_int) (pe_op op_mul pe_int (pv 1))) pe_int) pe_int) pe_int)) (pss_one (ps_ret (pe_op op_mod (pe_op op_mul (pe_op op_add (pe_op op_add (pe_op op_mul (pv 2) (pv 2)) (pe_op op_mul pe_int (pv 1))) (pe_op op_fdiv (pv 2) pe_int)) pe_int) pe_int)))), ?_⟩
    have pos : ∀ x : Int, 0 < x → 0 < x := fun _ h => h
    have h1 : ∀ x : Int, -(2 ^ 64) < x % 2147483647 ∧ x % 2147483647 < 2 ^ 64 := fun x => by
      have h1 := Int.emod_nonneg x (b := 2147483647) (by decide)
      have h2 := Int.emod_lt_of_pos x (b := 2147483647) (by decide)
      omega
    refine ⟨_, rfl, _, _, rfl, rfl, show (0 : Int) < 2147483647 by decide, ?_⟩
    refine ⟨_, rfl, _, _, rfl, rfl, .inl (show -(2 ^ 64) < (5309 : Int) ∧ (5309 : Int) < 2 ^ 64 by decide), ?_⟩
    refine ⟨_, _, rfl, rfl, _, _, rfl, rfl, _, _, rfl, rfl, .inr (show -(2 ^ 64) < (48271 : Int) ∧ (48271 : Int) < 2 ^ 64 by decide), _, _, rfl, rfl, show (0 : Int) < 2147483647 by decide, ?_⟩
    refine ⟨_, rfl, _, rfl, _, _, rfl, rfl, .inl (h1 _), ?_⟩
    refine ⟨_, rfl, _, _, rfl, rfl, .inl (show -(2 ^ 64) < (41 : Int) ∧ (41 : Int) < 2 ^ 64 by decide), ?_⟩
    refine ⟨_, _, rfl, rfl, _, rfl, _, _, rfl, rfl, ⟨show (0 : Int) < 13 by decide, show (13 : Int) < 1073741824 by decide⟩, ?_⟩
    refine ⟨_, _, rfl, rfl, _, _, rfl, rfl, .inr (show -(2 ^ 64) < (69621 : Int) ∧ (69621 : Int) < 2 ^ 64 by decide), _, _, rfl, rfl, show (0 : Int) < 2147483629 by decide, ?_⟩
    exact q _ (Int.emod_nonneg _ (by decide))
def sp_l_pot (K : PySem.W.Frag) : Sp := fun vs H Q _ => ∃ (a : Addr) (cells : List Int), vs = [.ref a] ∧ (SqL K H a (iv cells) ∨ SqT K H a (iv cells)) ∧ cells.length ≤ 100 ∧ ∀ H' p l, Same H H' → Pot H' p l → H p = none → H l = none → Q (.ref p) H'
theorem sc_l_pot : FnScope ["_law_script"] ["_law_script"] (defScope (top 53)) := ⟨rfl, rfl, rfl, by decide +kernel, rfl, by decide +kernel, by decide +kernel⟩
theorem ok_l_pot (D : Defs K mg) : Callee P w K mg base 1 "_law_pot" ["_law_script"] (sp_l_pot K) := by
  refine callee_mk D.f_l_pot sc_l_pot (fun _ _ _ _ _ _ us hl => match us, hl with | [_], _ => rfl) (fun vs H Q E h => ?_) (fun f cdv A outer s H vs Q E hr h => ?_)
  · obtain ⟨a, cells, rfl, _⟩ := h; rfl
  · obtain ⟨a, cells, rfl, ha, hn, q⟩ := h
    refine ⟨_, (pss_one (ps_ret (pe_lst (pa_cons (pe_callTy call_list_of (by rfl) D.list_ bt_list (pa_cons (pv 0) pa_nil)) (pa_cons pe_int (pa_cons pe_int (pa_cons pe_int pa_nil))))))), ?_⟩
    refine ⟨_, rfl, a, _, rfl, ha, fun l nl => ?_⟩
    refine ⟨by show 4 ≤ sizeLine; decide, fun p np => ?_⟩
    have hpl : l ≠ p := fun e => by rw [← e, upd_same] at np; cases np
    have npH : H p = none := (same_new nl).free np
    refine q _ p l ((same_new nl).trans (same_new np)) ⟨cells, 0, 7, 0, upd_same, ?_, Int.le_refl _, hn⟩ npH nl
    rw [upd_ne hpl, upd_same]
def sp_l_draw (K : PySem.W.Frag) : Sp := fun vs H Q _ => ∃ (p l : Addr) (many : Int), vs = [.ref p, .int many] ∧ Pot H p l ∧ 1 ≤ many ∧ many ≤ 1000 ∧ ∀ H' (d : Nat), Off p l H H' → Pot H' p l → (d : Int) < many → Q (.int (d : Nat)) H'
theorem sc_l_draw : FnScope ["_law_pot_here", "_law_many", "_law_cell", "_law_digit"] ["_law_pot_here", "_law_many"] (defScope (top 54)) := ⟨rfl, rfl, rfl, by decide +kernel, rfl, by decide +kernel, by decide +kernel⟩
theorem ok_l_draw (D : Defs K mg) (C_l_stirred : Callee P w K mg base 1 "_law_stirred" ["_law_number", "_law_turn"] (sp_l_stirred K)) : Callee P w K mg base 2 "_law_draw" ["_law_pot_here", "_law_many"] (sp_l_draw K) := by
  obtain ⟨f_l_stirred, fd_l_stirred, g_l_stirred, m_l_stirred, k_l_stirred, b_l_stirred⟩ := C_l_stirred.ex
  refine callee_mk D.f_l_draw sc_l_draw (fun _ _ _ _ _ _ us hl => match us, hl with | [_, _], _ => rfl) (fun vs H Q E h => ?_) (fun f cdv A outer s H vs Q E hr h => ?_)
  · obtain ⟨p, l, many, rfl, _⟩ := h; rfl
  · obtain ⟨p, l, many, rfl, hp, h1, h2, q⟩ := h
    refine ⟨_, (pss_cons (ps_asg (pe_op op_add (pe_ix (ix_listK (K := K)) (pv 0) pe_int (fun _ _ => rfl)) pe_int) (pg_sub (pv 0) pe_int set_list)) (pss_cons (ps_if (PW.pt (pw_and (pt_cmpR op_eq (pe_ix (ix_listK (K := K)) (pv 0) pe_int (fun _ _ => rfl)) pe_int (nomark _)) (pw_and1 (pt_cmpR op_gt (pe_callB call_len_seq (by rfl) D.len_ bt_len (pa_cons (pe_ix (ix_listK (K := K)) (pv 0) pe_int (fun _ _ => rfl)) pa_nil)) pe_int (nomark _))))) (pss_cons (ps_set (i := 2) sc_l_draw.nd rfl (.inl rfl) (pe_bm PySem.F.plainAttrs_list PySem.F.slot_list_pop PySem.F.type_list_pop mt_popAt (pe_ix (ix_listK (K := K)) (pv 0) pe_int (fun _ _ => rfl)) (pa_cons pe_int pa_nil))) (pss_cons (ps_asg (pe_call g_l_stirred (hr.mono (by decide)) (by rfl) m_l_stirred k_l_stirred b_l_stirred .nil pass0 (pa_cons (pe_op op_add (pe_ix (ix_listK (K := K)) (pv 0) pe_int (fun _ _ => rfl)) (pv 2)) (pa_cons (pe_callB call_len_seq (by rfl) D.len_ bt_len (pa_cons (pe_ix (ix_listK (K := K)) (pv 0) pe_int (fun _ _ => rfl)) pa_nil)) pa_nil))) (pg_sub (pv 0) pe_int set_list)) (pss_one (ps_if (pt_cmpR op_ge (pe_callB call_abs (by rfl) D.abs_ bt_abs (pa_cons (pv 2) pa_nil)) (pe_op op_pow pe_int pe_int) (nomark _)) (pss_one (ps_asg (pe_op op_mod (pe_callB call_abs (by rfl) D.abs_ bt_abs (pa_cons (pv 2) pa_nil)) (pe_op op_pow pe_int pe_int)) (pg_sub (pv 0) pe_int set_list))) pss_nil)))) pss_nil) (pss_cons (ps_if (pt_cmpR op_gt (pe_ix (ix_listK (K := K)) (pv 0) pe_int (fun _ _ => rfl)) pe_int (nomark _)) (pss_cons (ps_set (i := 3) sc_l_draw.nd rfl (.inl rfl) (pe_op op_mod (pe_ix (ix_listK (K := K)) (pv 0) pe_int (fun _ _ => rfl)) (pv 1))) (pss_cons (ps_asg (pe_op op_fdiv (pe_ix (ix_listK (K := K)) (pv 0) pe_int (fun _ _ => rfl)) (pv 1)) (pg_sub (pv 0) pe_int set_list)) (pss_one (ps_ret (pv 3))))) pss_nil) (pss_one (ps_ret (pe_op op_mod (pe_op op_fdiv (pe_call g_l_stirred (hr.mono (by decide)) (by rfl) m_l_stirred k_l_stirred b_l_stirred .nil pass0 (pa_cons (pe_ix (ix_listK (K := K)) (pv 0) pe_int (fun _ _ => rfl)) (pa_cons (pe_ix (ix_listK (K := K)) (pv 0) pe_int (fun _ _ => rfl)) pa_nil))) pe_int) (pv 1))))))), ?_⟩
    obtain ⟨cells, k, st, tn, ep, el, hk, hc⟩ := hp.ex
    have hne := pot_ne ep el
    have rest : ∀ c H9, Off p l H H9 → Pot H9 p l → tSeq (tIfS (tTest (tOp (rI0 fun i j => V.bl (decide (j < i))) (tOp (rIxL K) (tVar 0) (tC (.int 1))) (tC (.int 0)))) (tSeq (tAsg (tOp (rI (fun x j => 0 < j) fun i j => .int (i % j)) (tOp (rIxL K) (tVar 0) (tC (.int 1))) (tVar 1)) (gName 3)) (tSeq (tAsg (tOp (rI CDiv fun i j => .int (i / j)) (tOp (rIxL K) (tVar 0) (tC (.int 1))) (tVar 1)) (gSub (tVar 0) (tC (.int 1)) rSetL)) (tRet (tVar 3)))) tNext) (tRet (tOp (rI (fun x j => 0 < j) fun i j => .int (i % j)) (tOp (rI CDiv fun i j => .int (i / j)) (tCall (sp_l_stirred K) [] E0 (tCons (tOp (rIxL K) (tVar 0) (tC (.int 2))) (tCons (tOp (rIxL K) (tVar 0) (tC (.int 3))) tNil))) (tC (.int 64))) (tVar 1))) { nx := fun _ H' => Q .non H', rt := Q } [some (.ref p), some (.int many), c, none] H9 := fun c H9 off hp9 => by
      obtain ⟨cells, k, st, tn, ep, el, hk, hc⟩ := hp9.ex
      refine ⟨_, rfl, p, _, _, _, rfl, rfl, SqL.of ep, rfl, _, _, rfl, rfl, _, rfl, ?_⟩
      refine ite2 (fun hc0 => ?_) (fun hc0 => ?_)
      · refine ⟨_, rfl, p, _, _, _, rfl, rfl, SqL.of ep, rfl, _, rfl, _, _, rfl, rfl, (by omega : (0 : Int) < many), ?_⟩
        refine ⟨_, rfl, p, _, _, _, rfl, rfl, SqL.of ep, rfl, _, rfl, _, _, rfl, rfl, ⟨by omega, by omega⟩, _, rfl, p, _, _, _, rfl, rfl, ep, rfl, ?_⟩
        have hm0 := Int.emod_nonneg k (b := many) (by omega)
        have hm1 := Int.emod_lt_of_pos k (b := many) (by omega)
        have := q (upd H9 p (.lst (potL l (k / many) st tn))) (k % many).toNat off.put1 ⟨cells, k / many, st, tn, upd_same, by rw [upd_ne hne.symm]; exact el, Int.ediv_nonneg hk (by omega), hc⟩ (by omega)
        rw [Int.toNat_of_nonneg hm0] at this
        exact ⟨_, rfl, this⟩
      · refine ⟨_, rfl, p, _, _, _, rfl, rfl, SqL.of ep, rfl, _, rfl, p, _, _, _, rfl, rfl, SqL.of ep, rfl, st, tn, rfl, fun r hr => ?_⟩
        refine ⟨_, _, rfl, rfl, ⟨show (0 : Int) < 64 by decide, show (64 : Int) < 1073741824 by decide⟩, _, rfl, _, _, rfl, rfl, (by omega : (0 : Int) < many), ?_⟩
        have hm0 := Int.emod_nonneg (r / 64) (b := many) (by omega)
        have hm1 := Int.emod_lt_of_pos (r / 64) (b := many) (by omega)
        have := q H9 (r / 64 % many).toNat off hp9 (by omega)
        rw [Int.toNat_of_nonneg hm0] at this
        exact this
    refine ⟨_, rfl, p, _, _, _, rfl, rfl, SqL.of ep, rfl, _, _, rfl, rfl, _, rfl, p, _, _, _, rfl, rfl, ep, rfl, ?_⟩
    have e1 : (upd H p (.lst (potL l k st (tn + 1)))) p = some (.lst (potL l k st (tn + 1))) := upd_same
    have e2 : (upd H p (.lst (potL l k st (tn + 1)))) l = some (.lst (iv cells)) := by rw [upd_ne hne.symm]; exact el
    refine ⟨_, rfl, p, _, _, _, rfl, rfl, SqL.of e1, rfl, rfl, _, rfl, ?_⟩
    refine ite2 (fun hc0 => ?_) (fun hc0 => ?_)
    · refine ⟨_, rfl, p, _, _, _, rfl, rfl, SqL.of e1, rfl, l, _, rfl, .inl (SqL.of e2), _, _, rfl, rfl, _, rfl, ?_⟩
      refine ite2 (fun hc1 => ?_) (fun hc1 => ?_)
      · obtain ⟨x, cs, rfl⟩ : ∃ x cs, cells = x :: cs := by
          cases cells with
          | nil => exact absurd hc1 (by decide)
          | cons x cs => exact ⟨x, cs, rfl⟩
        have es : seqIndex? 0 (iv (x :: cs)).length = some 0 := (ixN_seq (by
          unfold ixN
          rw [if_pos (Int.le_refl 0), if_pos (by rw [iv_len, List.length_cons]; omega)]
          rfl)).1
        refine ⟨_, rfl, p, _, _, _, rfl, rfl, SqL.of e1, rfl, .inl ⟨rfl, _, SqL.of e2⟩, l, _, 0, 0, .int x, rfl, rfl, e2, by decide, by decide, es, rfl, ?_⟩
        have g1 : (upd (upd H p (.lst (potL l k st (tn + 1)))) l (.lst (iv cs))) p = some (.lst (potL l k st (tn + 1))) := by rw [upd_ne hne]; exact e1
        have g2 : (upd (upd H p (.lst (potL l k st (tn + 1)))) l (.lst (iv cs))) l = some (.lst (iv cs)) := upd_same
        have hc' : cs.length ≤ 100 := by
          rw [List.length_cons] at hc; omega
        refine ⟨_, rfl, p, _, _, _, rfl, rfl, SqL.of g1, rfl, _, rfl, _, _, rfl, rfl, _, rfl, p, _, _, _, rfl, rfl, SqL.of g1, rfl, l, _, rfl, .inl (SqL.of g2), _, _, rfl, fun r hr => ?_⟩
        refine ⟨_, rfl, p, _, _, _, rfl, rfl, g1, rfl, ?_⟩
        have off3 : Off p l H (upd (upd (upd H p (.lst (potL l k st (tn + 1)))) l (.lst (iv cs))) p (.lst (potL l k r (tn + 1)))) := (Off.refl H).put1.put2.put1
        have k1 : (upd (upd (upd H p (.lst (potL l k st (tn + 1)))) l (.lst (iv cs))) p (.lst (potL l k r (tn + 1)))) p = some (.lst (potL l k r (tn + 1))) := upd_same
        have k2 : (upd (upd (upd H p (.lst (potL l k st (tn + 1)))) l (.lst (iv cs))) p (.lst (potL l k r (tn + 1)))) l = some (.lst (iv cs)) := by rw [upd_ne hne.symm]; exact g2
        have c18 : CPow 10 18 := ⟨by decide, by decide, by decide⟩
        have c60 : CPow 10 60 := ⟨by decide, by decide, by decide⟩
        refine ⟨_, rfl, x, rfl, _, _, rfl, rfl, c18, _, _, rfl, rfl, _, rfl, ?_⟩
        refine ite2 (fun hc2 => ?_) (fun hc2 => ?_)
        · have p60 : (0 : Int) < 10 ^ (60 : Int).toNat := Int.pow_pos (by decide)
          refine ⟨_, rfl, x, rfl, _, _, rfl, rfl, c60, _, _, rfl, rfl, p60, _, rfl, p, _, _, _, rfl, rfl, k1, rfl, ?_⟩
          exact rest _ _ off3.put1 ⟨cs, _, r, tn + 1, upd_same, by rw [upd_ne hne.symm]; exact k2, Int.emod_nonneg _ (Int.ne_of_gt p60), hc'⟩
        · exact rest _ _ off3 ⟨cs, k, r, tn + 1, k1, k2, hk, hc'⟩
      · exact rest _ _ (Off.refl H).put1 ⟨cells, k, st, tn + 1, e1, e2, hk, hc⟩
    · refine iteF ?_
      exact rest _ _ (Off.refl H).put1 ⟨cells, k, st, tn + 1, e1, e2, hk, hc⟩
end
end K98W
set_option Elab.async false
set_option linter.all false
set_option maxRecDepth 100000
set_option maxHeartbeats 4000000
/-! K98 walk I: the law's own tables. -/
namespace K98W
open PySem PySem.Spec PyProof.Rows L2 K98R
open K98 (tabAt pf costsF hereL SomeTab partsL joinedL maxL)

theorem cut_to (xs : List V) (k : Nat) : cutV xs none (some (k : Int)) = xs.take k := by
  unfold cutV
  rw [HT.sIx_nat, HT.sIx_none, Nat.sub_zero, List.drop_zero]
  by_cases h : k ≤ xs.length
  · rw [Nat.min_eq_left h]
  · rw [Nat.min_eq_right (by omega), List.take_of_length_le (Nat.le_refl _), List.take_of_length_le (by omega)]
theorem bit_mod (h t : Nat) : decide (V.int ((h : Int) / ((2 ^ t : Nat) : Int) % 2) = V.int 1) = h.testBit t := by
  rw [← Int.natCast_ediv, show (2 : Int) = ((2 : Nat) : Int) from rfl, ← Int.natCast_emod, Nat.testBit_eq_decide_div_mod_eq]
  by_cases q : h / 2 ^ t % 2 = 1
  · rw [q, decide_eq_true rfl]; rfl
  · have : h / 2 ^ t % 2 = 0 := by omega
    rw [this]; rfl
def pows (m : Nat) : List Nat := (List.range m).map fun t => 2 ^ t
theorem pows_len (m : Nat) : (pows m).length = m := by
  unfold pows
  rw [List.length_map, List.length_range]
theorem pows_at {m i : Nat} {x : V} (h : (nv (pows m))[i]? = some x) : i < m ∧ x = .int ((2 ^ i : Nat) : Int) := by
  obtain ⟨t, ht, rfl⟩ := nv_get h
  have hi := (List.getElem?_eq_some_iff.mp ht).1
  rw [pows_len] at hi
  unfold pows at ht
  rw [List.getElem?_map, List.getElem?_range hi] at ht
  have := Option.some.inj ht
  exact ⟨hi, by rw [← this]⟩
theorem bits_cut : ∀ m : Nat, m ≤ 5 → cutV [.int 1, .int 2, .int 4, .int 8, .int 16] none (some (m : Int)) = nv (pows m)
  | 0, _ => by rw [cut_to]; rfl
  | 1, _ => by rw [cut_to]; rfl
  | 2, _ => by rw [cut_to]; rfl
  | 3, _ => by rw [cut_to]; rfl
  | 4, _ => by rw [cut_to]; rfl
  | 5, _ => by rw [cut_to]; rfl
  | n + 6, h => absurd h (by omega)
theorem walk_zipTT {K : PySem.W.Frag} {a b : Addr} {xs ys : List V} (hl : ys.length = xs.length) : Walk (RZ.ItzT K a b) xs.length (fun H => SqT K H a xs ∧ SqT K H b ys) (YPair (fun i => xs[i]?) (fun i => ys[i]?)) := by
  refine ⟨fun i _ hi q => ⟨xs, ys, xs[i], ys[i]'(by omega), q.1, q.2, by simp [hi], by simp [show i < ys.length by omega]⟩, fun _ q => ⟨xs, ys, q.1, q.2, .inl (Nat.le_refl _)⟩, fun i H v H' _ q y => ?_⟩
  obtain ⟨T, x, z, h1, h2, h3, h4, h5⟩ := y
  exact ⟨T, x, z, h1, h2, h3, h4 xs q.1, h5 ys q.2⟩

section
variable {P : Program} {w : World} {K : PySem.W.Frag} {mg : Str → Option Value} {base : Heap}
def sp_l_costs (K : PySem.W.Frag) : Sp := fun vs H Q _ => ∃ (a : Addr) (ws : List Int), vs = [.ref a] ∧ (SqL K H a (iv ws) ∨ SqT K H a (iv ws)) ∧ ws.length ≤ 6 ∧ ∀ H' p, Same H H' → H p = none → H' p = some (.lst (iv (costsF ws.length (pf ws)))) → Q (.ref p) H'
theorem sc_l_costs : FnScope ["_law_prices", "_law_costs_here", "_law_price", "_law_cost"] ["_law_prices"] (defScope (top 55)) := ⟨rfl, rfl, rfl, by decide +kernel, rfl, by decide +kernel, by decide +kernel⟩
theorem ok_l_costs (D : Defs K mg) : Callee P w K mg base 1 "_law_costs" ["_law_prices"] (sp_l_costs K) := by
  refine callee_mk D.f_l_costs sc_l_costs (fun _ _ _ _ _ _ us hl => match us, hl with | [_], _ => rfl) (fun vs H Q E h => ?_) (fun f cdv A outer s H vs Q E hr h => ?_)
  · obtain ⟨a, ws, rfl, _⟩ := h; rfl
  · obtain ⟨a, ws, rfl, ha, hm, q⟩ := h
    refine ⟨_, (pss_cons (ps_set (i := 1) sc_l_costs.nd rfl (.inl rfl) (pe_lst (pa_cons pe_int pa_nil))) (pss_cons (ps_for PassesOwn.never rfl (pi_any (K := K) (pv 0)) (pg_name (i := 2) sc_l_costs.nd rfl (.inr rfl)) (pss_one (ps_set (i := 1) sc_l_costs.nd rfl (.inl rfl) (pe_op op_cat (pv 1) (pe_lc (own := [("_law_cost", 3)]) (g := (gName 3)) (tt := tYes) rfl sc_l_costs.nd (pi_listK (K := K) (pv 1)) (blkOk_by (own := [("_law_cost", 3)]) (N := ["_law_prices", "_law_costs_here", "_law_price", "_law_cost"]) (sc := defScope (top 55)) (by decide +kernel)) (fun _ _ _ _ _ => (pg_name (i := 3) sc_l_costs.nd rfl (.inl rfl))) (fun _ _ _ _ _ => pts_nil) (fun _ _ _ _ _ => (pe_op op_add (pv 3) (pv 2)))))))) (pss_one (ps_ret (pv 1))))), ?_⟩
    have hpow : ∀ j, j ≤ ws.length → 2 ^ j ≤ 64 := fun j hj => Nat.le_trans (Nat.pow_le_pow_right (n := 2) (by decide) (show j ≤ 6 by omega)) (by decide)
    refine ⟨by show 1 ≤ sizeLine; decide, fun c0 nc0 => ?_⟩
    have s0 : Same H (upd H c0 (.lst [.int 0])) := same_new nc0
    refine ⟨_, rfl, a, _, rfl, ha.elim (fun z => .inl (s0.seq z)) (fun z => .inr (s0.tup z)), fun J hJ => ?_⟩
    refine for_it hJ (fun i σ H' => ∃ c d, σ = [some (.ref a), some (.ref c), d, none] ∧ Same (upd H c0 (.lst [.int 0])) H' ∧ H c = none ∧ H' c = some (.lst (iv (costsF i (pf ws))))) ⟨c0, _, rfl, Same.refl _, nc0, upd_same⟩
      (fun _ σ H' _ ⟨_, _, _, s, _⟩ => s) (fun i x σ H1 H2 hi p hy => ?_) (fun σ H1 p => ?_)
    · obtain ⟨c, d, rfl, s1, nc, ec⟩ := p
      obtain ⟨rfl, ex⟩ := hy
      obtain ⟨hip, rfl⟩ := iv_get? ex
      have hlen := K98.costsF_len i (pf ws)
      have h64 := hpow i (by omega)
      refine ⟨_, rfl, _, rfl, c, rfl, ⟨_, SqL.of ec⟩, fun L hL => ?_⟩
      refine lc_mp (walk_list (K := K) (a := c) (xs := iv (costsF i (pf ws)))) (fun k => .int (tabAt (costsF i (pf ws)) k + tabAt ws i)) hL (le_line (by rw [iv_len, hlen]; omega)) (fun H' s => s.seq (SqL.of ec)) (fun k x H3 H4 R hk s3 hy hR => ?_) (fun H3 s3 e3 => ?_)
      · obtain ⟨rfl, ey⟩ := hy
        obtain ⟨hkc, rfl⟩ := iv_get? ey
        exact ⟨rfl, _, rfl, _, rfl, _, _, rfl, rfl, hR _ (Same.refl _)⟩
      · rw [iv_len, range_map_f _ fun y => y + tabAt ws i] at e3
        refine ⟨c, L, _, _, rfl, rfl, s3 _ _ ec, e3, ?_, fun p np => ?_⟩
        · rw [iv_len, iv_len, List.length_map, hlen]
          exact le_line (by omega)
        · refine ⟨p, _, rfl, (s1.trans s3).trans (same_new np), s0.free ((s1.trans s3).free np), ?_⟩
          rw [upd_same]
          show some (HO.lst (iv (costsF i (pf ws)) ++ iv ((costsF i (pf ws)).map fun y => y + tabAt ws i))) = some (HO.lst (iv (costsF i (pf ws) ++ (costsF i (pf ws)).map fun c => c + pf ws i)))
          rw [iv_app]; rfl
    · obtain ⟨c, d, rfl, s1, nc, ec⟩ := p
      rw [iv_len] at ec
      exact ⟨_, rfl, q _ c (s0.trans s1) nc ec⟩
def sp_l_bits (K : PySem.W.Frag) : Sp := fun vs H Q _ => ∃ m : Nat, vs = [.int m] ∧ m ≤ 5 ∧ ∀ H' p, Same H H' → H p = none → H' p = some (.lst (nv (pows m))) → Q (.ref p) H'
theorem sc_l_bits : FnScope ["_law_many"] ["_law_many"] (defScope (top 56)) := ⟨rfl, rfl, rfl, by decide +kernel, rfl, by decide +kernel, by decide +kernel⟩
theorem ok_l_bits (D : Defs K mg) : Callee P w K mg base 1 "_law_bits" ["_law_many"] (sp_l_bits K) := by
  refine callee_mk D.f_l_bits sc_l_bits (fun _ _ _ _ _ _ us hl => match us, hl with | [_], _ => rfl) (fun vs H Q E h => ?_) (fun f cdv A outer s H vs Q E hr h => ?_)
  · obtain ⟨m, rfl, _⟩ := h; rfl
  · obtain ⟨m, rfl, hm, q⟩ := h
    refine ⟨_, (pss_one (ps_ret (pe_slice sl_list (pe_lst (pa_cons pe_int (pa_cons pe_int (pa_cons pe_int (pa_cons pe_int (pa_cons pe_int pa_nil)))))) po_none (po_some (pv 0))))), ?_⟩
    refine ⟨by show 5 ≤ sizeLine; decide, fun l nl => ?_⟩
    refine ⟨_, rfl, _, rfl, l, _, rfl, SqL.new, fun p np => ?_⟩
    have s1 : Same H (upd H l (.lst [.int 1, .int 2, .int 4, .int 8, .int 16])) := same_new nl
    refine q _ p (s1.trans (same_new np)) (s1.free np) ?_
    rw [upd_same, bits_cut m hm]
def sp_l_no_less (K : PySem.W.Frag) : Sp := fun vs H Q _ => ∃ (a b : Addr) (xs ys : List Int), vs = [.ref a, .ref b] ∧ SqT K H a (iv xs) ∧ SqT K H b (iv ys) ∧ ys.length = xs.length ∧ xs.length ≤ 5 ∧ (∀ t, t < xs.length → pf xs t ≤ pf ys t) ∧ ∀ H', Same H H' → Q (.bl true) H'
theorem sc_l_no_less : FnScope ["_law_some_here", "_law_others", "_law_one", "_law_other"] ["_law_some_here", "_law_others"] (defScope (top 61)) := ⟨rfl, rfl, rfl, by decide +kernel, rfl, by decide +kernel, by decide +kernel⟩
theorem ok_l_no_less (D : Defs K mg) : Callee P w K mg base 1 "_law_no_less" ["_law_some_here", "_law_others"] (sp_l_no_less K) := by
  refine callee_mk D.f_l_no_less sc_l_no_less (fun _ _ _ _ _ _ us hl => match us, hl with | [_, _], _ => rfl) (fun vs H Q E h => ?_) (fun f cdv A outer s H vs Q E hr h => ?_)
  · obtain ⟨a, b, xs, ys, rfl, _⟩ := h; rfl
  · obtain ⟨a, b, xs, ys, rfl, ha, hb, hl, hm, hle, q⟩ := h
    refine ⟨_, (pss_one (ps_ret (pe_callB (cr_all rfl) (by rfl) D.all_ bt_all (pa_cons (pe_lc (own := [("_law_one", 2), ("_law_other", 3)]) (g := (gTup K 2 (gCons (gName 2) (gCons (gName 3) gNil)))) (tt := tYes) rfl sc_l_no_less.nd (RZ.pi_zipA (by rfl) D.zip_ (pa_cons (pv 0) (pa_cons (pv 1) pa_nil))) (blkOk_by (own := [("_law_one", 2), ("_law_other", 3)]) (N := ["_law_some_here", "_law_others", "_law_one", "_law_other"]) (sc := defScope (top 61)) (by decide +kernel)) (fun _ _ _ _ _ => (pg_tup rfl (pgs_cons (pg_name (i := 2) sc_l_no_less.nd rfl (.inl rfl)) (pgs_cons (pg_name (i := 3) sc_l_no_less.nd rfl (.inl rfl)) pgs_nil)))) (fun _ _ _ _ _ => pts_nil) (fun _ _ _ _ _ => (pe_cmpR op_le (pv 2) (pv 3) (nomark _)))) pa_nil)))), ?_⟩
    refine ⟨_, rfl, _, rfl, a, b, _, _, rfl, .inr ⟨ha, hb, fun L hL => ?_⟩⟩
    refine lc_mp (walk_zipTT (K := K) (a := a) (b := b) (xs := iv xs) (ys := iv ys) (by rw [iv_len, iv_len, hl])) (fun _ => .bl true) hL (le_line (by rw [iv_len]; omega)) (fun H' s => ⟨s.tup ha, s.tup hb⟩) (fun k x H3 H4 R hk s3 hy hR => ?_) (fun H3 s3 e3 => ?_)
    · obtain ⟨T, x1, x2, rfl, nT, rfl, e1, e2⟩ := hy
      obtain ⟨hk1, rfl⟩ := iv_get? e1
      obtain ⟨_, rfl⟩ := iv_get? e2
      refine ⟨T, _, rfl, SqT.new, rfl, _, _, rfl, _, _, rfl, rfl, rfl, _, rfl, _, rfl, _, _, rfl, rfl, ?_⟩
      have e0 : decide (tabAt xs k ≤ tabAt ys k) = true := decide_eq_true (hle k hk1)
      show R (.bl (decide (tabAt xs k ≤ tabAt ys k))) _
      rw [e0]
      exact hR _ (same_new nT)
    · have e : (List.range (iv xs).length).map (fun _ => V.bl true) = (List.replicate xs.length true).map V.bl := by
        rw [iv_len, List.map_replicate, List.map_const', List.length_range]
      rw [e] at e3
      refine ⟨L, _, rfl, SqL.of e3, ?_⟩
      rw [show (List.replicate xs.length true).all id = true by simp]
      exact q _ s3
def sp_l_some (K : PySem.W.Frag) : Sp := fun vs H Q _ => ∃ (a : Addr) (ws : List Int) (k : Nat), vs = [.ref a, .int k] ∧ SqL K H a (iv ws) ∧ ws.length ≤ 5 ∧ ∀ H' p tab, Same H H' → H p = none → H' p = some (.tup (iv tab)) → SomeTab ws.length (pf ws) k tab → Q (.ref p) H'
theorem sc_l_some : FnScope ["_law_worths", "_law_many", "_law_table", "_law_heap", "_law_k", "_law_bit", "_law_here"] ["_law_worths", "_law_many"] (defScope (top 57)) := ⟨rfl, rfl, rfl, by decide +kernel, rfl, by decide +kernel, by decide +kernel⟩
theorem ok_l_some (D : Defs K mg) (C_l_costs : Callee P w K mg base 1 "_law_costs" ["_law_prices"] (sp_l_costs K)) (C_l_bits : Callee P w K mg base 1 "_law_bits" ["_law_many"] (sp_l_bits K)) : Callee P w K mg base 2 "_law_some" ["_law_worths", "_law_many"] (sp_l_some K) := by
  obtain ⟨f_l_costs, fd_l_costs, g_l_costs, m_l_costs, k_l_costs, b_l_costs⟩ := C_l_costs.ex
  obtain ⟨f_l_bits, fd_l_bits, g_l_bits, m_l_bits, k_l_bits, b_l_bits⟩ := C_l_bits.ex
  refine callee_mk D.f_l_some sc_l_some (fun _ _ _ _ _ _ us hl => match us, hl with | [_, _], _ => rfl) (fun vs H Q E h => ?_) (fun f cdv A outer s H vs Q E hr h => ?_)
  · obtain ⟨a, ws, k, rfl, _⟩ := h; rfl
  · obtain ⟨a, ws, k, rfl, ha, hm, q⟩ := h
    refine ⟨_, (pss_cons (ps_set (i := 2) sc_l_some.nd rfl (.inl rfl) (pe_lst pa_nil)) (pss_cons (ps_for PassesOwn.never rfl (pi_range1 (by rfl) D.range_ (pa_cons (pe_callB call_len_seq (by rfl) D.len_ bt_len (pa_cons (pe_call g_l_costs (hr.mono (by decide)) (by rfl) m_l_costs k_l_costs b_l_costs .nil pass0 (pa_cons (pv 0) pa_nil)) pa_nil)) pa_nil)) (pg_name (i := 3) sc_l_some.nd rfl (.inr rfl)) (pss_cons (ps_setLc (i := 6) (own := [("_law_k", 4), ("_law_bit", 5)]) (g := (gTup K 2 (gCons (gName 4) (gCons (gName 5) gNil)))) rfl sc_l_some.nd rfl rfl (sw_true rfl rfl rfl (by decide +kernel)) (pi_enum (by rfl) D.enumerate_ (pa_cons (pe_call g_l_bits (hr.mono (by decide)) (by rfl) m_l_bits k_l_bits b_l_bits .nil pass0 (pa_cons (pe_callB call_len_seq (by rfl) D.len_ bt_len (pa_cons (pv 0) pa_nil)) pa_nil)) pa_nil)) (blkOk_by (own := [("_law_k", 4), ("_law_bit", 5)]) (N := ["_law_worths", "_law_many", "_law_table", "_law_heap", "_law_k", "_law_bit", "_law_here"]) (sc := defScope (top 57)) (by decide +kernel)) (fun _ _ _ _ _ => (pg_tup rfl (pgs_cons (pg_name (i := 4) sc_l_some.nd rfl (.inl rfl)) (pgs_cons (pg_name (i := 5) sc_l_some.nd rfl (.inl rfl)) pgs_nil)))) (fun _ _ _ _ _ => (pts_one (pt_cmpR op_eq (pe_op op_mod (pe_op op_fdiv (pv 3) (pv 5)) pe_int) pe_int (nomark _)))) (fun _ _ _ _ _ => (pe_ix (ix_listK (K := K)) (pv 0) (pv 4) (fun _ _ => rfl)))) (pss_one (ps_expr (pe_bm PySem.F.plainAttrs_list PySem.F.slot_list_append PySem.F.type_list_append mt_append (pv 2) (pa_cons (pe_callB (cr_sum rfl) (by rfl) D.sum_ bt_sum (pa_cons (pe_slice sl_list (pe_revL (pe_callB cr_sorted (by rfl) D.sorted_ bt_sorted (pa_cons (pv 6) pa_nil))) po_none (po_some (pv 1))) pa_nil)) pa_nil)))))) (pss_one (ps_ret (pe_callTy call_tuple_of (by rfl) D.tuple_ bt_tuple (pa_cons (pv 2) pa_nil)))))), ?_⟩
    have h64 : 2 ^ ws.length ≤ 64 := Nat.le_trans (Nat.pow_le_pow_right (n := 2) (by decide) (show ws.length ≤ 6 by omega)) (by decide)
    have hcl := K98.costsF_len ws.length (pf ws)
    refine ⟨Nat.zero_le _, fun L hL => ?_⟩
    have s0 : Same H (upd H L (.lst [])) := same_new hL
    refine ⟨_, rfl, a, ws, rfl, .inl (s0.seq ha), by omega, fun H1 pc s1 npc ec => ?_⟩
    refine ⟨pc, _, rfl, .inl (SqL.of ec), _, rfl, by rw [iv_len]; omega, by rw [iv_len]; omega, ?_⟩
    rw [iv_len, hcl, Int.toNat_natCast]
    refine for_it (walk_range0 (n := 2 ^ ws.length)) (fun i σ H' => ∃ (d g : Option V) (tb : List Int), σ = [some (.ref a), some (.int k), some (.ref L), d, none, none, g] ∧ Same H H' ∧ H' L = some (.lst (iv tb)) ∧ tb.length = i ∧
        ∀ h, h < i → ∃ l : List Int, l.Perm (hereL ws.length (pf ws) h) ∧ l.Pairwise (fun x y => x ≤ y) ∧ tabAt tb h = (l.reverse.take k).sum) ⟨_, _, [], rfl, s0.trans s1, s1 _ _ upd_same, rfl, fun h hh => absurd hh (Nat.not_lt_zero _)⟩
      (fun _ _ _ _ _ => trivial) (fun h x σ H2 H3 hi p hy => ?_) (fun σ H2 p => ?_)
    · obtain ⟨d, g, tb, rfl, s2, eL, htl, htb⟩ := p
      obtain ⟨rfl, rfl⟩ := hy
      refine ⟨_, rfl, a, _, rfl, .inl (s2.seq ha), ws.length, ?_, hm, fun H4 pb s4 npb eb => ?_⟩
      · rw [iv_len]; rfl
      refine ⟨pb, _, rfl, SqL.of eb, fun M hM => ?_⟩
      refine lc_fm (walk_enum (K := K) (a := pb) (xs := nv (pows ws.length))) h.testBit (fun t => .int (tabAt ws t)) hM (le_line (by rw [nv_len, pows_len]; omega)) (fun H' s => s.seq (SqL.of eb)) (fun t x H5 H6 R R0 ht s5 hy hk hk0 => ?_) (fun H5 s5 e5 => ?_)
      · obtain ⟨T, x1, x2, rfl, nT, rfl, e1, e2⟩ := hy
        have ex1 := Option.some.inj e1
        subst ex1
        obtain ⟨htm, rfl⟩ := pows_at e2
        have hp2 : (0 : Int) < ((2 ^ t : Nat) : Int) := Int.natCast_pos.mpr (Nat.two_pow_pos t)
        have hp3 : ((2 ^ t : Nat) : Int) < 1073741824 := by
          have : 2 ^ t ≤ 2 ^ 5 := Nat.pow_le_pow_right (by decide) (by omega)
          omega
        refine ⟨T, _, rfl, SqT.new, rfl, _, _, rfl, _, _, rfl, rfl, rfl, ?_⟩
        refine ⟨_, rfl, _, rfl, _, _, rfl, rfl, ⟨hp2, hp3⟩, _, _, rfl, rfl, show (0 : Int) < 2 by decide, rfl, _, rfl, ?_⟩
        have s6 : Same H5 (upd H5 T (.tup [.int (t : Nat), .int ((2 ^ t : Nat) : Int)])) := same_new nT
        refine ite2 (fun hc => ?_) (fun hc => ?_)
        · have hb : h.testBit t = true := by rw [← bit_mod]; exact hc
          exact ⟨_, rfl, _, rfl, a, _, _, _, rfl, rfl, s6.seq (((s2.trans s4).trans s5).seq ha), at_iv rfl htm, hk hb _ s6⟩
        · have hb : h.testBit t = false := by
            rw [← bit_mod]
            exact Bool.eq_false_iff.mpr hc
          exact hk0 hb _ s6
      · have eiv : ((List.range (nv (pows ws.length)).length).filter h.testBit).map (fun t => V.int (tabAt ws t)) = iv (hereL ws.length (pf ws) h) := by
          rw [nv_len, pows_len, iv, K98.hereL, List.map_map]
          rfl
        rw [eiv] at e5
        have s35 := s4.trans s5
        have eL5 := s35 _ _ eL
        have hlh : (hereL ws.length (pf ws) h).length ≤ 5 := by
          unfold K98.hereL
          rw [List.length_map]
          have := List.length_filter_le h.testBit (List.range ws.length)
          rw [List.length_range] at this
          exact Nat.le_trans this hm
        refine ⟨_, rfl, .inl ⟨rfl, _, SqL.of eL5⟩, _, rfl, M, _, rfl, SqL.of e5, by omega, fun ns' p1 hperm hpw np1 => ?_⟩
        have t1 : Same H5 (upd H5 p1 (.lst (iv ns'))) := same_new np1
        refine ⟨p1, _, rfl, SqL.new, fun p2 np2 => ?_⟩
        have t2 := t1.trans (same_new (o := HO.lst (iv ns').reverse) np2)
        refine ⟨_, rfl, _, rfl, p2, _, rfl, SqL.new, fun p3 np3 => ?_⟩
        have t3 := t2.trans (same_new (o := HO.lst (cutV (iv ns').reverse none (some (k : Int)))) np3)
        have ecut : cutV (iv ns').reverse none (some (k : Int)) = iv (ns'.reverse.take k) := by
          rw [cut_to, iv, iv, ← List.map_reverse, ← List.map_take]
        refine ⟨p3, ns'.reverse.take k, rfl, by show SqL _ _ p3 (iv (ns'.reverse.take k)); rw [← ecut]; exact SqL.new, L, _, _, rfl, rfl, t3 _ _ eL5, small_line (by rw [iv_len, htl]; omega), ?_⟩
        refine ⟨_, _, tb ++ [(ns'.reverse.take k).sum], rfl, ((s2.trans s35).trans t3).put hL, ?_, by rw [List.length_append, List.length_singleton, htl], fun h' hh' => ?_⟩
        · rw [upd_same, ← iv_app]; rfl
        · by_cases hlt : h' < h
          · rw [K98.tabAt_app1 (by omega)]
            exact htb h' hlt
          · have : h' = h := by omega
            subst this
            refine ⟨ns', hperm, hpw, ?_⟩
            rw [K98.tabAt_app2 (by omega), htl, Nat.sub_self]
            rfl
    · obtain ⟨d, g, tb, rfl, s2, eL, htl, htb⟩ := p
      refine ⟨_, rfl, L, _, rfl, .inl ⟨SqL.of eL, fun p np => ?_⟩⟩
      exact q _ p tb (s2.trans (same_new np)) (s2.free np) upd_same ⟨htl, htb⟩
theorem flat_zeros (m : Nat) : (List.replicate ((m : Nat) : Int).toNat [V.int 0]).flatten = iv (List.replicate m 0) := by
  rw [Int.toNat_natCast, List.flatten_replicate_singleton, iv, List.map_replicate]
theorem zeros_iv (m : Nat) : iv (List.replicate m 0) = zeros m := by
  rw [iv, List.map_replicate]; rfl
/-- only with no rows -/
def sp_l_paired (K : PySem.W.Frag) : Sp := fun vs H Q _ => ∃ (m : Nat) (r : Addr), vs = [.int m, .ref r] ∧ 1 ≤ m ∧ m ≤ 5 ∧ SqL K H r [] ∧ ∀ H' p, Same H H' → H p = none → Q (.ref p) H'
theorem sc_l_paired : FnScope ["_law_many", "_law_rows", "_law_bits_here", "_law_table", "_law_heap", "_law_best", "_law_i", "_law_j", "_law_worth"] ["_law_many", "_law_rows"] (defScope (top 58)) := ⟨rfl, rfl, rfl, by decide +kernel, rfl, by decide +kernel, by decide +kernel⟩
theorem ok_l_paired (D : Defs K mg) (C_l_costs : Callee P w K mg base 1 "_law_costs" ["_law_prices"] (sp_l_costs K)) (C_l_bits : Callee P w K mg base 1 "_law_bits" ["_law_many"] (sp_l_bits K)) : Callee P w K mg base 2 "_law_paired" ["_law_many", "_law_rows"] (sp_l_paired K) := by
  obtain ⟨f_l_costs, fd_l_costs, g_l_costs, m_l_costs, k_l_costs, b_l_costs⟩ := C_l_costs.ex
  obtain ⟨f_l_bits, fd_l_bits, g_l_bits, m_l_bits, k_l_bits, b_l_bits⟩ := C_l_bits.ex
  refine callee_mk D.f_l_paired sc_l_paired (fun _ _ _ _ _ _ us hl => match us, hl with | [_, _], _ => rfl) (fun vs H Q E h => ?_) (fun f cdv A outer s H vs Q E hr h => ?_)
  · obtain ⟨m, r, rfl, _⟩ := h; rfl
  · obtain ⟨m, r, rfl, h1, hm, hr0, q⟩ := h
    refine ⟨_, (pss_cons (ps_set (i := 2) sc_l_paired.nd rfl (.inl rfl) (pe_call g_l_bits (hr.mono (by decide)) (by rfl) m_l_bits k_l_bits b_l_bits .nil pass0 (pa_cons (pv 0) pa_nil))) (pss_cons (ps_set (i := 3) sc_l_paired.nd rfl (.inl rfl) (pe_lst pa_nil)) (pss_cons (ps_for PassesOwn.never rfl (pi_range1 (by rfl) D.range_ (pa_cons (pe_callB call_len_seq (by rfl) D.len_ bt_len (pa_cons (pe_call g_l_costs (hr.mono (by decide)) (by rfl) m_l_costs k_l_costs b_l_costs .nil pass0 (pa_cons (pe_op op_repT1 (pe_tup (pa_cons pe_int pa_nil)) (pv 0)) pa_nil)) pa_nil)) pa_nil)) (pg_name (i := 4) sc_l_paired.nd rfl (.inl rfl)) (pss_cons (ps_set (i := 5) sc_l_paired.nd rfl (.inl rfl) pe_int) (pss_cons (ps_for PassesOwn.never rfl (pi_listK (K := K) (pv 1)) (pg_tup rfl (pgs_cons (pg_name (i := 6) sc_l_paired.nd rfl (.inl rfl)) (pgs_cons (pg_name (i := 7) sc_l_paired.nd rfl (.inl rfl)) (pgs_cons (pg_name (i := 8) sc_l_paired.nd rfl (.inl rfl)) pgs_nil)))) (pss_one (ps_if (PW.pt (pw_and (pt_cmpR op_eq (pe_op op_mod (pe_op op_fdiv (pv 4) (pe_ix (ix_listK (K := K)) (pv 2) (pv 6) (fun _ _ => rfl))) pe_int) pe_int (nomark _)) (pw_and1 (pt_cmpR op_eq (pe_op op_mod (pe_op op_fdiv (pv 4) (pe_ix (ix_listK (K := K)) (pv 2) (pv 7) (fun _ _ => rfl))) pe_int) pe_int (nomark _))))) (pss_one (ps_set (i := 5) sc_l_paired.nd rfl (.inl rfl) (pe_callB (call_max2 rfl) (by rfl) D.max_ bt_max (pa_cons (pv 5) (pa_cons (pe_op op_add (pe_ix (ix_listK (K := K)) (pv 3) (pe_op op_sub (pe_op op_sub (pv 4) (pe_ix (ix_listK (K := K)) (pv 2) (pv 6) (fun _ _ => rfl))) (pe_ix (ix_listK (K := K)) (pv 2) (pv 7) (fun _ _ => rfl))) (fun _ _ => rfl)) (pv 8)) pa_nil))))) pss_nil))) (pss_one (ps_expr (pe_bm PySem.F.plainAttrs_list PySem.F.slot_list_append PySem.F.type_list_append mt_append (pv 3) (pa_cons (pv 5) pa_nil))))))) (pss_one (ps_ret (pe_callTy call_tuple_of (by rfl) D.tuple_ bt_tuple (pa_cons (pv 3) pa_nil))))))), ?_⟩
    have h64 : 2 ^ m ≤ 64 := Nat.le_trans (Nat.pow_le_pow_right (n := 2) (by decide) (show m ≤ 6 by omega)) (by decide)
    refine ⟨_, rfl, m, rfl, hm, fun H1 pb s1 npb eb => ?_⟩
    refine ⟨Nat.zero_le _, fun L hL => ?_⟩
    have s2 : Same H (upd H1 L (.lst [])) := s1.trans (same_new hL)
    have nLH := s1.free hL
    refine ⟨by show 1 ≤ sizeLine; decide, fun z nz => ?_⟩
    have s3 := s2.trans (same_new (o := HO.tup [.int 0]) nz)
    refine ⟨_, rfl, z, _, _, rfl, rfl, SqT.new, by simp, by omega, by omega, by simp, fun pz H2 s4 ez => ?_⟩
    rw [flat_zeros] at ez
    refine ⟨pz, List.replicate m 0, rfl, .inr ez, by rw [List.length_replicate]; omega, fun H3 pc s5 npc ec => ?_⟩
    refine ⟨pc, _, rfl, .inl (SqL.of ec), _, rfl, ?_, ?_, ?_⟩
    · rw [iv_len, K98.costsF_len, List.length_replicate]
      generalize 2 ^ m = x at h64
      omega
    · rw [iv_len, K98.costsF_len, List.length_replicate]
      generalize 2 ^ m = x at h64
      omega
    rw [iv_len, K98.costsF_len, List.length_replicate, Int.toNat_natCast]
    have s35 := (s3.trans s4).trans s5
    have eL3 : H3 L = some (.lst []) := (((same_new (o := HO.tup [.int 0]) nz).trans s4).trans s5) _ _ upd_same
    refine for_it (walk_range0 (n := 2 ^ m)) (fun i σ H' => ∃ (d e : Option V) (tb : List V), σ = [some (.int m), some (.ref r), some (.ref pb), some (.ref L), d, e, none, none, none] ∧ Same H H' ∧ H' L = some (.lst tb) ∧ tb.length = i) ⟨_, _, [], rfl, s35, eL3, rfl⟩
      (fun _ _ _ _ _ => trivial) (fun h x σ H4 H5 hi p hy => ?_) (fun σ H4 p => ?_)
    · obtain ⟨d, e, tb, rfl, s6, eL, htl⟩ := p
      obtain ⟨rfl, rfl⟩ := hy
      refine ⟨_, rfl, r, rfl, ⟨_, s6.seq hr0⟩, ?_⟩
      refine for_it (walk_list (K := K) (a := r) (xs := [])) (fun i σ H' => σ = [some (.int m), some (.ref r), some (.ref pb), some (.ref L), some (.int h), some (.int 0), none, none, none] ∧ Same H5 H') ⟨rfl, Same.refl _⟩
        (fun _ σ H' _ p => (s6.trans p.2).seq hr0) (fun i x σ H6 H7 hi p hy => absurd hi (Nat.not_lt_zero _)) (fun σ H6 p => ?_)
      obtain ⟨rfl, s7⟩ := p
      refine ⟨_, rfl, .inl ⟨rfl, _, SqL.of (s7 _ _ eL)⟩, _, rfl, L, _, _, rfl, rfl, s7 _ _ eL, small_line (by omega), ?_⟩
      exact ⟨_, _, _, rfl, (s6.trans s7).put nLH, upd_same, by rw [List.length_append, List.length_singleton, htl]⟩
    · obtain ⟨d, e, tb, rfl, s6, eL, htl⟩ := p
      refine ⟨_, rfl, L, _, rfl, .inl ⟨SqL.of eL, fun p np => ?_⟩⟩
      exact q _ p (s6.trans (same_new np)) (s6.free np)
def sp_l_joined (K : PySem.W.Frag) : Sp := fun vs H Q _ => ∃ (a b : Addr) (one other : List Int) (m : Nat), vs = [.ref a, .ref b] ∧ SqT K H a (iv one) ∧ SqT K H b (iv other) ∧ one.length = 2 ^ m ∧ other.length = 2 ^ m ∧ m ≤ 5 ∧
  ∀ H' p, Same H H' → H p = none → H' p = some (.tup (iv (joinedL one other))) → Q (.ref p) H'
theorem sc_l_joined : FnScope ["_law_one", "_law_other", "_law_table", "_law_heap", "_law_part"] ["_law_one", "_law_other"] (defScope (top 59)) := ⟨rfl, rfl, rfl, by decide +kernel, rfl, by decide +kernel, by decide +kernel⟩
theorem ok_l_joined (D : Defs K mg) : Callee P w K mg base 1 "_law_joined" ["_law_one", "_law_other"] (sp_l_joined K) := by
  refine callee_mk D.f_l_joined sc_l_joined (fun _ _ _ _ _ _ us hl => match us, hl with | [_, _], _ => rfl) (fun vs H Q E h => ?_) (fun f cdv A outer s H vs Q E hr h => ?_)
  · obtain ⟨a, b, one, other, m, rfl, _⟩ := h; rfl
  · obtain ⟨a, b, one, other, m, rfl, ha, hb, hl1, hl2, hm, q⟩ := h
    refine ⟨_, (pss_cons (ps_set (i := 2) sc_l_joined.nd rfl (.inl rfl) (pe_lst pa_nil)) (pss_cons (ps_for PassesOwn.never rfl (pi_range1 (by rfl) D.range_ (pa_cons (pe_callB call_len_seq (by rfl) D.len_ bt_len (pa_cons (pv 0) pa_nil)) pa_nil)) (pg_name (i := 3) sc_l_joined.nd rfl (.inr rfl)) (pss_one (ps_expr (pe_bm PySem.F.plainAttrs_list PySem.F.slot_list_append PySem.F.type_list_append mt_append (pv 2) (pa_cons (pe_callB (cr_maxK (K := K) rfl) (by rfl) D.max_ bt_max (pa_cons (pe_lc (own := [("_law_part", 4)]) (g := (gName 4)) rfl sc_l_joined.nd (pi_range1 (by rfl) D.range_ (pa_cons (pe_op op_add (pv 3) pe_int) pa_nil)) (blkOk_by (own := [("_law_part", 4)]) (N := ["_law_one", "_law_other", "_law_table", "_law_heap", "_law_part"]) (sc := defScope (top 59)) (by decide +kernel)) (fun _ _ _ _ _ => (pg_name (i := 4) sc_l_joined.nd rfl (.inl rfl))) (fun _ _ _ _ _ => (pts_one (pt_cmpR op_eq (pe_op op_and (pv 4) (pv 3)) (pv 4) (nomark _)))) (fun _ _ _ _ _ => (pe_op op_add (pe_ix (ix_tupK (K := K)) (pv 0) (pv 4) (fun _ _ => rfl)) (pe_ix (ix_tupK (K := K)) (pv 1) (pe_op op_sub (pv 3) (pv 4)) (fun _ _ => rfl))))) pa_nil)) pa_nil))))) (pss_one (ps_ret (pe_callTy call_tuple_of (by rfl) D.tuple_ bt_tuple (pa_cons (pv 2) pa_nil)))))), ?_⟩
    have h64 : 2 ^ m ≤ 64 := Nat.le_trans (Nat.pow_le_pow_right (n := 2) (by decide) (show m ≤ 6 by omega)) (by decide)
    refine ⟨Nat.zero_le _, fun L hL => ?_⟩
    have s0 : Same H (upd H L (.lst [])) := same_new hL
    refine ⟨_, rfl, a, _, rfl, .inr (s0.tup ha), _, rfl, by rw [iv_len]; omega, by rw [iv_len]; omega, ?_⟩
    rw [iv_len, Int.toNat_natCast]
    refine for_it (walk_range0 (n := one.length)) (fun i σ H' => ∃ (d : Option V), σ = [some (.ref a), some (.ref b), some (.ref L), d, none] ∧ Same H H' ∧ H' L = some (.lst (iv ((List.range i).map fun h => maxL ((partsL h).map fun part => tabAt one part + tabAt other (h - part)))))) ⟨_, rfl, s0, upd_same⟩
      (fun _ _ _ _ _ => trivial) (fun h x σ H4 H5 hi p hy => ?_) (fun σ H4 p => ?_)
    · obtain ⟨d, rfl, s6, eL⟩ := p
      obtain ⟨rfl, rfl⟩ := hy
      refine ⟨_, rfl, .inl ⟨rfl, _, SqL.of eL⟩, ?_⟩
      refine ⟨_, rfl, _, _, rfl, rfl, _, rfl, by omega, by omega, fun M hM => ?_⟩
      have hh : h < 2 ^ m := by omega
      have wk : Walk (Itr 0 ((h : Int) + 1).toNat) (h + 1) (fun _ => True) (fun i H x H' => H' = H ∧ x = .int ((i : Nat) : Int)) := by
        rw [show ((h : Int) + 1).toNat = h + 1 by omega]
        exact walk_range0
      refine lc_fm wk (fun part => part &&& h == part) (fun part => .int (tabAt one part + tabAt other (h - part))) hM (le_line (by omega)) (fun _ _ => trivial) (fun part x H6 H7 R R0 hp s7 hy hk hk0 => ?_) (fun H6 s7 e6 => ?_)
      · obtain ⟨rfl, rfl⟩ := hy
        refine ⟨rfl, _, rfl, _, rfl, _, _, rfl, rfl, _, rfl, rfl, _, rfl, ?_⟩
        have et : decide (V.int (Builtin.bitAnd (part : Int) (h : Int)) = V.int (part : Nat)) = (part &&& h == part) := by
          rw [dec_int, band_eq]
          by_cases q : part &&& h = part
          · rw [q, beq_self_eq_true, beq_self_eq_true]
          · rw [beq_eq_false_iff_ne.mpr q, beq_eq_false_iff_ne.mpr (fun z => q (by omega))]
        refine ite2 (fun hc => ?_) (fun hc => ?_)
        · have hkk : (part &&& h == part) = true := by rw [← et]; exact hc
          exact ⟨_, rfl, _, rfl, a, _, _, _, rfl, rfl, (s6.trans s7).tup ha, at_iv rfl (by omega), _, rfl, _, rfl, _, rfl, _, _, rfl, rfl, b, _, _, _, rfl, rfl, (s6.trans s7).tup hb, at_iv (i := h - part) (by show (h : Int) - (part : Int) = _; omega) (by omega), _, _, rfl, rfl, hk hkk _ (Same.refl _)⟩
        · have hkk : (part &&& h == part) = false := by
            rw [← et]
            exact Bool.eq_false_iff.mpr hc
          exact hk0 hkk _ (Same.refl _)
      · have e : ((List.range (h + 1)).filter fun part => part &&& h == part).map (fun part => V.int (tabAt one part + tabAt other (h - part))) = iv ((partsL h).map fun part => tabAt one part + tabAt other (h - part)) := by
          rw [iv, List.map_map]; rfl
        rw [e] at e6
        have hne : 0 < ((partsL h).map fun part => tabAt one part + tabAt other (h - part)).length := by
          rw [List.length_map]
          exact List.length_pos_of_mem (K98.parts_mem.mpr (Nat.zero_and h))
        refine ⟨M, _, rfl, SqL.of e6, hne, fun v hv hle => ?_⟩
        rw [K98.maxL_eq hv hle]
        refine ⟨L, _, _, rfl, rfl, s7 _ _ eL, small_line (by rw [iv_len, List.length_map, List.length_range]; omega), ?_⟩
        refine ⟨_, rfl, (s6.trans s7).put hL, ?_⟩
        rw [upd_same, List.range_succ, List.map_append, iv, iv, List.map_append]
        rfl
    · obtain ⟨d, rfl, s6, eL⟩ := p
      refine ⟨_, rfl, L, _, rfl, .inl ⟨SqL.of eL, fun p np => ?_⟩⟩
      exact q _ p (s6.trans (same_new np)) (s6.free np) upd_same
end
end K98W
set_option Elab.async false
set_option linter.all false
set_option maxRecDepth 100000
set_option maxHeartbeats 4000000
/-! K98 walk J: the law's own wants. -/
namespace K98W
open PySem PySem.Spec PyProof.Rows L2 K98R
open K98 (tabAt pf costsF GoodTab SomeTab joinedL)

theorem Off.tup {K : PySem.W.Frag} {p l a : Addr} {H H' : Hp} {xs : List V} (e : Off p l H H') (hp : Pot H p l) (h : SqT K H a xs) : SqT K H' a xs := by
  obtain ⟨cells, k, st, tn, ep, el, _, _⟩ := hp.ex
  rcases h with (h | ⟨o, h⟩) | h
  · exact .inl (.inl (e _ _ h (ne_of h ep (by intro q; cases q)) (ne_of h el (by intro q; cases q))))
  · exact .inl (.inr ⟨o, e _ _ h (ne_of h ep (by intro q; cases q)) (ne_of h el (by intro q; cases q))⟩)
  · exact .inr h
theorem Pot.same {p l : Addr} {H H' : Hp} (h : Pot H p l) (s : Same H H') : Pot H' p l := by
  obtain ⟨cells, k, st, tn, ep, el, hk, hc⟩ := h.ex
  exact ⟨cells, k, st, tn, s _ _ ep, s _ _ el, hk, hc⟩
theorem Pot.off {p l a : Addr} {H : Hp} (h : Pot H p l) (n : H a = none) : a ≠ p ∧ a ≠ l := by
  obtain ⟨cells, k, st, tn, ep, el, _, _⟩ := h.ex
  exact ⟨(ne_of_none ep n).symm, (ne_of_none el n).symm⟩
theorem Off.put {p l a : Addr} {H H' : Hp} {o : HO} (e : Off p l H H') (n : H a = none) : Off p l H (upd H' a o) := fun b x q n1 n2 => by
  rw [upd_ne (ne_of_none q n)]; exact e b x q n1 n2
theorem Pot.put {p l a : Addr} {H : Hp} {o : HO} (h : Pot H p l) (n : a ≠ p ∧ a ≠ l) : Pot (upd H a o) p l := by
  obtain ⟨cells, k, st, tn, ep, el, hk, hc⟩ := h.ex
  exact ⟨cells, k, st, tn, by rw [upd_ne n.1.symm]; exact ep, by rw [upd_ne n.2.symm]; exact el, hk, hc⟩
/-- a list of numbers drawn, growing at D -/
structure Drawn (p l Dl : Addr) (H H' : Hp) (i : Nat) : Prop where
  off : Off p l H H'
  pot : Pot H' p l
  ex : ∃ ws : List Int, ws.length = i ∧ H' Dl = some (.lst (iv ws)) ∧ ∀ t, t < i → 0 ≤ pf ws t ∧ pf ws t ≤ 8
theorem Drawn.new {p l Dl : Addr} {H : Hp} (h : Pot H p l) (n : H Dl = none) : Drawn p l Dl H (upd H Dl (.lst [])) 0 :=
  ⟨(Off.refl H).put n, h.put (h.off n), [], rfl, upd_same, fun t ht => absurd ht (Nat.not_lt_zero t)⟩
theorem Drawn.more {p l Dl : Addr} {H H' H'' : Hp} {i d : Nat} (h : Drawn p l Dl H H' i) (hp : Pot H p l) (n : H Dl = none) (off : Off p l H' H'') (hp2 : Pot H'' p l) (hd : d ≤ 8) (hi : i < 100) :
    ∃ acc, H'' Dl = some (.lst acc) ∧ acc.length < sizeLine ∧ Drawn p l Dl H (upd H'' Dl (.lst (acc ++ [.int (d : Nat)]))) (i + 1) := by
  obtain ⟨ws, hl, ed, hb⟩ := h.ex
  have hne := hp.off n
  refine ⟨iv ws, off _ _ ed hne.1 hne.2, small_line (by rw [iv_len, hl]; omega), (h.off.trans off).put n, hp2.put hne, ws ++ [(d : Int)], by rw [List.length_append, List.length_singleton, hl], ?_, fun t ht => ?_⟩
  · rw [upd_same, ← iv_app]; rfl
  · by_cases hlt : t < i
    · have := hb t hlt
      rw [show pf (ws ++ [(d : Int)]) t = pf ws t from K98.tabAt_app1 (by omega)]
      exact this
    · have e : t = i := by omega
      subst e
      rw [show pf (ws ++ [(d : Int)]) t = (d : Int) from (K98.tabAt_app2 (by omega)).trans (by rw [hl, Nat.sub_self]; rfl)]
      omega

section
variable {P : Program} {w : World} {K : PySem.W.Frag} {mg : Str → Option Value} {base : Heap}
def sp_l_kind_want (K : PySem.W.Frag) : Sp := fun vs H Q _ => ∃ (p l s : Addr) (m : Nat) (most : Int), vs = [.ref p, .ref s, .int most] ∧ Pot H p l ∧ SqT K H s (zeros m) ∧ 1 ≤ m ∧ m ≤ 5 ∧ 0 ≤ most ∧ most ≤ 8 ∧
  ∀ H' t tab, Off p l H H' → Pot H' p l → SqT K H' t (iv tab) → GoodTab m tab → Q (.ref t) H'
theorem sc_l_kind_want : FnScope ["_law_pot_here", "_law_sides", "_law_most", "_law_side", "_law_worths", "_law_rows", "_law_i", "_law_j", "_law_other", "_law_single", "_law_second"] ["_law_pot_here", "_law_sides", "_law_most"] (defScope (top 60)) := ⟨rfl, rfl, rfl, by decide +kernel, rfl, by decide +kernel, by decide +kernel⟩
theorem ok_l_kind_want (D : Defs K mg) (C_l_draw : Callee P w K mg base 2 "_law_draw" ["_law_pot_here", "_law_many"] (sp_l_draw K)) (C_l_costs : Callee P w K mg base 1 "_law_costs" ["_law_prices"] (sp_l_costs K)) (C_l_some : Callee P w K mg base 2 "_law_some" ["_law_worths", "_law_many"] (sp_l_some K)) (C_l_paired : Callee P w K mg base 2 "_law_paired" ["_law_many", "_law_rows"] (sp_l_paired K)) (C_l_joined : Callee P w K mg base 1 "_law_joined" ["_law_one", "_law_other"] (sp_l_joined K)) : Callee P w K mg base 3 "_law_kind_want" ["_law_pot_here", "_law_sides", "_law_most"] (sp_l_kind_want K) := by
  obtain ⟨f_l_draw, fd_l_draw, g_l_draw, m_l_draw, k_l_draw, b_l_draw⟩ := C_l_draw.ex
  obtain ⟨f_l_costs, fd_l_costs, g_l_costs, m_l_costs, k_l_costs, b_l_costs⟩ := C_l_costs.ex
  obtain ⟨f_l_some, fd_l_some, g_l_some, m_l_some, k_l_some, b_l_some⟩ := C_l_some.ex
  obtain ⟨f_l_paired, fd_l_paired, g_l_paired, m_l_paired, k_l_paired, b_l_paired⟩ := C_l_paired.ex
  obtain ⟨f_l_joined, fd_l_joined, g_l_joined, m_l_joined, k_l_joined, b_l_joined⟩ := C_l_joined.ex
  refine callee_mk D.f_l_kind_want sc_l_kind_want (fun _ _ _ _ _ _ us hl => match us, hl with | [_, _, _], _ => rfl) (fun vs H Q E h => ?_) (fun f cdv A outer s H vs Q E hr h => ?_)
  · obtain ⟨p, l, s0, m, most, rfl, _⟩ := h; rfl
  · obtain ⟨p, l, s0, m, most, rfl, hp, hs, hm1, hm, hy0, hy8, q⟩ := h
    refine ⟨_, (pss_cons (ps_setLc (i := 4) (own := [("_law_side", 3)]) (g := (gName 3)) (tt := tYes) rfl sc_l_kind_want.nd rfl rfl (sw_true rfl rfl rfl (by decide +kernel)) (pi_tup (pv 1)) (blkOk_by (own := [("_law_side", 3)]) (N := ["_law_pot_here", "_law_sides", "_law_most", "_law_side", "_law_worths", "_law_rows", "_law_i", "_law_j", "_law_other", "_law_single", "_law_second"]) (sc := defScope (top 60)) (by decide +kernel)) (fun _ _ _ _ _ => (pg_name (i := 3) sc_l_kind_want.nd rfl (.inl rfl))) (fun _ _ _ _ _ => pts_nil) (fun _ _ _ _ _ => (pe_call g_l_draw (hr.mono (by decide)) (by rfl) m_l_draw k_l_draw b_l_draw .nil pass0 (pa_cons (pv 0) (pa_cons (pe_op op_add (pv 2) pe_int) pa_nil))))) (pss_cons (ps_set (i := 5) sc_l_kind_want.nd rfl (.inl rfl) (pe_lst pa_nil)) (pss_cons (ps_for PassesOwn.never rfl (pi_enumT (by rfl) D.enumerate_ (pa_cons (pv 1) pa_nil)) (pg_tup rfl (pgs_cons (pg_name (i := 6) sc_l_kind_want.nd rfl (.inl rfl)) (pgs_cons (pg_name (i := 3) sc_l_kind_want.nd rfl (.inl rfl)) pgs_nil))) (pss_one (ps_for PassesOwn.never rfl (pi_enumT (by rfl) D.enumerate_ (pa_cons (pv 1) pa_nil)) (pg_tup rfl (pgs_cons (pg_name (i := 7) sc_l_kind_want.nd rfl (.inl rfl)) (pgs_cons (pg_name (i := 8) sc_l_kind_want.nd rfl (.inl rfl)) pgs_nil))) (pss_one (ps_if (PW.pt (pw_and (pt_cmpR op_eq (pv 3) pe_int (nomark _)) (pw_and (pt_cmpR op_eq (pv 8) pe_int (nomark _)) (pw_and1 (pt_cmpR op_gt (pe_call g_l_draw (hr.mono (by decide)) (by rfl) m_l_draw k_l_draw b_l_draw .nil pass0 (pa_cons (pv 0) (pa_cons pe_int pa_nil))) pe_int (nomark _)))))) (pss_one (ps_expr (pe_bm PySem.F.plainAttrs_list PySem.F.slot_list_append PySem.F.type_list_append mt_append (pv 5) (pa_cons (pe_tup (pa_cons (pv 6) (pa_cons (pv 7) (pa_cons (pe_op op_add pe_int (pe_call g_l_draw (hr.mono (by decide)) (by rfl) m_l_draw k_l_draw b_l_draw .nil pass0 (pa_cons (pv 0) (pa_cons (pe_op op_mul pe_int (pv 2)) pa_nil)))) pa_nil)))) pa_nil)))) pss_nil))))) (pss_cons (ps_set (i := 9) sc_l_kind_want.nd rfl (.inl rfl) (pe_callTy call_tuple_of (by rfl) D.tuple_ bt_tuple (pa_cons (pe_call g_l_costs (hr.mono (by decide)) (by rfl) m_l_costs k_l_costs b_l_costs .nil pass0 (pa_cons (pe_lc (own := [("_law_side", 3)]) (g := (gName 3)) (tt := tYes) rfl sc_l_kind_want.nd (pi_tup (pv 1)) (blkOk_by (own := [("_law_side", 3)]) (N := ["_law_pot_here", "_law_sides", "_law_most", "_law_side", "_law_worths", "_law_rows", "_law_i", "_law_j", "_law_other", "_law_single", "_law_second"]) (sc := defScope (top 60)) (by decide +kernel)) (fun _ _ _ _ _ => (pg_name (i := 3) sc_l_kind_want.nd rfl (.inl rfl))) (fun _ _ _ _ _ => pts_nil) (fun _ _ _ _ _ => (pe_call g_l_draw (hr.mono (by decide)) (by rfl) m_l_draw k_l_draw b_l_draw .nil pass0 (pa_cons (pv 0) (pa_cons (pe_op op_add (pv 2) pe_int) pa_nil))))) pa_nil)) pa_nil))) (pss_cons (ps_set (i := 10) sc_l_kind_want.nd rfl (.inl rfl) (pe_call g_l_paired (hr.mono (by decide)) (by rfl) m_l_paired k_l_paired b_l_paired .nil pass0 (pa_cons (pe_callB call_len_seq (by rfl) D.len_ bt_len (pa_cons (pv 1) pa_nil)) (pa_cons (pv 5) pa_nil)))) (pss_cons (ps_if (PW.pt (pw_and (pt_cmpR (op_eqD hr.units) (pv 5) (pe_lst pa_nil) (nomark _)) (pw_and1 (pt_cmpR op_in_seq (pe_callB (cr_sumT rfl) (by rfl) D.sum_ bt_sum (pa_cons (pv 1) pa_nil)) (pe_tup (pa_cons pe_int (pa_cons (pe_callB call_len_seq (by rfl) D.len_ bt_len (pa_cons (pv 1) pa_nil)) pa_nil))) (by rfl))))) (pss_one (ps_set (i := 10) sc_l_kind_want.nd rfl (.inl rfl) (pe_call g_l_some (hr.mono (by decide)) (by rfl) m_l_some k_l_some b_l_some .nil pass0 (pa_cons (pv 4) (pa_cons (pe_op op_add pe_int (pe_call g_l_draw (hr.mono (by decide)) (by rfl) m_l_draw k_l_draw b_l_draw .nil pass0 (pa_cons (pv 0) (pa_cons pe_int pa_nil)))) pa_nil))))) pss_nil) (pss_one (ps_ret (pe_ix (ix_listK (K := K)) (pe_lst (pa_cons (pv 9) (pa_cons (pv 10) (pa_cons (pv 10) (pa_cons (pe_call g_l_joined (hr.mono (by decide)) (by rfl) m_l_joined k_l_joined b_l_joined .nil pass0 (pa_cons (pv 9) (pa_cons (pv 10) pa_nil))) pa_nil))))) (pe_call g_l_draw (hr.mono (by decide)) (by rfl) m_l_draw k_l_draw b_l_draw .nil pass0 (pa_cons (pv 0) (pa_cons pe_int pa_nil))) (fun _ _ => rfl)))))))))), ?_⟩
    refine ⟨_, rfl, s0, rfl, ⟨_, hs⟩, fun W1 hW1 => ?_⟩
    refine lc_rel (walk_tup (K := K) (a := s0) (xs := zeros m)) (fun i H' => Drawn p l W1 H H' i) (Drawn.new hp hW1) (fun i H' _ d => d.off.tup hp hs) (fun i x H1 H2 hi dr hy => ?_) (fun H1 dr => ?_)
    · obtain ⟨rfl, ey⟩ := hy
      rw [zeros_len] at hi
      refine ⟨rfl, _, rfl, _, rfl, _, _, rfl, rfl, p, l, most + 1, rfl, dr.pot, by omega, by omega, fun H3 d o3 p3 hd => ?_⟩
      exact dr.more hp hW1 o3 p3 (by omega) (by omega)
    rw [zeros_len] at dr
    obtain ⟨ws, hws, ew, bw⟩ := dr.ex
    have hs1 := dr.off.tup hp hs
    refine ⟨Nat.zero_le _, fun R1 hR1 => ?_⟩
    have sR : Same H1 (upd H1 R1 (.lst [])) := same_new hR1
    refine ⟨_, rfl, s0, _, rfl, sR.tup hs1, ?_⟩
    refine for_it (K98R.walk_enumT (K := K) (a := s0) (xs := zeros m)) (fun i σ H' => ∃ d3 d6 d7 d8, σ = [some (.ref p), some (.ref s0), some (.int most), d3, some (.ref W1), some (.ref R1), d6, d7, d8, none, none] ∧ Same (upd H1 R1 (.lst [])) H') ⟨_, _, _, _, rfl, Same.refl _⟩
      (fun _ σ H' _ ⟨_, _, _, _, _, s⟩ => s.tup (sR.tup hs1)) (fun i x σ H2 H3 hi pp hy => ?_) (fun σ H2 pp => ?_)
    · obtain ⟨d3, d6, d7, d8, rfl, s2⟩ := pp
      obtain ⟨T, x1, x2, rfl, nT, rfl, e1, e2⟩ := hy
      have ex1 := Option.some.inj e1
      subst ex1
      have ex2 := rep_at e2
      subst ex2
      have s3 := s2.trans (same_new (o := HO.tup [.int (i : Nat), .int 0]) nT)
      refine ⟨T, _, rfl, SqT.new, rfl, _, _, rfl, _, _, rfl, rfl, ?_⟩
      refine ⟨_, rfl, s0, _, rfl, s3.tup (sR.tup hs1), ?_⟩
      refine for_it (K98R.walk_enumT (K := K) (a := s0) (xs := zeros m)) (fun i' σ H' => ∃ d7 d8, σ = [some (.ref p), some (.ref s0), some (.int most), some (.int 0), some (.ref W1), some (.ref R1), some (.int i), d7, d8, none, none] ∧ Same (upd H1 R1 (.lst [])) H') ⟨_, _, rfl, s3⟩
        (fun _ σ H' _ ⟨_, _, _, s⟩ => s.tup (sR.tup hs1)) (fun j x σ H4 H5 hj pp hy => ?_) (fun σ H4 pp => ?_)
      · obtain ⟨d7, d8, rfl, s4⟩ := pp
        obtain ⟨U, y1, y2, rfl, nU, rfl, f1, f2⟩ := hy
        have ey1 := Option.some.inj f1
        subst ey1
        have ey2 := rep_at f2
        subst ey2
        have s5 := s4.trans (same_new (o := HO.tup [.int (j : Nat), .int 0]) nU)
        refine ⟨U, _, rfl, SqT.new, rfl, _, _, rfl, _, _, rfl, rfl, ?_⟩
        refine ⟨_, rfl, rfl, _, rfl, iteT ?_⟩
        refine ⟨_, rfl, rfl, _, rfl, iteF ?_⟩
        refine iteF ?_
        exact ⟨_, _, rfl, s5⟩
      · obtain ⟨d7, d8, rfl, s4⟩ := pp
        exact ⟨_, _, _, _, rfl, s4⟩
    obtain ⟨d3, d6, d7, d8, rfl, s2⟩ := pp
    have sH2 := sR.trans s2
    have hs2 := sH2.tup hs1
    have hp2 := dr.pot.same sH2
    have eR2 := s2 _ _ upd_same
    have ew2 := sH2 _ _ ew
    refine ⟨_, rfl, s0, rfl, ⟨_, hs2⟩, fun W2 hW2 => ?_⟩
    refine lc_rel (walk_tup (K := K) (a := s0) (xs := zeros m)) (fun i H' => Drawn p l W2 H2 H' i) (Drawn.new hp2 hW2) (fun i H' _ d => d.off.tup hp2 hs2) (fun i x H3 H4 hi dr hy => ?_) (fun H3 dr3 => ?_)
    · obtain ⟨rfl, ey⟩ := hy
      rw [zeros_len] at hi
      refine ⟨rfl, _, rfl, _, rfl, _, _, rfl, rfl, p, l, most + 1, rfl, dr.pot, by omega, by omega, fun H5 d o5 p5 hd => ?_⟩
      exact dr.more hp2 hW2 o5 p5 (by omega) (by omega)
    rw [zeros_len] at dr3
    obtain ⟨vs, hvs, ev, bv⟩ := dr3.ex
    have nW1 := hp.off hW1
    have nR1 := dr.pot.off hR1
    have o3 : Off p l H H3 := (dr.off.same sH2).trans dr3.off
    have ew3 := dr3.off _ _ ew2 nW1.1 nW1.2
    have eR3 := dr3.off _ _ eR2 nR1.1 nR1.2
    refine ⟨W2, vs, rfl, .inl (SqL.of ev), by omega, fun H5 c s5 nc ec => ?_⟩
    refine ⟨c, _, rfl, .inl ⟨SqL.of ec, fun t1 nt1 => ?_⟩⟩
    have s6 := s5.trans (same_new (o := HO.tup (iv (costsF vs.length (pf vs)))) nt1)
    have hs6 := (o3.same s6).tup hp hs
    refine ⟨_, rfl, s0, _, rfl, .inr hs6, _, rfl, m, R1, by rw [zeros_len]; rfl, hm1, hm, SqL.of (s6 _ _ eR3), fun H7 t2 s7 nt2 => ?_⟩
    have s37 := s6.trans s7
    refine ⟨_, rfl, Nat.zero_le _, fun z nz => ?_⟩
    have s38 := s37.trans (same_new (o := HO.lst []) nz)
    have hs8 := (o3.same s38).tup hp hs
    refine ⟨.list [], .list [], .lst (SqL.of (s38 _ _ eR3)) .nil, .lst SqL.new .nil, by decide, by decide, _, rfl, iteT ?_⟩
    have ez0 : (List.replicate m (0 : Int)).sum = 0 := by simp
    refine ⟨_, rfl, s0, List.replicate m 0, rfl, by show SqT _ _ s0 (iv (List.replicate m 0)); rw [zeros_iv]; exact hs8, ?_⟩
    rw [ez0]
    refine ⟨_, rfl, s0, _, rfl, .inr hs8, by show 2 ≤ sizeLine; decide, fun y ny => ?_⟩
    have s39 := s38.trans (same_new (o := HO.tup [.int 0, .int ((zeros m).length : Nat)]) ny)
    refine ⟨y, _, rfl, .inr SqT.new, rfl, rfl, _, rfl, iteT ?_⟩
    refine ⟨_, rfl, _, rfl, p, l, 2, rfl, dr3.pot.same s39, by decide, by decide, fun H9 d o9 p9 hd => ?_⟩
    have o39 : Off p l H3 H9 := (Off.of s39).trans o9
    have o09 := o3.trans o39
    refine ⟨_, _, rfl, rfl, W1, ws, 1 + d, ?_, SqL.of (o39 _ _ ew3 nW1.1 nW1.2), by omega, fun H10 t3 tab s10 nt3 et3 hsome => ?_⟩
    · show [V.ref W1, V.int (1 + (d : Int))] = [V.ref W1, V.int ((1 + d : Nat) : Int)]
      rw [show ((1 + d : Nat) : Int) = 1 + (d : Int) by omega]
    have o010 := o09.same s10
    have p10 := p9.same s10
    have et1 : SqT K H10 t1 (iv (costsF m (pf vs))) := by
      have z : SqT K (upd H5 t1 (.tup (iv (costsF vs.length (pf vs))))) t1 (iv (costsF vs.length (pf vs))) := SqT.new
      rw [hvs] at z
      have off6 : Off p l (upd H5 t1 (.tup (iv (costsF m (pf vs))))) H10 := by
        have := ((Off.of (s7.trans ((same_new (o := HO.lst []) nz).trans (same_new (o := HO.tup [.int 0, .int ((zeros m).length : Nat)]) ny)))).trans o9).same s10
        rw [hvs] at this
        exact this
      refine off6.tup ?_ z
      have := dr3.pot.same s6
      rw [hvs] at this
      exact this
    rw [hws] at hsome
    have b1 : ∀ t, t < m → 0 ≤ pf vs t ∧ pf vs t ≤ 8 := bv
    have b2 : ∀ t, t < m → 0 ≤ pf ws t ∧ pf ws t ≤ 8 := bw
    refine ⟨_, rfl, _, rfl, _, rfl, _, rfl, _, rfl, t1, t3, _, tab, m, rfl, et1, SqT.of et3, K98.costsF_len m _, hsome.len, hm, fun H11 t4 s11 nt4 et4 => ?_⟩
    refine ⟨by show 4 ≤ sizeLine; decide, fun u nu => ?_⟩
    have s1012 := s11.trans (same_new (o := HO.lst [.ref t1, .ref t3, .ref t3, .ref t4]) nu)
    have p12 := p10.same s1012
    have nu' := (p10.same s11).off nu
    refine ⟨_, rfl, p, l, 4, rfl, p12, by decide, by decide, fun H13 d2 o13 p13 hd2 => ?_⟩
    have o013 : Off p l H H13 := (o010.same s1012).trans o13
    have eu := o13 _ _ upd_same nu'.1 nu'.2
    have g1 := o13.tup p12 (s1012.tup et1)
    have g3 : SqT K H13 t3 (iv tab) := o13.tup p12 (s1012.tup (SqT.of et3))
    have g4 : SqT K H13 t4 (iv (joinedL (costsF m (pf vs)) tab)) := o13.tup p12 ((same_new (o := HO.lst [.ref t1, .ref t3, .ref t3, .ref t4]) nu).tup (SqT.of et4))
    have good1 := K98.good_alone b1
    have good3 := K98.good_some b2 hsome
    have good4 := K98.good_joined (by omega) b1 b2 hsome
    have hcase : d2 = 0 ∨ d2 = 1 ∨ d2 = 2 ∨ d2 = 3 := by omega
    rcases hcase with rfl | rfl | rfl | rfl
    · exact ⟨u, _, _, _, rfl, rfl, SqL.of eu, rfl, q _ _ _ o013 p13 g1 good1⟩
    · exact ⟨u, _, _, _, rfl, rfl, SqL.of eu, rfl, q _ _ _ o013 p13 g3 good3⟩
    · exact ⟨u, _, _, _, rfl, rfl, SqL.of eu, rfl, q _ _ _ o013 p13 g3 good3⟩
    · exact ⟨u, _, _, _, rfl, rfl, SqL.of eu, rfl, q _ _ _ o013 p13 g4 good4⟩
end
end K98W
set_option Elab.async false
set_option linter.all false
set_option maxRecDepth 100000
set_option maxHeartbeats 4000000
/-! K98 walk L: the law. -/
namespace K98W
open PySem PySem.Spec PyProof.Rows L2 K98R
open K98 (tabAt GoodTab GoodTown wt pf lowL highL topL greatL ggain Under Over)

theorem seq_cut {t r : TS} {D : Ends} {σ : L2.St} {H : Hp} (J : L2.St → Hp → Prop) (hr : ∀ σ' H', J σ' H' → r D σ' H') (ht : ∀ R : L2.St → Hp → Prop, (∀ σ' H', J σ' H' → R σ' H') → t { D with nx := R } σ H) : tSeq t r D σ H := ht (r D) hr
theorem gN {i : Nat} {x : V} {σ : L2.St} {H : Hp} {k : L2.St → Hp → Prop} (h : k (σ.set i (some x)) H) : gName i x σ H k := h
theorem lay_ints : ∀ ns : List Int, PyData.canLayAll0 (ns.map PyData.int) = true
  | [] => rfl
  | _ :: r => by simp [PyData.canLayAll0, PyData.canLay0, lay_ints r]
theorem deep_ints : ∀ ns : List Int, PyData.depthAll (ns.map PyData.int) = 0
  | [] => rfl
  | _ :: r => by simp [PyData.depthAll, PyData.depth, deep_ints r]
theorem lay_tints (ns : List Int) : PyData.canLay0 (.tuple (ns.map PyData.int)) = true := by
  simp [PyData.canLay0, lay_ints]
theorem shaped_tints (ns : List Int) : SeqAt.shaped (.tuple (ns.map PyData.int)) = true := by
  simp [SeqAt.shaped, PyData.canLay0, PyData.depth, lay_ints, deep_ints]
theorem dp_all {K : PySem.W.Frag} {H : Hp} : ∀ ns : List Int, DpAll K H (iv ns) (ns.map PyData.int)
  | [] => .nil
  | n :: r => .cons (.int n) (dp_all r)
theorem ne_same {K : PySem.W.Frag} {H : Hp} {a b : Addr} {ns : List Int} {Q : VK} (ha : SqT K H a (iv ns)) (hb : SqT K H b (iv ns)) (q : Q (.bl false) H) : rNeD K (.ref a) (.ref b) H Q := by
  refine ⟨.tuple (ns.map PyData.int), .tuple (ns.map PyData.int), .tup ha (dp_all ns), .tup hb (dp_all ns), shaped_tints ns, shaped_tints ns, ?_⟩
  rw [SeqAt.eqv_refl _ (lay_tints ns)]
  exact q
theorem tup_upd {K : PySem.W.Frag} {H : Hp} {a L : Addr} {xs ys zs : List V} (h : SqT K H a xs) (e : H L = some (.lst ys)) : SqT K (upd H L (.lst zs)) a xs := by
  rcases h with (h | ⟨o, h⟩) | h
  · exact .inl (.inl (by rw [upd_ne (ne_of h e (by intro q; cases q))]; exact h))
  · exact .inl (.inr ⟨o, by rw [upd_ne (ne_of h e (by intro q; cases q))]; exact h⟩)
  · exact .inr h
/-- wants drawn, growing at L -/
structure Bunch (K : PySem.W.Frag) (p l L : Addr) (m : Nat) (H H' : Hp) (i : Nat) : Prop where
  off : Off p l H H'
  pot : Pot H' p l
  ex : ∃ (wb : List Addr) (tabs : List (List Int)), wb.length = i ∧ tabs.length = i ∧ H' L = some (.lst (wb.map V.ref)) ∧ (∀ k b, wb[k]? = some b → SqT K H' b (iv (wt tabs k))) ∧ ∀ tab, tab ∈ tabs → GoodTab m tab
theorem Bunch.new {K : PySem.W.Frag} {p l L : Addr} {m : Nat} {H : Hp} (h : Pot H p l) (n : H L = none) : Bunch K p l L m H (upd H L (.lst [])) 0 :=
  ⟨(Off.refl H).put n, h.put (h.off n), [], [], rfl, rfl, upd_same, fun k b q => by simp at q, fun tab q => by cases q⟩
theorem wt_app1 {tabs : List (List Int)} {t : List Int} {k : Nat} (h : k < tabs.length) : wt (tabs ++ [t]) k = wt tabs k := by
  unfold K98.wt
  rw [List.getD_eq_getElem?_getD, List.getElem?_append_left h, List.getD_eq_getElem?_getD]
theorem wt_app2 {tabs : List (List Int)} {t : List Int} : wt (tabs ++ [t]) tabs.length = t := by
  unfold K98.wt
  rw [List.getD_eq_getElem?_getD, List.getElem?_append_right (Nat.le_refl _), Nat.sub_self]
  rfl
theorem Bunch.more {K : PySem.W.Frag} {p l L t : Addr} {m : Nat} {H H' H'' : Hp} {i : Nat} {tab : List Int} (h : Bunch K p l L m H H' i) (hp : Pot H p l) (n : H L = none) (off : Off p l H' H'') (hp2 : Pot H'' p l) (ht : SqT K H'' t (iv tab)) (hg : GoodTab m tab) (hi : i < 100) :
    ∃ acc, H'' L = some (.lst acc) ∧ acc.length < sizeLine ∧ Bunch K p l L m H (upd H'' L (.lst (acc ++ [.ref t]))) (i + 1) := by
  obtain ⟨wb, tabs, hl, hlt, ed, hb, hgs⟩ := h.ex
  have hne := hp.off n
  have ed2 := off _ _ ed hne.1 hne.2
  refine ⟨wb.map V.ref, ed2, small_line (by rw [List.length_map, hl]; omega), (h.off.trans off).put n, hp2.put hne, wb ++ [t], tabs ++ [tab], by rw [List.length_append, List.length_singleton, hl], by rw [List.length_append, List.length_singleton, hlt], ?_, fun k b hk => ?_, fun tb hm => ?_⟩
  · rw [upd_same, List.map_append]; rfl
  · by_cases hlt' : k < wb.length
    · rw [List.getElem?_append_left hlt'] at hk
      rw [wt_app1 (by omega)]
      exact tup_upd (off.tup h.pot (hb k b hk)) ed2
    · have ek : k = wb.length := by
        have := (List.getElem?_eq_some_iff.mp hk).1
        rw [List.length_append, List.length_singleton] at this
        omega
      subst ek
      rw [List.getElem?_append_right (Nat.le_refl _), Nat.sub_self] at hk
      have : t = b := Option.some.inj hk
      subst this
      rw [show wb.length = tabs.length by omega, wt_app2]
      exact tup_upd ht ed2
  · rcases List.mem_append.mp hm with q | q
    · exact hgs tb q
    · rw [List.mem_singleton.mp q]; exact hg

section
variable {P : Program} {w : World} {K : PySem.W.Frag} {mg : Str → Option Value} {base : Heap}
theorem fnok_mk {x : Str} {st : Stmt} {N ps : List Str} {k : Nat} {sp : Sp} (S : FnScope N ps (defScope st))
    (len : ∀ vs H Q E, sp vs H Q E → vs.length = ps.length)
    (body : ∀ (f : Addr) (cdv : Value) (A : Around) (outer : List Env) (s : Shared) (H : Hp) (vs : List V) (Q : VK) (E : XK), Room k (A.deeper (envOfC x (defScope st) s.heap.objs.size f cdv)) → sp vs H Q E →
      ∃ t, PSs (cxOf CX0 P w K mg base N x (defScope st) f cdv A outer s H E).nox (defBody st) t ∧ t { nx := fun _ H' => Q .non H', rt := Q } (start N vs) H) : ∀ (f : Addr) (fd : FuncData), FnP K x st f fd → FnOk P w K mg base CX0 (k + 1) f fd ps sp := fun f fd FF =>
  FF.ok S len fun cdv A outer s H vs Q E hr h => by
    obtain ⟨t, h1, h2⟩ := body f cdv A outer s H vs Q E hr h
    exact ⟨t, h1.nox, h2⟩
def sp_law (K : PySem.W.Frag) : Sp := fun vs H Q _ => ∃ (a : Addr) (ns : List Int), vs = [.ref a] ∧ SqL K H a (iv ns) ∧ ns.length ≤ 100 ∧ ∀ H', Q (.bl true) H'
theorem sc_law : FnScope ["_law_script", "_law_pot_here", "_law_many", "_law_most", "_law_hands", "_law_sides", "_law_hand", "_law_wants", "_law_more", "_law_fewer", "_law_town", "_law_low"] ["_law_script"] (defScope (top 62)) := ⟨rfl, rfl, rfl, by decide +kernel, rfl, by decide +kernel, by decide +kernel⟩
theorem ok_law (D : Defs K mg) (C_greatest_gain : Callee P w K mg base 2 "greatest_gain" ["want", "prices"] (sp_greatest_gain K)) (C_rising : Callee P w K mg base 7 "rising" ["town"] (sp_rising K)) (C_falling : Callee P w K mg base 7 "falling" ["town"] (sp_falling K)) (C_greatest : Callee P w K mg base 3 "greatest" ["town"] (sp_greatest K)) (C_low_prices : Callee P w K mg base 6 "low_prices" ["town"] (sp_low_prices K)) (C_high_prices : Callee P w K mg base 6 "high_prices" ["town"] (sp_high_prices K)) (C_rising_from : Callee P w K mg base 7 "rising_from" ["town", "prices"] (sp_rising_from K)) (C_falling_from : Callee P w K mg base 7 "falling_from" ["town", "prices"] (sp_falling_from K)) (C_l_pot : Callee P w K mg base 1 "_law_pot" ["_law_script"] (sp_l_pot K)) (C_l_draw : Callee P w K mg base 2 "_law_draw" ["_law_pot_here", "_law_many"] (sp_l_draw K)) (C_l_kind_want : Callee P w K mg base 3 "_law_kind_want" ["_law_pot_here", "_law_sides", "_law_most"] (sp_l_kind_want K)) (C_l_no_less : Callee P w K mg base 1 "_law_no_less" ["_law_some_here", "_law_others"] (sp_l_no_less K)) : ∀ (f : Addr) (fd : FuncData), FnP K "law" (top 62) f fd → FnOk P w K mg base CX0 8 f fd ["_law_script"] (sp_law K) := by
  obtain ⟨f_greatest_gain, fd_greatest_gain, g_greatest_gain, m_greatest_gain, k_greatest_gain, b_greatest_gain⟩ := C_greatest_gain.ex
  obtain ⟨f_rising, fd_rising, g_rising, m_rising, k_rising, b_rising⟩ := C_rising.ex
  obtain ⟨f_falling, fd_falling, g_falling, m_falling, k_falling, b_falling⟩ := C_falling.ex
  obtain ⟨f_greatest, fd_greatest, g_greatest, m_greatest, k_greatest, b_greatest⟩ := C_greatest.ex
  obtain ⟨f_low_prices, fd_low_prices, g_low_prices, m_low_prices, k_low_prices, b_low_prices⟩ := C_low_prices.ex
  obtain ⟨f_high_prices, fd_high_prices, g_high_prices, m_high_prices, k_high_prices, b_high_prices⟩ := C_high_prices.ex
  obtain ⟨f_rising_from, fd_rising_from, g_rising_from, m_rising_from, k_rising_from, b_rising_from⟩ := C_rising_from.ex
  obtain ⟨f_falling_from, fd_falling_from, g_falling_from, m_falling_from, k_falling_from, b_falling_from⟩ := C_falling_from.ex
  obtain ⟨f_l_pot, fd_l_pot, g_l_pot, m_l_pot, k_l_pot, b_l_pot⟩ := C_l_pot.ex
  obtain ⟨f_l_draw, fd_l_draw, g_l_draw, m_l_draw, k_l_draw, b_l_draw⟩ := C_l_draw.ex
  obtain ⟨f_l_kind_want, fd_l_kind_want, g_l_kind_want, m_l_kind_want, k_l_kind_want, b_l_kind_want⟩ := C_l_kind_want.ex
  obtain ⟨f_l_no_less, fd_l_no_less, g_l_no_less, m_l_no_less, k_l_no_less, b_l_no_less⟩ := C_l_no_less.ex
  refine fnok_mk sc_law (fun vs H Q E h => ?_) (fun f cdv A outer s H vs Q E hr h => ?_)
  · obtain ⟨a, ns, rfl, _⟩ := h; rfl
  · obtain ⟨a, ns, rfl, ha, hn, q⟩ := h
    refine ⟨_, (pss_cons (ps_set (i := 1) sc_law.nd rfl (.inr rfl) (pe_call g_l_pot (hr.mono (by decide)) (by rfl) m_l_pot k_l_pot b_l_pot .nil pass0 (pa_cons (pv 0) pa_nil))) (pss_cons (ps_asg (pe_tup (pa_cons (pe_op op_add pe_int (pe_call g_l_draw (hr.mono (by decide)) (by rfl) m_l_draw k_l_draw b_l_draw .nil pass0 (pa_cons (pv 1) (pa_cons pe_int pa_nil)))) (pa_cons pe_int pa_nil))) (pg_tup rfl (pgs_cons (pg_name (i := 2) sc_law.nd rfl (.inl rfl)) (pgs_cons (pg_name (i := 3) sc_law.nd rfl (.inr rfl)) pgs_nil)))) (pss_cons (ps_set (i := 4) sc_law.nd rfl (.inl rfl) (pe_op op_add pe_int (pe_call g_l_draw (hr.mono (by decide)) (by rfl) m_l_draw k_l_draw b_l_draw .nil pass0 (pa_cons (pv 1) (pa_cons pe_int pa_nil))))) (pss_cons (ps_if (pt_cmpR op_eq (pe_call g_l_draw (hr.mono (by decide)) (by rfl) m_l_draw k_l_draw b_l_draw .nil pass0 (pa_cons (pv 1) (pa_cons pe_int pa_nil))) pe_int (nomark _)) (pss_cons (ps_set (i := 2) sc_law.nd rfl (.inl rfl) (pe_ix (ix_listK (K := K)) (pe_lst (pa_cons pe_int (pa_cons pe_int (pa_cons pe_int (pa_cons pe_int pa_nil))))) (pe_call g_l_draw (hr.mono (by decide)) (by rfl) m_l_draw k_l_draw b_l_draw .nil pass0 (pa_cons (pv 1) (pa_cons pe_int pa_nil))) (fun _ _ => rfl))) (pss_one (ps_asg (pe_tup (pa_cons (pe_op op_sub pe_int (pv 2)) (pa_cons (pe_op op_add pe_int (pe_call g_l_draw (hr.mono (by decide)) (by rfl) m_l_draw k_l_draw b_l_draw .nil pass0 (pa_cons (pv 1) (pa_cons pe_int pa_nil)))) pa_nil))) (pg_tup rfl (pgs_cons (pg_name (i := 3) sc_law.nd rfl (.inr rfl)) (pgs_cons (pg_name (i := 4) sc_law.nd rfl (.inl rfl)) pgs_nil)))))) pss_nil) (pss_cons (ps_set (i := 5) sc_law.nd rfl (.inr rfl) (pe_op op_repT1 (pe_tup (pa_cons pe_int pa_nil)) (pv 2))) (pss_cons (ps_set (i := 7) sc_law.nd rfl (.inl rfl) (pe_callTy call_tuple_of (by rfl) D.tuple_ bt_tuple (pa_cons (pe_lc (own := [("_law_hand", 6)]) (g := (gName 6)) (tt := tYes) rfl sc_law.nd (pi_range1 (by rfl) D.range_ (pa_cons (pv 4) pa_nil)) (blkOk_by (own := [("_law_hand", 6)]) (N := ["_law_script", "_law_pot_here", "_law_many", "_law_most", "_law_hands", "_law_sides", "_law_hand", "_law_wants", "_law_more", "_law_fewer", "_law_town", "_law_low"]) (sc := defScope (top 62)) (by decide +kernel)) (fun _ _ _ _ _ => (pg_name (i := 6) sc_law.nd rfl (.inl rfl))) (fun _ _ _ _ _ => pts_nil) (fun _ _ _ _ _ => (pe_call g_l_kind_want (hr.mono (by decide)) (by rfl) m_l_kind_want k_l_kind_want b_l_kind_want .nil pass0 (pa_cons (pv 1) (pa_cons (pv 5) (pa_cons (pv 3) pa_nil)))))) pa_nil))) (pss_cons (ps_set (i := 8) sc_law.nd rfl (.inl rfl) (pe_call g_l_kind_want (hr.mono (by decide)) (by rfl) m_l_kind_want k_l_kind_want b_l_kind_want .nil pass0 (pa_cons (pv 1) (pa_cons (pv 5) (pa_cons (pv 3) pa_nil))))) (pss_cons (ps_par (i := 9) (j := 10) rfl sc_law.nd rfl rfl (by decide) rfl rfl (pa_cons (pe_tup (pa_cons (pv 5) (pa_cons (pv 7) pa_nil))) (pa_cons (pe_tup (pa_cons (pv 5) (pa_cons (pe_op op_catT (pv 7) (pe_tup (pa_cons (pv 8) pa_nil))) pa_nil))) pa_nil)) (by rfl)) (pss_cons (ps_if (pt_not (pt_val (pe_call g_l_no_less (hr.mono (by decide)) (by rfl) m_l_no_less k_l_no_less b_l_no_less .nil pass0 (pa_cons (pe_ix (ix_tupK (K := K)) (pe_call g_rising (hr.mono (by decide)) (by rfl) m_rising k_rising b_rising .nil pass0 (pa_cons (pv 9) pa_nil)) pe_int (fun _ _ => rfl)) (pa_cons (pe_ix (ix_tupK (K := K)) (pe_call g_rising (hr.mono (by decide)) (by rfl) m_rising k_rising b_rising .nil pass0 (pa_cons (pv 10) pa_nil)) pe_int (fun _ _ => rfl)) pa_nil))))) (pss_one (ps_ret pe_bl)) pss_nil) (pss_cons (ps_if (pt_not (pt_val (pe_call g_l_no_less (hr.mono (by decide)) (by rfl) m_l_no_less k_l_no_less b_l_no_less .nil pass0 (pa_cons (pe_ix (ix_tupK (K := K)) (pe_call g_falling (hr.mono (by decide)) (by rfl) m_falling k_falling b_falling .nil pass0 (pa_cons (pv 9) pa_nil)) pe_int (fun _ _ => rfl)) (pa_cons (pe_ix (ix_tupK (K := K)) (pe_call g_falling (hr.mono (by decide)) (by rfl) m_falling k_falling b_falling .nil pass0 (pa_cons (pv 10) pa_nil)) pe_int (fun _ _ => rfl)) pa_nil))))) (pss_one (ps_ret pe_bl)) pss_nil) (pss_cons (ps_set (i := 11) sc_law.nd rfl (.inl rfl) (pe_call g_low_prices (hr.mono (by decide)) (by rfl) m_low_prices k_low_prices b_low_prices .nil pass0 (pa_cons (pv 9) pa_nil))) (pss_cons (ps_if (PW.pt (pw_or (pt_not (pt_val (pe_call g_l_no_less (hr.mono (by decide)) (by rfl) m_l_no_less k_l_no_less b_l_no_less .nil pass0 (pa_cons (pv 11) (pa_cons (pe_call g_low_prices (hr.mono (by decide)) (by rfl) m_low_prices k_low_prices b_low_prices .nil pass0 (pa_cons (pv 10) pa_nil)) pa_nil))))) (pw_or1 (pt_not (pt_val (pe_call g_l_no_less (hr.mono (by decide)) (by rfl) m_l_no_less k_l_no_less b_l_no_less .nil pass0 (pa_cons (pe_call g_high_prices (hr.mono (by decide)) (by rfl) m_high_prices k_high_prices b_high_prices .nil pass0 (pa_cons (pv 9) pa_nil)) (pa_cons (pe_call g_high_prices (hr.mono (by decide)) (by rfl) m_high_prices k_high_prices b_high_prices .nil pass0 (pa_cons (pv 10) pa_nil)) pa_nil)))))))) (pss_one (ps_ret pe_bl)) pss_nil) (pss_cons (ps_if (pt_cmpR (op_neD hr.units) (pe_ix (ix_tupK (K := K)) (pe_call g_rising_from (hr.mono (by decide)) (by rfl) m_rising_from k_rising_from b_rising_from .nil pass0 (pa_cons (pv 10) (pa_cons (pv 11) pa_nil))) pe_int (fun _ _ => rfl)) (pe_call g_low_prices (hr.mono (by decide)) (by rfl) m_low_prices k_low_prices b_low_prices .nil pass0 (pa_cons (pv 10) pa_nil)) (nomark _)) (pss_one (ps_ret pe_bl)) pss_nil) (pss_cons (ps_if (pt_cmpR (op_neD hr.units) (pe_ix (ix_tupK (K := K)) (pe_call g_falling_from (hr.mono (by decide)) (by rfl) m_falling_from k_falling_from b_falling_from .nil pass0 (pa_cons (pv 9) (pa_cons (pe_call g_high_prices (hr.mono (by decide)) (by rfl) m_high_prices k_high_prices b_high_prices .nil pass0 (pa_cons (pv 10) pa_nil)) pa_nil))) pe_int (fun _ _ => rfl)) (pe_call g_high_prices (hr.mono (by decide)) (by rfl) m_high_prices k_high_prices b_high_prices .nil pass0 (pa_cons (pv 9) pa_nil)) (nomark _)) (pss_one (ps_ret pe_bl)) pss_nil) (pss_one (ps_ret (pe_chain op_le op_le (pe_call g_greatest (hr.mono (by decide)) (by rfl) m_greatest k_greatest b_greatest .nil pass0 (pa_cons (pv 9) pa_nil)) (pe_call g_greatest (hr.mono (by decide)) (by rfl) m_greatest k_greatest b_greatest .nil pass0 (pa_cons (pv 10) pa_nil)) (pe_op op_add (pe_call g_greatest (hr.mono (by decide)) (by rfl) m_greatest k_greatest b_greatest .nil pass0 (pa_cons (pv 9) pa_nil)) (pe_call g_greatest_gain (hr.mono (by decide)) (by rfl) m_greatest_gain k_greatest_gain b_greatest_gain .nil pass0 (pa_cons (pv 8) (pa_cons (pv 11) pa_nil))))))))))))))))))))), ?_⟩
    refine ⟨_, rfl, a, ns, rfl, .inl ha, hn, fun H1 p l s1 P1 np nl => ?_⟩
    refine ⟨_, rfl, p, l, 3, rfl, P1, by decide, by decide, fun H2 d1 o2 P2 hd1 => ?_⟩
    refine ⟨_, _, rfl, rfl, by show 2 ≤ sizeLine; decide, fun z nz => ?_⟩
    refine ⟨z, _, rfl, SqT.new, rfl, _, _, rfl, _, _, rfl, rfl, ?_⟩
    have P3 : Pot (upd H2 z (.tup [.int (1 + (d1 : Int)), .int 8])) p l := P2.same (same_new nz)
    refine ⟨_, rfl, p, l, 4, rfl, P3, by decide, by decide, fun H4 d2 o4 P4 hd2 => ?_⟩
    refine ⟨_, _, rfl, rfl, ?_⟩
    refine gN ?_
    dsimp only
    refine seq_cut (fun σ H' => ∃ (m hands : Nat) (most : Int), σ = [some (.ref a), some (.ref p), some (.int (m : Nat)), some (.int most), some (.int (hands : Nat)), none, none, none, none, none, none, none] ∧ Pot H' p l ∧ 1 ≤ m ∧ m ≤ 5 ∧ 1 ≤ hands ∧ hands ≤ 4 ∧ 0 ≤ most ∧ most ≤ 8) (fun σ H5 hJ => ?_) (fun R hR => ?_)
    rotate_left
    · refine ⟨_, rfl, p, l, 8, rfl, P4, by decide, by decide, fun H5 d3 o5 P5 hd3 => ?_⟩
      refine ⟨rfl, _, rfl, ?_⟩
      refine ite2 (fun hc => ?_) (fun hc => ?_)
      · refine ⟨by show 4 ≤ sizeLine; decide, fun u nu => ?_⟩
        have P6 : Pot (upd H5 u (.lst [.int 4, .int 4, .int 4, .int 5])) p l := P5.same (same_new nu)
        have nu' := P5.off nu
        refine ⟨_, rfl, p, l, 4, rfl, P6, by decide, by decide, fun H6 d4 o6 P7 hd4 => ?_⟩
        have eu := o6 _ _ upd_same nu'.1 nu'.2
        obtain ⟨m', hm', e4⟩ : ∃ m' : Nat, (m' = 4 ∨ m' = 5) ∧ atI [V.int 4, .int 4, .int 4, .int 5] (d4 : Int) = some (.int (m' : Nat)) := by
          have hcase : d4 = 0 ∨ d4 = 1 ∨ d4 = 2 ∨ d4 = 3 := by omega
          rcases hcase with rfl | rfl | rfl | rfl
          · exact ⟨4, .inl rfl, rfl⟩
          · exact ⟨4, .inl rfl, rfl⟩
          · exact ⟨4, .inl rfl, rfl⟩
          · exact ⟨5, .inr rfl, rfl⟩
        refine ⟨u, _, _, _, rfl, rfl, SqL.of eu, e4, ?_⟩
        refine ⟨_, rfl, _, _, rfl, rfl, _, rfl, p, l, 2, rfl, P7, by decide, by decide, fun H8 d5 o8 P8 hd5 => ?_⟩
        refine ⟨_, _, rfl, rfl, by show 2 ≤ sizeLine; decide, fun z2 nz2 => ?_⟩
        refine ⟨z2, _, rfl, SqT.new, rfl, _, _, rfl, _, _, rfl, rfl, ?_⟩
        refine hR _ _ ⟨m', 1 + d5, 6 - (m' : Int), ?_, P8.same (same_new nz2), by omega, by omega, by omega, by omega, by omega, by omega⟩
        rw [show ((1 + d5 : Nat) : Int) = 1 + (d5 : Int) by omega]
        rfl
      · refine hR _ _ ⟨1 + d1, 1 + d2, 8, ?_, P5, by omega, by omega, by omega, by omega, by decide, by decide⟩
        rw [show ((1 + d1 : Nat) : Int) = 1 + (d1 : Int) by omega, show ((1 + d2 : Nat) : Int) = 1 + (d2 : Int) by omega]
        rfl
    obtain ⟨m, hands, most, rfl, P5, hm1, hm5, hh1, hh4, hy0, hy8⟩ := hJ
    refine ⟨by show 1 ≤ sizeLine; decide, fun u nu => ?_⟩
    have P6 : Pot (upd H5 u (.tup [.int 0])) p l := P5.same (same_new nu)
    refine ⟨_, rfl, u, _, _, rfl, rfl, SqT.new, by simp, by omega, by omega, by simp, fun s H7 s7 es => ?_⟩
    rw [flat_zeros, zeros_iv] at es
    have P7 := P6.same s7
    refine ⟨_, rfl, _, rfl, by omega, by omega, fun L hL => ?_⟩
    have wk : Walk (Itr 0 ((hands : Int)).toNat) hands (fun _ => True) (fun i H x H' => H' = H ∧ x = .int ((i : Nat) : Int)) := by
      rw [Int.toNat_natCast]
      exact walk_range0
    refine lc_rel wk (fun i H' => Bunch K p l L m H7 H' i) (Bunch.new P7 hL) (fun _ _ _ _ => trivial) (fun i x H8 H9 hi bn hy => ?_) (fun H8 bn => ?_)
    · obtain ⟨rfl, rfl⟩ := hy
      refine ⟨rfl, _, rfl, _, rfl, _, rfl, p, l, s, m, most, rfl, bn.pot, bn.off.tup P7 es, hm1, hm5, hy0, hy8, fun H10 t tab o10 p10 et gt => ?_⟩
      exact bn.more P7 hL o10 p10 et gt (by omega)
    obtain ⟨wa, wants, hwa, hwl, eL, hb, hgs⟩ := bn.ex
    refine ⟨L, _, rfl, .inl ⟨SqL.of eL, fun wv nwv => ?_⟩⟩
    have sw : Same H8 (upd H8 wv (.tup (wa.map V.ref))) := same_new nwv
    have Pw := bn.pot.same sw
    have esw := sw.tup (bn.off.tup P7 es)
    refine ⟨_, rfl, _, rfl, _, rfl, p, l, s, m, most, rfl, Pw, esw, hm1, hm5, hy0, hy8, fun H10 mt tab o10 P10 et gt => ?_⟩
    have ow : Off p l H8 H10 := (Off.of sw).trans o10
    have es10 := o10.tup Pw esw
    have ewv : SqT K H10 wv (wa.map V.ref) := o10.tup Pw SqT.new
    have eb10 : ∀ k b, wa[k]? = some b → SqT K H10 b (iv (wt wants k)) := fun k b hk => ow.tup bn.pot (hb k b hk)
    clear hb eL o10 ow sw Pw esw
    refine ⟨_, rfl, _, rfl, by show 2 ≤ sizeLine; decide, fun t1 nt1 => ?_⟩
    have sA := same_new (o := HO.tup [.ref s, .ref wv]) nt1
    refine ⟨_, rfl, _, rfl, _, rfl, by show 1 ≤ sizeLine; decide, fun z3 nz3 => ?_⟩
    have sB := sA.trans (same_new (o := HO.tup [.ref mt]) nz3)
    have hne : wa.map V.ref ≠ [] := fun e => by
      have := congrArg List.length e
      rw [List.length_map, hwa] at this
      simp at this
      omega
    refine ⟨wv, z3, _, _, rfl, rfl, sB.tup ewv, SqT.new, hne, by rw [List.length_map, hwa]; exact le_line (by simp; omega), (fun e => by cases e), fun _ wv2 nwv2 => ?_⟩
    have sC := sB.trans (same_new (o := HO.tup (wa.map V.ref ++ [.ref mt])) nwv2)
    refine ⟨by show 2 ≤ sizeLine; decide, fun t2 nt2 => ?_⟩
    have sD := sC.trans (same_new (o := HO.tup [.ref s, .ref wv2]) nt2)
    refine ⟨_, _, rfl, ?_⟩
    have hlen : wa.length = wants.length := by omega
    have T1 : Town K (upd (upd (upd (upd H10 t1 (.tup [.ref s, .ref wv])) z3 (.tup [.ref mt])) wv2 (.tup (wa.map V.ref ++ [.ref mt]))) t2 (.tup [.ref s, .ref wv2])) t1 s wv wa m wants := by
      have z : Town K (upd H10 t1 (.tup [.ref s, .ref wv])) t1 s wv wa m wants := ⟨SqT.new, sA.tup es10, sA.tup ewv, hlen, fun k b hk => sA.tup (eb10 k b hk)⟩
      exact z.same (((same_new nz3).trans (same_new nwv2)).trans (same_new nt2))
    have T2 : Town K (upd (upd (upd (upd H10 t1 (.tup [.ref s, .ref wv])) z3 (.tup [.ref mt])) wv2 (.tup (wa.map V.ref ++ [.ref mt]))) t2 (.tup [.ref s, .ref wv2])) t2 s wv2 (wa ++ [mt]) m (wants ++ [tab]) := by
      refine ⟨SqT.new, sD.tup es10, ?_, by rw [List.length_append, List.length_append, hlen]; rfl, fun k b hk => ?_⟩
      · rw [List.map_append]
        exact (same_new nt2).tup SqT.new
      · by_cases hlt : k < wa.length
        · rw [List.getElem?_append_left hlt] at hk
          rw [wt_app1 (by omega)]
          exact sD.tup (eb10 k b hk)
        · have ek : k = wa.length := by
            have := (List.getElem?_eq_some_iff.mp hk).1
            rw [List.length_append, List.length_singleton] at this
            omega
          subst ek
          rw [List.getElem?_append_right (Nat.le_refl _), Nat.sub_self] at hk
          have : mt = b := Option.some.inj hk
          subst this
          rw [hlen, wt_app2]
          exact sD.tup et
    have emt := sD.tup et
    generalize (upd (upd (upd (upd H10 t1 (.tup [.ref s, .ref wv])) z3 (.tup [.ref mt])) wv2 (.tup (wa.map V.ref ++ [.ref mt]))) t2 (.tup [.ref s, .ref wv2])) = H0 at T1 T2 emt ⊢
    have G1 : GoodTown m wants := ⟨hm1, hm5, by omega, hgs⟩
    have G2 : GoodTown m (wants ++ [tab]) := K98.good_more G1 gt
    have n1 : wants.length ≤ 100 := by omega
    have n2 : (wants ++ [tab]).length ≤ 100 := by rw [List.length_append, List.length_singleton]; omega
    have ll1 := K98.lowL_len m wants
    have ll2 := K98.lowL_len m (wants ++ [tab])
    have lh1 := K98.highL_len m wants
    have lh2 := K98.highL_len m (wants ++ [tab])
    have lowle : ∀ t, t < (lowL m wants).length → pf (lowL m wants) t ≤ pf (lowL m (wants ++ [tab])) t := fun t ht => K98.low_grows G1 gt (by omega)
    have highle : ∀ t, t < (highL m wants).length → pf (highL m wants) t ≤ pf (highL m (wants ++ [tab])) t := fun t ht => K98.high_grows G1 gt (by omega)
    have under : Under m (wants ++ [tab]) (lowL m wants) := ⟨ll1, fun t ht => K98.low_nonneg G1 ht, fun t ht => K98.low_grows G1 gt ht⟩
    have over : Over m wants (highL m (wants ++ [tab])) := ⟨lh2, fun t ht => K98.high_grows G1 gt ht⟩
    have h80 : ∀ t, t < m → pf (highL m (wants ++ [tab])) t ≤ 80 := fun t ht => Int.le_trans (K98.high_le_top G2 ht) (K98.top_le G2)
    obtain ⟨gr1, gr2⟩ := K98.great_grows G1 gt
    -- rising
    refine ⟨_, rfl, t1, s, wv, wa, m, wants, rfl, T1, G1, n1, fun Ha pa ra pra sa spa spra => ?_⟩
    refine ⟨pa, _, _, _, rfl, rfl, spa, rfl, _, rfl, t2, s, wv2, _, m, _, rfl, T2.same sa, G2, n2, fun Hb pb rb prb sb spb sprb => ?_⟩
    refine ⟨pb, _, _, _, rfl, rfl, spb, rfl, pra, prb, _, _, rfl, sb.tup spra, sprb, by rw [ll1, ll2], by omega, lowle, fun Hc sc => ⟨_, rfl, iteF ?_⟩⟩
    have sc0 := (sa.trans sb).trans sc
    -- falling
    refine ⟨_, rfl, t1, s, wv, wa, m, wants, rfl, T1.same sc0, G1, n1, fun Ha' pa' ra' pra' sa' spa' spra' => ?_⟩
    refine ⟨pa', _, _, _, rfl, rfl, spa', rfl, _, rfl, t2, s, wv2, _, m, _, rfl, T2.same (sc0.trans sa'), G2, n2, fun Hb' pb' rb' prb' sb' spb' sprb' => ?_⟩
    refine ⟨pb', _, _, _, rfl, rfl, spb', rfl, pra', prb', _, _, rfl, sb'.tup spra', sprb', by rw [lh1, lh2], by omega, highle, fun Hd sd => ⟨_, rfl, iteF ?_⟩⟩
    have sd0 := ((sc0.trans sa').trans sb').trans sd
    -- low
    refine ⟨_, rfl, t1, s, wv, wa, m, wants, rfl, T1.same sd0, G1, n1, fun He lp se nlp elp => ?_⟩
    have se0 := sd0.trans se
    refine ⟨_, rfl, _, rfl, t2, s, wv2, _, m, _, rfl, T2.same se0, G2, n2, fun Hf lq sf nlq elq => ?_⟩
    have sf0 := se0.trans sf
    refine ⟨lp, lq, _, _, rfl, sf.tup (SqT.of elp), SqT.of elq, by rw [ll1, ll2], by omega, lowle, fun Hg sg => ⟨_, rfl, iteF ?_⟩⟩
    have sg0 := sf0.trans sg
    refine ⟨_, rfl, t1, s, wv, wa, m, wants, rfl, T1.same sg0, G1, n1, fun Hh hp2 sh nhp ehp => ?_⟩
    have sh0 := sg0.trans sh
    refine ⟨_, rfl, t2, s, wv2, _, m, _, rfl, T2.same sh0, G2, n2, fun Hi hq2 si nhq ehq => ?_⟩
    refine ⟨hp2, hq2, _, _, rfl, si.tup (SqT.of ehp), SqT.of ehq, by rw [lh1, lh2], by omega, highle, fun Hj sj => ⟨_, rfl, iteF ?_⟩⟩
    have sj0 := (sh0.trans si).trans sj
    have elpj : SqT K Hj lp (iv (lowL m wants)) := ((((sf.trans sg).trans sh).trans si).trans sj).tup (SqT.of elp)
    -- rising from the low ones
    refine ⟨_, rfl, _, rfl, t2, s, wv2, _, m, _, lp, _, rfl, T2.same sj0, G2, n2, elpj, under, fun Hk pk rk prk sk spk sprk => ?_⟩
    have sk0 := sj0.trans sk
    refine ⟨pk, _, _, _, rfl, rfl, spk, rfl, _, rfl, t2, s, wv2, _, m, _, rfl, T2.same sk0, G2, n2, fun Hl l3 sl nl3 el3 => ?_⟩
    have sl0 := sk0.trans sl
    refine ne_same (sl.tup sprk) (SqT.of el3) ⟨_, rfl, iteF ?_⟩
    -- falling from the high ones
    refine ⟨_, rfl, _, rfl, t2, s, wv2, _, m, _, rfl, T2.same sl0, G2, n2, fun Hm h3 sm nh3 eh3 => ?_⟩
    have sm0 := sl0.trans sm
    refine ⟨t1, s, wv, wa, m, wants, h3, _, rfl, T1.same sm0, G1, n1, SqT.of eh3, over, h80, fun Hn pn rn prn sn spn sprn => ?_⟩
    have sn0 := sm0.trans sn
    refine ⟨pn, _, _, _, rfl, rfl, spn, rfl, _, rfl, t1, s, wv, wa, m, wants, rfl, T1.same sn0, G1, n1, fun Ho h4 so nh4 eh4 => ?_⟩
    have so0 := sn0.trans so
    refine ne_same (so.tup sprn) (SqT.of eh4) ⟨_, rfl, iteF ?_⟩
    have elpo : SqT K Ho lp (iv (lowL m wants)) := ((((sk.trans sl).trans sm).trans sn).trans so).tup elpj
    -- the greatest sums
    refine ⟨_, rfl, t1, s, wv, wa, m, wants, rfl, T1.same so0, G1, fun Hp1 sp1 => ?_⟩
    refine ⟨_, rfl, t2, s, wv2, _, m, _, rfl, T2.same (so0.trans sp1), G2, fun Hp2 sp2 => ?_⟩
    have e1 : decide (greatL wants m ≤ greatL (wants ++ [tab]) m) = true := decide_eq_true gr1
    refine ⟨_, _, rfl, rfl, true, congrArg V.bl e1, iteT ?_⟩
    refine ⟨_, rfl, t1, s, wv, wa, m, wants, rfl, T1.same ((so0.trans sp1).trans sp2), G1, fun Hp3 sp3 => ?_⟩
    have sp0 := ((so0.trans sp1).trans sp2).trans sp3
    refine ⟨_, rfl, _, rfl, mt, lp, tab, lowL m wants, m, rfl, sp0.tup emt, ((sp1.trans sp2).trans sp3).tup elpo, gt.len, ll1, by omega, fun Hp4 sp4 => ?_⟩
    have e2 : decide (greatL (wants ++ [tab]) m ≤ greatL wants m + ggain tab m (pf (lowL m wants))) = true := decide_eq_true gr2
    refine ⟨_, _, rfl, rfl, _, _, rfl, rfl, ?_⟩
    show Q (.bl (decide (greatL (wants ++ [tab]) m ≤ greatL wants m + ggain tab m (pf (lowL m wants))))) Hp4
    rw [e2]
    exact q Hp4
end
end K98W
set_option Elab.async false
set_option linter.all false
set_option maxRecDepth 100000
set_option maxHeartbeats 0
/-! K98: the head by facts, and the claim. -/
namespace K98H
open PySem PySem.Spec PyProof.Rows L2 K98W

def d_things_in : He.DefD := ⟨("things_in", none), "things_in", "things_in", defArgs (top 5), defBody (top 5), defScope (top 5), [], []⟩
def d_far_heap : He.DefD := ⟨("far_heap", none), "far_heap", "far_heap", defArgs (top 7), defBody (top 7), defScope (top 7), [], []⟩
def d_turned : He.DefD := ⟨("turned", none), "turned", "turned", defArgs (top 8), defBody (top 8), defScope (top 8), [], []⟩
def d_things_beside : He.DefD := ⟨("things_beside", none), "things_beside", "things_beside", defArgs (top 9), defBody (top 9), defScope (top 9), [], []⟩
def d_is_pair : He.DefD := ⟨("is_pair", none), "is_pair", "is_pair", defArgs (top 10), defBody (top 10), defScope (top 10), [], []⟩
def d_is_three : He.DefD := ⟨("is_three", none), "is_three", "is_three", defArgs (top 11), defBody (top 11), defScope (top 11), [], []⟩
def d_first_pair : He.DefD := ⟨("first_pair", none), "first_pair", "first_pair", defArgs (top 12), defBody (top 12), defScope (top 12), [], []⟩
def d_threes_beside : He.DefD := ⟨("threes_beside", none), "threes_beside", "threes_beside", defArgs (top 13), defBody (top 13), defScope (top 13), [], []⟩
def d_first_three : He.DefD := ⟨("first_three", none), "first_three", "first_three", defArgs (top 14), defBody (top 14), defScope (top 14), [], []⟩
def d_breaking : He.DefD := ⟨("breaking", none), "breaking", "breaking", defArgs (top 15), defBody (top 15), defScope (top 15), [], []⟩
def d_first_strange : He.DefD := ⟨("first_strange", none), "first_strange", "first_strange", defArgs (top 16), defBody (top 16), defScope (top 16), [], []⟩
def d_all_gains : He.DefD := ⟨("all_gains", none), "all_gains", "all_gains", defArgs (top 18), defBody (top 18), defScope (top 18), [], []⟩
def d_greatest_gain : He.DefD := ⟨("greatest_gain", none), "greatest_gain", "greatest_gain", defArgs (top 19), defBody (top 19), defScope (top 19), [], []⟩
def d_top_of : He.DefD := ⟨("top_of", none), "top_of", "top_of", defArgs (top 23), defBody (top 23), defScope (top 23), [], []⟩
def d_first_prices : He.DefD := ⟨("first_prices", none), "first_prices", "first_prices", defArgs (top 24), defBody (top 24), defScope (top 24), [], []⟩
def d_change_of : He.DefD := ⟨("change_of", none), "change_of", "change_of", defArgs (top 25), defBody (top 25), defScope (top 25), [], []⟩
def d_stepped : He.DefD := ⟨("stepped", none), "stepped", "stepped", defArgs (top 26), defBody (top 26), defScope (top 26), [], []⟩
def d_paid_and_gained : He.DefD := ⟨("paid_and_gained", none), "paid_and_gained", "paid_and_gained", defArgs (top 27), defBody (top 27), defScope (top 27), [], []⟩
def d_least_step : He.DefD := ⟨("least_step", none), "least_step", "least_step", defArgs (top 28), defBody (top 28), defScope (top 28), [], []⟩
def d_kind_checked : He.DefD := ⟨("kind_checked", none), "kind_checked", "kind_checked", defArgs (top 29), defBody (top 29), defScope (top 29), [], []⟩
def d_steps_by : He.DefD := ⟨("steps_by", none), "steps_by", "steps_by", defArgs (top 30), defBody (top 30), defScope (top 30), [], []⟩
def d_rising : He.DefD := ⟨("rising", none), "rising", "rising", defArgs (top 31), defBody (top 31), defScope (top 31), [], []⟩
def d_falling : He.DefD := ⟨("falling", none), "falling", "falling", defArgs (top 32), defBody (top 32), defScope (top 32), [], []⟩
def d_heaps_within : He.DefD := ⟨("heaps_within", none), "heaps_within", "heaps_within", defArgs (top 34), defBody (top 34), defScope (top 34), [], []⟩
def d_sums_by_heap : He.DefD := ⟨("sums_by_heap", none), "sums_by_heap", "sums_by_heap", defArgs (top 35), defBody (top 35), defScope (top 35), [], []⟩
def d_greatest : He.DefD := ⟨("greatest", none), "greatest", "greatest", defArgs (top 36), defBody (top 36), defScope (top 36), [], []⟩
def d_greatest_of : He.DefD := ⟨("greatest_of", none), "greatest_of", "greatest_of", defArgs (top 37), defBody (top 37), defScope (top 37), [], []⟩
def d_doubled : He.DefD := ⟨("doubled", none), "doubled", "doubled", defArgs (top 38), defBody (top 38), defScope (top 38), [], []⟩
def d_greatest_with_two : He.DefD := ⟨("greatest_with_two", none), "greatest_with_two", "greatest_with_two", defArgs (top 39), defBody (top 39), defScope (top 39), [], []⟩
def d_least_price : He.DefD := ⟨("least_price", none), "least_price", "least_price", defArgs (top 41), defBody (top 41), defScope (top 41), [], []⟩
def d_greatest_price : He.DefD := ⟨("greatest_price", none), "greatest_price", "greatest_price", defArgs (top 42), defBody (top 42), defScope (top 42), [], []⟩
def d_refuse_strange : He.DefD := ⟨("refuse_strange", none), "refuse_strange", "refuse_strange", defArgs (top 43), defBody (top 43), defScope (top 43), [], []⟩
def d_low_prices : He.DefD := ⟨("low_prices", none), "low_prices", "low_prices", defArgs (top 44), defBody (top 44), defScope (top 44), [], []⟩
def d_high_prices : He.DefD := ⟨("high_prices", none), "high_prices", "high_prices", defArgs (top 45), defBody (top 45), defScope (top 45), [], []⟩
def d_is_beyond : He.DefD := ⟨("is_beyond", none), "is_beyond", "is_beyond", defArgs (top 47), defBody (top 47), defScope (top 47), [], []⟩
def d_steps_from : He.DefD := ⟨("steps_from", none), "steps_from", "steps_from", defArgs (top 48), defBody (top 48), defScope (top 48), [], []⟩
def d_rising_from : He.DefD := ⟨("rising_from", none), "rising_from", "rising_from", defArgs (top 49), defBody (top 49), defScope (top 49), [], []⟩
def d_falling_from : He.DefD := ⟨("falling_from", none), "falling_from", "falling_from", defArgs (top 50), defBody (top 50), defScope (top 50), [], []⟩
def d_l_stirred : He.DefD := ⟨("_law_stirred", none), "_law_stirred", "_law_stirred", defArgs (top 52), defBody (top 52), defScope (top 52), [], []⟩
def d_l_pot : He.DefD := ⟨("_law_pot", none), "_law_pot", "_law_pot", defArgs (top 53), defBody (top 53), defScope (top 53), [], []⟩
def d_l_draw : He.DefD := ⟨("_law_draw", none), "_law_draw", "_law_draw", defArgs (top 54), defBody (top 54), defScope (top 54), [], []⟩
def d_l_costs : He.DefD := ⟨("_law_costs", none), "_law_costs", "_law_costs", defArgs (top 55), defBody (top 55), defScope (top 55), [], []⟩
def d_l_bits : He.DefD := ⟨("_law_bits", none), "_law_bits", "_law_bits", defArgs (top 56), defBody (top 56), defScope (top 56), [], []⟩
def d_l_some : He.DefD := ⟨("_law_some", none), "_law_some", "_law_some", defArgs (top 57), defBody (top 57), defScope (top 57), [], []⟩
def d_l_paired : He.DefD := ⟨("_law_paired", none), "_law_paired", "_law_paired", defArgs (top 58), defBody (top 58), defScope (top 58), [], []⟩
def d_l_joined : He.DefD := ⟨("_law_joined", none), "_law_joined", "_law_joined", defArgs (top 59), defBody (top 59), defScope (top 59), [], []⟩
def d_l_kind_want : He.DefD := ⟨("_law_kind_want", none), "_law_kind_want", "_law_kind_want", defArgs (top 60), defBody (top 60), defScope (top 60), [], []⟩
def d_l_no_less : He.DefD := ⟨("_law_no_less", none), "_law_no_less", "_law_no_less", defArgs (top 61), defBody (top 61), defScope (top 61), [], []⟩
def d_law : He.DefD := ⟨("law", none), "law", "law", defArgs (top 62), defBody (top 62), defScope (top 62), [], []⟩
def fn1 : List He.DefD := [d_things_in, d_far_heap, d_turned, d_things_beside, d_is_pair, d_is_three, d_first_pair, d_threes_beside, d_first_three, d_breaking, d_first_strange, d_all_gains, d_greatest_gain, d_top_of, d_first_prices, d_change_of, d_stepped, d_paid_and_gained, d_least_step, d_kind_checked, d_steps_by, d_rising, d_falling, d_heaps_within]
def fn2 : List He.DefD := [d_sums_by_heap, d_greatest, d_greatest_of, d_doubled, d_greatest_with_two, d_least_price, d_greatest_price, d_refuse_strange, d_low_prices, d_high_prices, d_is_beyond, d_steps_from, d_rising_from, d_falling_from, d_l_stirred, d_l_pot, d_l_draw, d_l_costs, d_l_bits, d_l_some, d_l_paired, d_l_joined, d_l_kind_want, d_l_no_less, d_law]
def fn : List He.DefD := fn1 ++ fn2
def fa1 : List He.Fa := [.glo "things_in", .glo "far_heap", .glo "turned", .glo "things_beside", .glo "is_pair", .glo "is_three", .glo "first_pair", .glo "threes_beside", .glo "first_three", .glo "breaking", .glo "first_strange", .glo "all_gains", .glo "greatest_gain", .glo "top_of", .glo "first_prices", .glo "change_of", .glo "stepped", .glo "paid_and_gained", .glo "least_step", .glo "kind_checked", .glo "steps_by", .glo "rising", .glo "falling", .glo "heaps_within"]
def fa2 : List He.Fa := [.glo "sums_by_heap", .glo "greatest", .glo "greatest_of", .glo "doubled", .glo "greatest_with_two", .glo "least_price", .glo "greatest_price", .glo "refuse_strange", .glo "low_prices", .glo "high_prices", .glo "is_beyond", .glo "steps_from", .glo "rising_from", .glo "falling_from", .glo "_law_stirred", .glo "_law_pot", .glo "_law_draw", .glo "_law_costs", .glo "_law_bits", .glo "_law_some", .glo "_law_paired", .glo "_law_joined", .glo "_law_kind_want", .glo "_law_no_less", .glo "law"]
def fa3 : List He.Fa := [.free "len", .free "list", .free "sum", .free "tuple", .free "sorted", .free "enumerate", .free "min", .free "abs", .free "all", .free "max", .free "range", .free "int", .free "zip", .int "BELOW" 1, .int "ABOVE" (-1)]
def fa : List He.Fa := fa1 ++ fa2 ++ fa3
def lo1 : List PySem.Str := ["WantError", "NotOfKind", "Beyond", "things_in", "far_heap", "turned", "things_beside", "is_pair", "is_three", "first_pair", "threes_beside", "first_three", "breaking", "first_strange", "all_gains", "greatest_gain", "top_of", "first_prices", "change_of", "stepped", "paid_and_gained", "least_step", "kind_checked", "steps_by", "rising", "falling", "heaps_within", "sums_by_heap", "greatest", "greatest_of"]
def lo2 : List PySem.Str := ["doubled", "greatest_with_two", "least_price", "greatest_price", "refuse_strange", "low_prices", "high_prices", "is_beyond", "steps_from", "rising_from", "falling_from", "_law_stirred", "_law_pot", "_law_draw", "_law_costs", "_law_bits", "_law_some", "_law_paired", "_law_joined", "_law_kind_want", "_law_no_less", "BELOW", "ABOVE"]
def lo : List PySem.Str := lo1 ++ lo2
abbrev R : PySem.W.OpenRow := PySem.W.OpenLaw.row PySem.Challenge.rw_wantprices_k98_whole_a_hand_more
abbrev hk : PySem.W.Hook := He.hookD 4 fa fn
def ob (s : PySem.W.SharedT) : He.AlD := He.obsDG 4 fa fn (HandSHeadRun.getT s)
theorem ob_eq (s : PySem.W.SharedT) : ob s = hk.obs s.abs := He.obsDG_eq (HandSHeadRun.getT_eq s)
theorem run (w : World) : HandSHeadRun.RunEq R (PySem.W.view R.prog [62]) hk ob 3000 lo w := by
  intro os
  kernel_rfl
theorem here {K : PySem.W.Frag} {h : Heap} {mg : Str → Option Value} (X : K.In h) (G : h.Ns mainGlobals mg) (c : He.SaysD fa fn K) (i : Nat) {x : Str} {st : Stmt}
    (hd : fn[i]? = some ⟨(x, none), x, x, defArgs st, defBody st, defScope st, [], []⟩) (hf : fa[i]? = some (.glo x)) : Here K mg x st := by
  obtain ⟨fd, F⟩ := c.def_ i hd
  exact ⟨_, fd, F, He.glo_ok X G (c.fact i hf)⟩
theorem all_defs {K : PySem.W.Frag} {h : Heap} {mg : Str → Option Value} (X : K.In h) (G : h.Ns mainGlobals mg) (c : He.SaysD fa fn K) : Defs K mg where
  f_things_in := here X G c 0 rfl rfl
  f_far_heap := here X G c 1 rfl rfl
  f_turned := here X G c 2 rfl rfl
  f_things_beside := here X G c 3 rfl rfl
  f_is_pair := here X G c 4 rfl rfl
  f_is_three := here X G c 5 rfl rfl
  f_first_pair := here X G c 6 rfl rfl
  f_threes_beside := here X G c 7 rfl rfl
  f_first_three := here X G c 8 rfl rfl
  f_breaking := here X G c 9 rfl rfl
  f_first_strange := here X G c 10 rfl rfl
  f_all_gains := here X G c 11 rfl rfl
  f_greatest_gain := here X G c 12 rfl rfl
  f_top_of := here X G c 13 rfl rfl
  f_first_prices := here X G c 14 rfl rfl
  f_change_of := here X G c 15 rfl rfl
  f_stepped := here X G c 16 rfl rfl
  f_paid_and_gained := here X G c 17 rfl rfl
  f_least_step := here X G c 18 rfl rfl
  f_kind_checked := here X G c 19 rfl rfl
  f_steps_by := here X G c 20 rfl rfl
  f_rising := here X G c 21 rfl rfl
  f_falling := here X G c 22 rfl rfl
  f_heaps_within := here X G c 23 rfl rfl
  f_sums_by_heap := here X G c 24 rfl rfl
  f_greatest := here X G c 25 rfl rfl
  f_greatest_of := here X G c 26 rfl rfl
  f_doubled := here X G c 27 rfl rfl
  f_greatest_with_two := here X G c 28 rfl rfl
  f_least_price := here X G c 29 rfl rfl
  f_greatest_price := here X G c 30 rfl rfl
  f_refuse_strange := here X G c 31 rfl rfl
  f_low_prices := here X G c 32 rfl rfl
  f_high_prices := here X G c 33 rfl rfl
  f_is_beyond := here X G c 34 rfl rfl
  f_steps_from := here X G c 35 rfl rfl
  f_rising_from := here X G c 36 rfl rfl
  f_falling_from := here X G c 37 rfl rfl
  f_l_stirred := here X G c 38 rfl rfl
  f_l_pot := here X G c 39 rfl rfl
  f_l_draw := here X G c 40 rfl rfl
  f_l_costs := here X G c 41 rfl rfl
  f_l_bits := here X G c 42 rfl rfl
  f_l_some := here X G c 43 rfl rfl
  f_l_paired := here X G c 44 rfl rfl
  f_l_joined := here X G c 45 rfl rfl
  f_l_kind_want := here X G c 46 rfl rfl
  f_l_no_less := here X G c 47 rfl rfl
  f_law := here X G c 48 rfl rfl
  len_ := He.free_ok X G (c.fact 49 (f := .free "len") rfl)
  list_ := He.free_ok X G (c.fact 50 (f := .free "list") rfl)
  sum_ := He.free_ok X G (c.fact 51 (f := .free "sum") rfl)
  tuple_ := He.free_ok X G (c.fact 52 (f := .free "tuple") rfl)
  sorted_ := He.free_ok X G (c.fact 53 (f := .free "sorted") rfl)
  enumerate_ := He.free_ok X G (c.fact 54 (f := .free "enumerate") rfl)
  min_ := He.free_ok X G (c.fact 55 (f := .free "min") rfl)
  abs_ := He.free_ok X G (c.fact 56 (f := .free "abs") rfl)
  all_ := He.free_ok X G (c.fact 57 (f := .free "all") rfl)
  max_ := He.free_ok X G (c.fact 58 (f := .free "max") rfl)
  range_ := He.free_ok X G (c.fact 59 (f := .free "range") rfl)
  int_ := He.free_ok X G (c.fact 60 (f := .free "int") rfl)
  zip_ := He.free_ok X G (c.fact 61 (f := .free "zip") rfl)
  BELOW_ := He.int_ok X G (c.fact 62 (f := .int "BELOW" 1) rfl)
  ABOVE_ := He.int_ok X G (c.fact 63 (f := .int "ABOVE" (-1)) rfl)
theorem law_ok {P : Program} {w : World} {K : PySem.W.Frag} {mg : Str → Option Value} {base : Heap} (D : Defs K mg) : ∀ (f : Addr) (fd : FuncData), FnP K "law" (top 62) f fd → FnOk P w K mg base CX0 8 f fd ["_law_script"] (sp_law K) := by
  have C_all_gains := ok_all_gains (P := P) (w := w) (base := base) D
  have C_greatest_gain := ok_greatest_gain (P := P) (w := w) (base := base) D C_all_gains
  have C_top_of := ok_top_of (P := P) (w := w) (base := base) D
  have C_first_prices := ok_first_prices (P := P) (w := w) (base := base) D C_top_of
  have C_things_in := ok_things_in (P := P) (w := w) (base := base) D
  have C_change_of := ok_change_of (P := P) (w := w) (base := base) D
  have C_stepped := ok_stepped (P := P) (w := w) (base := base) D C_things_in C_change_of
  have C_paid_and_gained := ok_paid_and_gained (P := P) (w := w) (base := base) D C_greatest_gain
  have C_least_step := ok_least_step (P := P) (w := w) (base := base) D C_stepped C_paid_and_gained
  have C_far_heap := ok_far_heap (P := P) (w := w) (base := base) D
  have C_turned := ok_turned (P := P) (w := w) (base := base) D C_far_heap
  have C_things_beside := ok_things_beside (P := P) (w := w) (base := base) D
  have C_is_pair := ok_is_pair (P := P) (w := w) (base := base) D
  have C_first_pair := ok_first_pair (P := P) (w := w) (base := base) D C_things_beside C_is_pair
  have C_is_three := ok_is_three (P := P) (w := w) (base := base) D
  have C_threes_beside := ok_threes_beside (P := P) (w := w) (base := base) D
  have C_first_three := ok_first_three (P := P) (w := w) (base := base) D C_things_beside C_is_three C_threes_beside
  have C_breaking := ok_breaking (P := P) (w := w) (base := base) D C_turned C_first_pair C_first_three
  have C_first_strange := ok_first_strange (P := P) (w := w) (base := base) D C_breaking
  have C_kind_checked := ok_kind_checked (P := P) (w := w) (base := base) D C_first_strange
  have C_steps_by := ok_steps_by (P := P) (w := w) (base := base) D C_first_prices C_stepped C_least_step C_kind_checked
  have C_rising := ok_rising (P := P) (w := w) (base := base) D C_steps_by
  have C_falling := ok_falling (P := P) (w := w) (base := base) D C_steps_by
  have C_heaps_within := ok_heaps_within (P := P) (w := w) (base := base) D
  have C_sums_by_heap := ok_sums_by_heap (P := P) (w := w) (base := base) D C_heaps_within
  have C_greatest := ok_greatest (P := P) (w := w) (base := base) D C_sums_by_heap
  have C_doubled := ok_doubled (P := P) (w := w) (base := base) D
  have C_greatest_with_two := ok_greatest_with_two (P := P) (w := w) (base := base) D C_sums_by_heap C_doubled
  have C_least_price := ok_least_price (P := P) (w := w) (base := base) D C_greatest C_greatest_with_two
  have C_greatest_of := ok_greatest_of (P := P) (w := w) (base := base) D C_sums_by_heap
  have C_greatest_price := ok_greatest_price (P := P) (w := w) (base := base) D C_greatest C_greatest_of
  have C_refuse_strange := ok_refuse_strange (P := P) (w := w) (base := base) D C_first_strange
  have C_low_prices := ok_low_prices (P := P) (w := w) (base := base) D C_least_price C_greatest_price C_refuse_strange
  have C_high_prices := ok_high_prices (P := P) (w := w) (base := base) D C_least_price C_greatest_price C_refuse_strange
  have C_is_beyond := ok_is_beyond (P := P) (w := w) (base := base) D C_least_price C_greatest_price
  have C_steps_from := ok_steps_from (P := P) (w := w) (base := base) D C_stepped C_least_step C_kind_checked C_is_beyond
  have C_rising_from := ok_rising_from (P := P) (w := w) (base := base) D C_steps_from
  have C_falling_from := ok_falling_from (P := P) (w := w) (base := base) D C_steps_from
  have C_l_pot := ok_l_pot (P := P) (w := w) (base := base) D
  have C_l_stirred := ok_l_stirred (P := P) (w := w) (base := base) D
  have C_l_draw := ok_l_draw (P := P) (w := w) (base := base) D C_l_stirred
  have C_l_costs := ok_l_costs (P := P) (w := w) (base := base) D
  have C_l_bits := ok_l_bits (P := P) (w := w) (base := base) D
  have C_l_some := ok_l_some (P := P) (w := w) (base := base) D C_l_costs C_l_bits
  have C_l_paired := ok_l_paired (P := P) (w := w) (base := base) D C_l_costs C_l_bits
  have C_l_joined := ok_l_joined (P := P) (w := w) (base := base) D
  have C_l_kind_want := ok_l_kind_want (P := P) (w := w) (base := base) D C_l_draw C_l_costs C_l_some C_l_paired C_l_joined
  have C_l_no_less := ok_l_no_less (P := P) (w := w) (base := base) D
  exact ok_law D C_greatest_gain C_rising C_falling C_greatest C_low_prices C_high_prices C_rising_from C_falling_from C_l_pot C_l_draw C_l_kind_want C_l_no_less
theorem facts {P : Program} {w : World} {K : PySem.W.Frag} {h : Heap} {mg : Str → Option Value} {f : Addr} (X : K.In h) (G : h.Ns mainGlobals mg) (hfa : mg ("law" : Str) = some (.ref f)) (c : He.SaysD fa fn K) :
    ∃ fd : FuncData, (∀ (s : Shared) (v : Value), BindsTo s fd ⟨[v], []⟩ [("_law_script", v)]) ∧ ∀ base : Heap, K.In base → base.Ns mainGlobals mg → FnOk P w K mg base CX0 8 f fd ["_law_script"] (sp_law K) := by
  obtain ⟨fd, F⟩ := c.def_ 48 (d := d_law) rfl
  have e := hfa.symm.trans (He.glo_ok X G (c.fact 48 (f := .glo "law") rfl))
  cases e
  have b := FunD.bindsA (ps := ["_law_script"]) F fun _ _ _ _ _ _ us hl => match us, hl with | [_], _ => rfl
  exact ⟨fd, fun s v => b s [v] rfl, fun base _ _ => law_ok (all_defs X G c) _ fd F⟩
end K98H
open PySem PySem.W PySem.Calls PyProof.Rows
theorem PySem.Challenge.cw_wantprices_k98_whole_a_hand_more_holds : PySem.Challenge.rw_wantprices_k98_whole_a_hand_more.Holds := by
  w_on; o_law
  refine HandSHeadRun.head_any (r := OpenLaw.row PySem.Challenge.rw_wantprices_k98_whole_a_hand_more) (q := view (OpenLaw.row PySem.Challenge.rw_wantprices_k98_whole_a_hand_more).prog [62]) (H := K98H.hk) (ob := K98H.ob) (M := 3000) (loose := K98H.lo) (d := HandSHeadRun.topDef (OpenLaw.row PySem.Challenge.rw_wantprices_k98_whole_a_hand_more).prog 62) (kwd := []) K98H.ob_eq
    (by kernel_rfl) (fun s => by kernel_rfl) K98H.run (by kernel_rfl) (by kernel_rfl) (by kernel_rfl) (by rfl) (by first | assumption | decide +kernel) (by decide +kernel) ⟨rfl, rfl, rfl, rfl, rfl, by decide +kernel⟩ ?hw ?hc
  case hw => w_witness2
  case hc =>
    refine L2.walk_ofE (l := PySem.Challenge.rw_wantprices_k98_whole_a_hand_more) (n := 63) (k := 8) (x := "_law_script") (CX := L2.CX0) rfl (by decide) (by kernel_rfl) ⟨rfl, by decide, by decide⟩ ?F (fun _ _ _ _ z => z)
    intro w mg fa h Y G hmg0
    obtain ⟨K, KX, c⟩ := Y
    have hmg : mg ("law" : PySem.Str) = some (.ref fa) := by
      have e : (HandSHeadRun.topDef (OpenLaw.row PySem.Challenge.rw_wantprices_k98_whole_a_hand_more).prog 62).name = ("law" : PySem.Str) := by kernel_rfl
      rw [← e]
      exact hmg0
    obtain ⟨fd, hb, hF⟩ := K98H.facts (P := (PySem.Challenge.rw_wantprices_k98_whole_a_hand_more).prog) (w := w) KX G hmg c
    exact ⟨K, fd, K98W.sp_law K, KX, hb, fun H a ns hl _ hS => ⟨a, ns, rfl, hS, by omega, fun _ => rfl⟩, hF⟩

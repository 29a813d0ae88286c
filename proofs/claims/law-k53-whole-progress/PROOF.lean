import PyProof.Rows.All
import Wide.All
import OpenK.AllK
import Wide.FinOn
import HandS.ForMost
import HandS.HotCalls
import HandS.Style
import HandS.Wide
import HandS.TupAny
import HandS.IsInst
import HandS.Deep
import KE.KDictPairs
import KE.KDictSum
import HandS.More
import HandS.ExcSuper
import HandS.ExcCtx
import HandS.ExcField
import KE.KSuper
import KE.GoesMore
import KE.GoesEnum
import PySem.Challenge.RW_finecloud_k53_whole_progress
set_option linter.all false
namespace FC
/-! ### choices -/
def ch : Nat → Nat → Nat
  | _, 0 => 1
  | 0, _ + 1 => 0
  | n + 1, k + 1 => ch n k + ch n (k + 1)
theorem ch_zero (n : Nat) : ch n 0 = 1 := by cases n <;> rfl
theorem ch_succ (n k : Nat) : ch (n + 1) (k + 1) = ch n k + ch n (k + 1) := rfl
theorem ch_big : ∀ n k : Nat, n < k → ch n k = 0
  | _, 0, h => by omega
  | 0, k + 1, _ => rfl
  | n + 1, k + 1, h => by rw [ch_succ, ch_big n k (by omega), ch_big n (k + 1) (by omega)]
theorem ch_self : ∀ n : Nat, ch n n = 1
  | 0 => rfl
  | n + 1 => by rw [ch_succ, ch_self n, ch_big n (n + 1) (by omega)]
theorem ch_pos : ∀ n k : Nat, k ≤ n → 0 < ch n k
  | n, 0, _ => by rw [ch_zero]; omega
  | 0, k + 1, h => by omega
  | n + 1, k + 1, h => by
    have := ch_pos n k (by omega)
    rw [ch_succ]; omega
theorem ch_le_of_pos {n k : Nat} (h : 0 < ch n k) : k ≤ n := by
  apply Classical.byContradiction
  intro c
  rw [ch_big n k (by omega)] at h
  omega
theorem ch_step : ∀ n k : Nat, ch n (k + 1) * (k + 1) = ch n k * (n - k)
  | 0, k => by
    show 0 * (k + 1) = _
    rw [show 0 - k = 0 by omega]; simp
  | n + 1, 0 => by
    have h := ch_step n 0
    rw [ch_zero] at h
    rw [ch_succ, ch_zero, ch_zero]
    simp at h ⊢
    omega
  | n + 1, j + 1 => by
    have h1 := ch_step n j
    have h2 := ch_step n (j + 1)
    rw [ch_succ, ch_succ]
    by_cases hj : j < n
    · obtain ⟨d, rfl⟩ : ∃ d, n = j + 1 + d := ⟨n - j - 1, by omega⟩
      rw [show j + 1 + d - j = d + 1 by omega] at h1
      rw [show j + 1 + d - (j + 1) = d by omega] at h2
      rw [show j + 1 + d + 1 - (j + 1) = d + 1 by omega]
      grind
    · by_cases e : j = n
      · subst e
        rw [ch_self, ch_big j (j + 1) (by omega), ch_big j (j + 1 + 1) (by omega)]
        simp
      · rw [ch_big n j (by omega), ch_big n (j + 1) (by omega), ch_big n (j + 1 + 1) (by omega)]
        simp
theorem ch_symm : ∀ n k : Nat, k ≤ n → ch n (n - k) = ch n k
  | n, 0, _ => by rw [ch_zero]; exact ch_self n
  | 0, k + 1, h => by omega
  | n + 1, k + 1, h => by
    by_cases e : k = n
    · subst e
      rw [show k + 1 - (k + 1) = 0 by omega, ch_zero, ch_self]
    · have h1 := ch_symm n k (by omega)
      have h2 := ch_symm n (k + 1) (by omega)
      rw [show n + 1 - (k + 1) = (n - (k + 1)) + 1 by omega, ch_succ, ch_succ, h2, show n - (k + 1) + 1 = n - k by omega, h1]
      omega
theorem ch_min (n k : Nat) (h : k ≤ n) : ch n (min k (n - k)) = ch n k := by
  by_cases e : k ≤ n - k
  · rw [Nat.min_eq_left e]
  · rw [Nat.min_eq_right (by omega)]
    exact ch_symm n k h
theorem ch_turn (n k : Nat) : ch n k * (n - k) / (k + 1) = ch n (k + 1) := by
  rw [← ch_step]
  exact Nat.mul_div_cancel _ (by omega)
theorem ch_pow : ∀ n k : Nat, ch n k ≤ n ^ k
  | n, 0 => by rw [ch_zero]; simp
  | n, k + 1 => by
    have h := ch_step n k
    have i := ch_pow n k
    calc ch n (k + 1) ≤ ch n (k + 1) * (k + 1) := Nat.le_mul_of_pos_right _ (by omega)
      _ = ch n k * (n - k) := h
      _ ≤ n ^ k * n := Nat.mul_le_mul i (by omega)
      _ = n ^ (k + 1) := (Nat.pow_succ ..).symm
/-! ### the sum of products -/
def cv (a b c : Nat) : Nat → Nat
  | 0 => 0
  | t + 1 => cv a b c t + ch a t * ch b (c - t)
theorem cv_zero (b c t : Nat) : cv 0 b c (t + 1) = ch b c := by
  induction t with
  | zero => simp [cv, ch_zero]
  | succ t ih =>
    show cv 0 b c (t + 1) + ch 0 (t + 1) * ch b (c - (t + 1)) = _
    rw [ih]
    show ch b c + 0 * _ = _
    simp
theorem cv_shift (a b c : Nat) : ∀ t, cv (a + 1) b (c + 1) (t + 1) = cv a b (c + 1) (t + 1) + cv a b c t
  | 0 => by simp [cv, ch_zero]
  | t + 1 => by
    have ih := cv_shift a b c t
    have e : c + 1 - (t + 1) = c - t := by omega
    have h1 : cv (a + 1) b (c + 1) (t + 1 + 1) = cv (a + 1) b (c + 1) (t + 1) + ch (a + 1) (t + 1) * ch b (c + 1 - (t + 1)) := rfl
    have h2 : cv a b (c + 1) (t + 1 + 1) = cv a b (c + 1) (t + 1) + ch a (t + 1) * ch b (c + 1 - (t + 1)) := rfl
    have h3 : cv a b c (t + 1) = cv a b c t + ch a t * ch b (c - t) := rfl
    rw [h1, h2, h3, ih, ch_succ, e, Nat.add_mul]
    omega
theorem vander : ∀ a b c : Nat, cv a b c (c + 1) = ch (a + b) c
  | 0, b, c => by rw [cv_zero]; simp
  | a + 1, b, 0 => by simp [cv, ch_zero]
  | a + 1, b, c + 1 => by
    rw [cv_shift, vander a b (c + 1), vander a b c, show a + 1 + b = (a + b) + 1 by omega, ch_succ]
    omega
theorem cv_mono (a b c : Nat) {t u : Nat} (h : t ≤ u) : cv a b c t ≤ cv a b c u := by
  induction h with
  | refl => exact Nat.le_refl _
  | step _ ih => exact Nat.le_trans ih (Nat.le_add_right _ _)
/-- in how many ways a cell of c points can be filled with fewer than t in the first half -/
abbrev sa (h c t : Nat) : Nat := cv h h c t
theorem sa_succ (h c t : Nat) : sa h c (t + 1) = sa h c t + ch h t * ch h (c - t) := rfl
theorem sa_top (h c : Nat) : sa h c (c + 1) = ch (2 * h) c := by
  show cv h h c (c + 1) = _
  rw [vander, show h + h = 2 * h by omega]
theorem sa_le (h c t : Nat) (ht : t ≤ c) : sa h c t + ch h t * ch h (c - t) ≤ ch (2 * h) c := by
  rw [← sa_succ, ← sa_top]
  exact cv_mono h h c (by omega)
end FC

set_option linter.all false
namespace FC
/-! ### views: (cell, count) -/
abbrev View := List (Nat × Nat)
/-- completions -/
def W (s : Nat) : View → Nat
  | [] => 1
  | e :: v => ch s e.2 * W s v
def low (h : Nat) : Nat → View → List Nat → Nat
  | P, e :: v, a :: as => P * W (2 * h) v * sa h e.2 a + low h (P * (ch h a * ch h (e.2 - a))) v as
  | _, _, _ => 0
def shr (h : Nat) : View → List Nat → Nat
  | e :: v, a :: as => ch h a * ch h (e.2 - a) * shr h v as
  | _, _ => 1
def Fits : View → List Nat → Prop
  | [], [] => True
  | e :: v, a :: as => a ≤ e.2 ∧ Fits v as
  | _, _ => False
theorem low_le (h : Nat) : ∀ (v : View) (as : List Nat) (P : Nat), Fits v as → low h P v as + P * shr h v as ≤ P * W (2 * h) v
  | [], [], P, _ => by simp [low, shr, W]
  | e :: v, a :: as, P, f => by
    have ih := low_le h v as (P * (ch h a * ch h (e.2 - a))) f.2
    have s := sa_le h e.2 a f.1
    have s' := Nat.mul_le_mul_left (P * W (2 * h) v) s
    show P * W (2 * h) v * sa h e.2 a + low h (P * (ch h a * ch h (e.2 - a))) v as + P * (ch h a * ch h (e.2 - a) * shr h v as) ≤ P * (ch (2 * h) e.2 * W (2 * h) v)
    have e1 : P * (ch h a * ch h (e.2 - a) * shr h v as) = P * (ch h a * ch h (e.2 - a)) * shr h v as := by grind
    have e2 : P * (ch (2 * h) e.2 * W (2 * h) v) = P * W (2 * h) v * ch (2 * h) e.2 := by grind
    have e3 : P * W (2 * h) v * (sa h e.2 a + ch h a * ch h (e.2 - a)) = P * W (2 * h) v * sa h e.2 a + P * (ch h a * ch h (e.2 - a)) * W (2 * h) v := by grind
    rw [e1, e2]
    omega
  | [], _ :: _, _, f => f.elim
  | _ :: _, [], _, f => f.elim
/-! ### the first half of a cell -/
/-- a points in the first half, r left of n -/
def Half (h c rest n a r : Nat) : Prop := a ≤ c ∧ n = rest * sa h c a + r ∧ r < rest * (ch h a * ch h (c - a))
theorem half_le {h c rest n a r a' r' : Nat} (x : Half h c rest n a r) (y : Half h c rest n a' r') : ¬ a < a' := by
  intro l
  obtain ⟨_, e, b⟩ := x
  obtain ⟨_, e', b'⟩ := y
  have m := Nat.mul_le_mul_left rest (cv_mono h h c (show a + 1 ≤ a' from l))
  have s : rest * sa h c (a + 1) = rest * sa h c a + rest * (ch h a * ch h (c - a)) := by rw [sa_succ, Nat.mul_add]
  have m' : rest * sa h c (a + 1) ≤ rest * sa h c a' := m
  omega
theorem half_one {h c rest n a r a' r' : Nat} (x : Half h c rest n a r) (y : Half h c rest n a' r') : a = a' ∧ r = r' := by
  have e : a = a' := by
    have := half_le x y
    have := half_le y x
    omega
  subst e
  have := x.2.1
  have := y.2.1
  omega
def fhGo (h c rest : Nat) : Nat → Nat → Nat → Nat × Nat
  | 0, a, l => (a, l)
  | k + 1, a, l => if rest * (ch h a * ch h (c - a)) ≤ l then fhGo h c rest k (a + 1) (l - rest * (ch h a * ch h (c - a))) else (a, l)
def fh (h c rest n : Nat) : Nat × Nat := fhGo h c rest (c + 1) 0 n
theorem fhGo_half {h c rest n : Nat} (hn : n < rest * ch (2 * h) c) : ∀ k a l, a + k = c + 1 → n = rest * sa h c a + l → Half h c rest n (fhGo h c rest k a l).1 (fhGo h c rest k a l).2
  | 0, a, l, hk, he => by
    exfalso
    have : a = c + 1 := by omega
    subst this
    rw [sa_top] at he
    omega
  | k + 1, a, l, hk, he => by
    unfold fhGo
    by_cases hc : rest * (ch h a * ch h (c - a)) ≤ l
    · rw [if_pos hc]
      refine fhGo_half hn k (a + 1) _ (by omega) ?_
      rw [sa_succ, Nat.mul_add]
      omega
    · rw [if_neg hc]
      exact ⟨by omega, he, Nat.lt_of_not_le hc⟩
theorem fh_half {h c rest n : Nat} (hn : n < rest * ch (2 * h) c) : Half h c rest n (fh h c rest n).1 (fh h c rest n).2 :=
  fhGo_half hn (c + 1) 0 n (by omega) (by simp [cv])
theorem fh_of {h c rest n a r : Nat} (x : Half h c rest n a r) : fh h c rest n = (a, r) := by
  have l : n < rest * ch (2 * h) c := by
    have s := Nat.mul_le_mul_left rest (sa_le h c a x.1)
    rw [Nat.mul_add] at s
    have := x.2.1
    have := x.2.2
    omega
  obtain ⟨e1, e2⟩ := half_one (fh_half l) x
  exact Prod.ext e1 e2
/-! ### the next view by a number -/
def dec (h : Nat) : Nat → View → Nat → List Nat × Nat
  | _, [], n => ([], n)
  | P, e :: v, n => ((fh h e.2 (P * W (2 * h) v) n).1 :: (dec h (P * (ch h (fh h e.2 (P * W (2 * h) v) n).1 * ch h (e.2 - (fh h e.2 (P * W (2 * h) v) n).1))) v (fh h e.2 (P * W (2 * h) v) n).2).1,
      (dec h (P * (ch h (fh h e.2 (P * W (2 * h) v) n).1 * ch h (e.2 - (fh h e.2 (P * W (2 * h) v) n).1))) v (fh h e.2 (P * W (2 * h) v) n).2).2)
theorem dec_spec (h : Nat) : ∀ (v : View) (P n : Nat), n < P * W (2 * h) v →
    Fits v (dec h P v n).1 ∧ n = low h P v (dec h P v n).1 + (dec h P v n).2 ∧ (dec h P v n).2 < P * shr h v (dec h P v n).1
  | [], P, n, hn => by
    refine ⟨trivial, ?_, hn⟩
    show n = 0 + n
    omega
  | e :: v, P, n, hn => by
    have hn' : n < P * W (2 * h) v * ch (2 * h) e.2 := by
      have : P * W (2 * h) (e :: v) = P * W (2 * h) v * ch (2 * h) e.2 := by
        show P * (ch (2 * h) e.2 * W (2 * h) v) = _
        grind
      omega
    have f := fh_half hn'
    unfold dec
    generalize fh h e.2 (P * W (2 * h) v) n = x at f ⊢
    obtain ⟨a, r⟩ := x
    obtain ⟨f1, f2, f3⟩ := f
    have f1 : a ≤ e.2 := f1
    have f2 : n = P * W (2 * h) v * sa h e.2 a + r := f2
    have f3 : r < P * W (2 * h) v * (ch h a * ch h (e.2 - a)) := f3
    have ih := dec_spec h v (P * (ch h a * ch h (e.2 - a))) r (by
      have : P * (ch h a * ch h (e.2 - a)) * W (2 * h) v = P * W (2 * h) v * (ch h a * ch h (e.2 - a)) := by grind
      omega)
    obtain ⟨i1, i2, i3⟩ := ih
    refine ⟨⟨f1, i1⟩, ?_, ?_⟩
    · show n = P * W (2 * h) v * sa h e.2 a + low h (P * (ch h a * ch h (e.2 - a))) v (dec h (P * (ch h a * ch h (e.2 - a))) v r).1 + (dec h (P * (ch h a * ch h (e.2 - a))) v r).2
      omega
    · show (dec h (P * (ch h a * ch h (e.2 - a))) v r).2 < P * (ch h a * ch h (e.2 - a) * shr h v (dec h (P * (ch h a * ch h (e.2 - a))) v r).1)
      exact Nat.lt_of_lt_of_eq i3 (Nat.mul_assoc ..)
theorem dec_of (h : Nat) : ∀ (v : View) (as : List Nat) (P n r : Nat), Fits v as → n = low h P v as + r → r < P * shr h v as → dec h P v n = (as, r)
  | [], [], P, n, r, _, e, _ => by
    show (([], n) : List Nat × Nat) = _
    rw [e]
    simp [low]
  | e :: v, a :: as, P, n, r, f, en, hr => by
    have l := low_le h v as (P * (ch h a * ch h (e.2 - a))) f.2
    have en : n = P * W (2 * h) v * sa h e.2 a + low h (P * (ch h a * ch h (e.2 - a))) v as + r := en
    have hr : r < P * (ch h a * ch h (e.2 - a)) * shr h v as := by rw [Nat.mul_assoc]; exact hr
    have x : fh h e.2 (P * W (2 * h) v) n = (a, low h (P * (ch h a * ch h (e.2 - a))) v as + r) := by
      refine fh_of ⟨f.1, by omega, ?_⟩
      have : P * W (2 * h) v * (ch h a * ch h (e.2 - a)) = P * (ch h a * ch h (e.2 - a)) * W (2 * h) v := by grind
      omega
    unfold dec
    rw [x]
    dsimp only
    rw [dec_of h v as _ _ r f.2 rfl hr]
  | [], _ :: _, _, _, _, f, _, _ => f.elim
  | _ :: _, [], _, _, _, f, _, _ => f.elim
/-- any number of a share brings the same next view -/
theorem dec_in {h : Nat} {v : View} {as : List Nat} {n : Nat} (f : Fits v as) (h1 : low h 1 v as ≤ n) (h2 : n < low h 1 v as + shr h v as) : dec h 1 v n = (as, n - low h 1 v as) :=
  dec_of h v as 1 n _ f (by omega) (by omega)
/-! ### next views -/
def kids (k c a : Nat) : View := (if 0 < a then [(2 * k, a)] else []) ++ (if 0 < c - a then [(2 * k + 1, c - a)] else [])
def nxt : View → List Nat → View
  | e :: v, a :: as => kids e.1 e.2 a ++ nxt v as
  | _, _ => []
theorem W_append (s : Nat) : ∀ v w : View, W s (v ++ w) = W s v * W s w
  | [], w => by simp [W]
  | e :: v, w => by
    show ch s e.2 * W s (v ++ w) = ch s e.2 * W s v * W s w
    rw [W_append s v w, Nat.mul_assoc]
theorem W_kids (h k c a : Nat) : W h (kids k c a) = ch h a * ch h (c - a) := by
  unfold kids
  rw [W_append]
  congr 1
  · split
    · simp [W]
    · rw [show a = 0 by omega, ch_zero]; rfl
  · split
    · simp [W]
    · rw [show c - a = 0 by omega, ch_zero]; rfl
theorem W_nxt (h : Nat) : ∀ (v : View) (as : List Nat), Fits v as → W h (nxt v as) = shr h v as
  | [], [], _ => rfl
  | e :: v, a :: as, f => by
    show W h (kids e.1 e.2 a ++ nxt v as) = ch h a * ch h (e.2 - a) * shr h v as
    rw [W_append, W_kids, W_nxt h v as f.2]
  | [], _ :: _, f => f.elim
  | _ :: _, [], f => f.elim
/-- keys ascend from lo on, below N; counts are above 0 -/
def Asc : Nat → Nat → View → Prop
  | _, _, [] => True
  | lo, N, e :: v => lo ≤ e.1 ∧ e.1 < N ∧ 0 < e.2 ∧ Asc (e.1 + 1) N v
theorem Asc.mono : ∀ {lo lo' N : Nat} {v : View}, Asc lo N v → lo' ≤ lo → Asc lo' N v
  | _, _, _, [], _, _ => trivial
  | _, _, _, _ :: _, ⟨a, b, c, d⟩, h => ⟨Nat.le_trans h a, b, c, d⟩
theorem Asc.nxt : ∀ {lo N : Nat} {v : View} {as : List Nat}, Asc lo N v → Asc (2 * lo) (2 * N) (nxt v as)
  | _, _, [], [], _ => trivial
  | _, _, [], _ :: _, _ => trivial
  | _, _, _ :: _, [], _ => trivial
  | lo, N, e :: v, a :: as, ⟨h1, h2, h3, h4⟩ => by
    have ih := Asc.nxt (as := as) h4
    rw [show 2 * (e.1 + 1) = 2 * e.1 + 1 + 1 by omega] at ih
    show Asc (2 * lo) (2 * N) (kids e.1 e.2 a ++ FC.nxt v as)
    unfold kids
    by_cases ha : 0 < a
    · rw [if_pos ha]
      by_cases hb : 0 < e.2 - a
      · rw [if_pos hb]
        exact ⟨by show 2 * lo ≤ 2 * e.1; omega, by show 2 * e.1 < _; omega, ha, by show 2 * e.1 + 1 ≤ 2 * e.1 + 1; omega, by show 2 * e.1 + 1 < _; omega, hb, ih⟩
      · rw [if_neg hb]
        exact ⟨by show 2 * lo ≤ 2 * e.1; omega, by show 2 * e.1 < _; omega, ha, ih.mono (by show 2 * e.1 + 1 ≤ _; omega)⟩
    · rw [if_neg ha]
      by_cases hb : 0 < e.2 - a
      · rw [if_pos hb]
        exact ⟨by show 2 * lo ≤ 2 * e.1 + 1; omega, by show 2 * e.1 + 1 < _; omega, hb, ih⟩
      · rw [if_neg hb]
        exact ih.mono (by omega)
/-- the count of a key -/
def cf : View → Nat → Nat
  | [], _ => 0
  | e :: v, k => (if e.1 = k then e.2 else 0) + cf v k
theorem cf_low : ∀ {lo N : Nat} {v : View} {k : Nat}, Asc lo N v → k < lo → cf v k = 0
  | _, _, [], _, _, _ => rfl
  | lo, N, e :: v, k, ⟨h1, h2, h3, h4⟩, h => by
    have ih := cf_low (k := k) h4 (by omega)
    show (if e.1 = k then e.2 else 0) + cf v k = 0
    rw [if_neg (by omega), ih]
theorem cf_high : ∀ {lo N : Nat} {v : View} {k : Nat}, Asc lo N v → N ≤ k → cf v k = 0
  | _, _, [], _, _, _ => rfl
  | lo, N, e :: v, k, ⟨h1, h2, h3, h4⟩, h => by
    have ih := cf_high (k := k) h4 h
    show (if e.1 = k then e.2 else 0) + cf v k = 0
    rw [if_neg (by omega), ih]
theorem cf_head {lo N : Nat} {e : Nat × Nat} {v : View} (h : Asc lo N (e :: v)) : cf (e :: v) e.1 = e.2 := by
  show (if e.1 = e.1 then e.2 else 0) + cf v e.1 = e.2
  rw [if_pos rfl, cf_low h.2.2.2 (by omega)]
  rfl
/-- views are told by their counts -/
theorem Asc.ext : ∀ {lo N : Nat} {v w : View}, Asc lo N v → Asc lo N w → (∀ k, cf v k = cf w k) → v = w
  | _, _, [], [], _, _, _ => rfl
  | _, _, [], e :: w, _, hw, h => by
    have := h e.1
    rw [cf_head hw] at this
    have := hw.2.2.1
    simp [cf] at *
    omega
  | _, _, e :: v, [], hv, _, h => by
    have := h e.1
    rw [cf_head hv] at this
    have := hv.2.2.1
    simp [cf] at *
    omega
  | lo, N, e :: v, f :: w, hv, hw, h => by
    have key : e.1 = f.1 := by
      have l1 : ¬ e.1 < f.1 := fun l => by
        have q := h e.1
        rw [cf_head hv, cf_low (show Asc f.1 N (f :: w) from ⟨Nat.le_refl _, hw.2⟩) l] at q
        have := hv.2.2.1
        omega
      have l2 : ¬ f.1 < e.1 := fun l => by
        have q := h f.1
        rw [cf_head hw, cf_low (show Asc e.1 N (e :: v) from ⟨Nat.le_refl _, hv.2⟩) l] at q
        have := hw.2.2.1
        omega
      omega
    have cnt : e.2 = f.2 := by
      have q := h e.1
      rw [cf_head hv, key, cf_head hw] at q
      exact q
    have ef : e = f := Prod.ext key cnt
    subst ef
    have ih := Asc.ext hv.2.2.2 hw.2.2.2 fun k => by
      have q : (if e.1 = k then e.2 else 0) + cf v k = (if e.1 = k then e.2 else 0) + cf w k := h k
      omega
    rw [ih]
theorem cf_append : ∀ (v w : View) (k : Nat), cf (v ++ w) k = cf v k + cf w k
  | [], w, k => by simp [cf]
  | e :: v, w, k => by
    show (if e.1 = k then e.2 else 0) + cf (v ++ w) k = (if e.1 = k then e.2 else 0) + cf v k + cf w k
    rw [cf_append v w k]
    omega
/-- the count of a key of a coarser view -/
def cd (s : Nat) : View → Nat → Nat
  | [], _ => 0
  | e :: v, k => (if e.1 / s = k then e.2 else 0) + cd s v k
theorem cd_append (s : Nat) : ∀ (v w : View) (k : Nat), cd s (v ++ w) k = cd s v k + cd s w k
  | [], w, k => by simp [cd]
  | e :: v, w, k => by
    show (if e.1 / s = k then e.2 else 0) + cd s (v ++ w) k = (if e.1 / s = k then e.2 else 0) + cd s v k + cd s w k
    rw [cd_append s v w k]
    omega
theorem cd_one : ∀ (v : View) (k : Nat), cd 1 v k = cf v k
  | [], k => rfl
  | e :: v, k => by
    show (if e.1 / 1 = k then e.2 else 0) + cd 1 v k = _
    rw [Nat.div_one, cd_one v k]
    rfl
theorem cd_kids (s k0 c a k : Nat) (ha : a ≤ c) : cd (2 * s) (kids k0 c a) k = if k0 / s = k then c else 0 := by
  have e1 : 2 * k0 / (2 * s) = k0 / s := Nat.mul_div_mul_left _ _ (by omega)
  have e2 : (2 * k0 + 1) / (2 * s) = k0 / s := by
    rw [← Nat.div_div_eq_div_mul, show (2 * k0 + 1) / 2 = k0 by omega]
  unfold kids
  rw [cd_append]
  by_cases h1 : 0 < a <;> by_cases h2 : 0 < c - a
  · rw [if_pos h1, if_pos h2]
    show (if 2 * k0 / (2 * s) = k then a else 0) + 0 + ((if (2 * k0 + 1) / (2 * s) = k then c - a else 0) + 0) = _
    rw [e1, e2]
    split <;> omega
  · rw [if_pos h1, if_neg h2]
    show (if 2 * k0 / (2 * s) = k then a else 0) + 0 + 0 = _
    rw [e1]
    split <;> omega
  · rw [if_neg h1, if_pos h2]
    show 0 + ((if (2 * k0 + 1) / (2 * s) = k then c - a else 0) + 0) = _
    rw [e2]
    split <;> omega
  · rw [if_neg h1, if_neg h2]
    show 0 + 0 = _
    split <;> omega
theorem cd_nxt (s : Nat) : ∀ (v : View) (as : List Nat) (k : Nat), Fits v as → cd (2 * s) (nxt v as) k = cd s v k
  | [], [], _, _ => rfl
  | e :: v, a :: as, k, f => by
    show cd (2 * s) (kids e.1 e.2 a ++ nxt v as) k = (if e.1 / s = k then e.2 else 0) + cd s v k
    rw [cd_append, cd_kids s e.1 e.2 a k f.1, cd_nxt s v as k f.2]
  | [], _ :: _, _, f => f.elim
  | _ :: _, [], _, f => f.elim
/-- how many points -/
def tot : View → Nat
  | [] => 0
  | e :: v => e.2 + tot v
theorem tot_append : ∀ v w : View, tot (v ++ w) = tot v + tot w
  | [], w => by simp [tot]
  | e :: v, w => by
    show e.2 + tot (v ++ w) = e.2 + tot v + tot w
    rw [tot_append v w]; omega
theorem tot_kids (k c a : Nat) (h : a ≤ c) : tot (kids k c a) = c := by
  unfold kids
  rw [tot_append]
  by_cases h1 : 0 < a <;> by_cases h2 : 0 < c - a <;> simp [h1, h2, tot] <;> omega
theorem tot_nxt : ∀ (v : View) (as : List Nat), Fits v as → tot (nxt v as) = tot v
  | [], [], _ => rfl
  | e :: v, a :: as, f => by
    show tot (kids e.1 e.2 a ++ nxt v as) = e.2 + tot v
    rw [tot_append, tot_kids _ _ _ f.1, tot_nxt v as f.2]
  | [], _ :: _, f => f.elim
  | _ :: _, [], f => f.elim
theorem W_le (s : Nat) : ∀ v : View, W s v ≤ s ^ tot v
  | [] => by simp [W, tot]
  | e :: v => by
    show ch s e.2 * W s v ≤ s ^ (e.2 + tot v)
    rw [Nat.pow_add]
    exact Nat.mul_le_mul (ch_pow s e.2) (W_le s v)
theorem len_le_tot : ∀ {lo N : Nat} {v : View}, Asc lo N v → v.length ≤ tot v
  | _, _, [], _ => Nat.le_refl _
  | _, _, e :: v, ⟨_, _, h, r⟩ => by
    have := len_le_tot r
    show v.length + 1 ≤ e.2 + tot v
    omega
/-- the counts of the first halves, out of the next view -/
def asOf (v w : View) : List Nat := v.map fun e => cf w (2 * e.1)
theorem asOf_fits {w : View} : ∀ {v : View}, (∀ e ∈ v, e.2 = cf w (2 * e.1) + cf w (2 * e.1 + 1)) → Fits v (asOf v w)
  | [], _ => trivial
  | e :: v, h => ⟨by have := h e List.mem_cons_self; show cf w (2 * e.1) ≤ e.2; omega, asOf_fits fun x hx => h x (List.mem_cons_of_mem _ hx)⟩
theorem cf_mem : ∀ {lo N : Nat} {v : View} {e : Nat × Nat}, Asc lo N v → e ∈ v → cf v e.1 = e.2
  | lo, N, f :: v, e, h, he => by
    rcases List.mem_cons.mp he with r | r
    · subst r
      exact cf_head h
    · have ih := cf_mem h.2.2.2 r
      have lo' : f.1 + 1 ≤ e.1 := by
        apply Classical.byContradiction
        intro c
        have p : 0 < e.2 := by
          have all : ∀ {lo N : Nat} {v : View}, Asc lo N v → ∀ x ∈ v, 0 < x.2 ∧ lo ≤ x.1 := by
            intro lo N v
            induction v generalizing lo with
            | nil => intro _ x hx; cases hx
            | cons g v ih =>
              intro h x hx
              rcases List.mem_cons.mp hx with r | r
              · subst r; exact ⟨h.2.2.1, h.1⟩
              · have := ih h.2.2.2 x r
                exact ⟨this.1, by have := h.1; omega⟩
          exact (all h.2.2.2 e r).1
        rw [cf_low h.2.2.2 (show e.1 < f.1 + 1 by omega)] at ih
        omega
      show (if f.1 = e.1 then f.2 else 0) + cf v e.1 = e.2
      rw [if_neg (by omega), ih]
      omega
theorem Asc.all : ∀ {lo N : Nat} {v : View}, Asc lo N v → ∀ x ∈ v, 0 < x.2 ∧ lo ≤ x.1 ∧ x.1 < N
  | lo, N, g :: v, h, x, hx => by
    rcases List.mem_cons.mp hx with r | r
    · subst r; exact ⟨h.2.2.1, h.1, h.2.1⟩
    · have := Asc.all h.2.2.2 x r
      exact ⟨this.1, by have := h.1; omega, this.2.2⟩
theorem cf_kids (k0 c a k : Nat) : cf (kids k0 c a) k = (if k = 2 * k0 then a else 0) + (if k = 2 * k0 + 1 then c - a else 0) := by
  unfold kids
  rw [cf_append]
  congr 1
  · by_cases h1 : 0 < a
    · rw [if_pos h1]
      show (if 2 * k0 = k then a else 0) + 0 = _
      by_cases e : k = 2 * k0
      · rw [if_pos e, if_pos e.symm]; omega
      · rw [if_neg e, if_neg (fun q => e q.symm)]
    · rw [if_neg h1]
      show 0 = _
      split <;> omega
  · by_cases h1 : 0 < c - a
    · rw [if_pos h1]
      show (if 2 * k0 + 1 = k then c - a else 0) + 0 = _
      by_cases e : k = 2 * k0 + 1
      · rw [if_pos e, if_pos e.symm]; omega
      · rw [if_neg e, if_neg (fun q => e q.symm)]
    · rw [if_neg h1]
      show 0 = _
      split <;> omega
theorem cf_nxt {w : View} : ∀ {lo N : Nat} {v : View}, Asc lo N v → (∀ e ∈ v, e.2 = cf w (2 * e.1) + cf w (2 * e.1 + 1)) → ∀ k, cf (nxt v (asOf v w)) k = if 0 < cf v (k / 2) then cf w k else 0
  | _, _, [], _, _, k => rfl
  | lo, N, e :: v, hv, h, k => by
    have ih := cf_nxt (w := w) hv.2.2.2 (fun x hx => h x (List.mem_cons_of_mem _ hx)) k
    have he := h e List.mem_cons_self
    show cf (kids e.1 e.2 (cf w (2 * e.1)) ++ nxt v (asOf v w)) k = if 0 < (if e.1 = k / 2 then e.2 else 0) + cf v (k / 2) then cf w k else 0
    rw [cf_append, cf_kids, ih]
    by_cases q : e.1 = k / 2
    · rw [if_pos q, ← q, cf_low hv.2.2.2 (show e.1 < e.1 + 1 by omega)]
      have := hv.2.2.1
      rw [if_neg (show ¬ 0 < 0 by omega), if_pos (show 0 < e.2 + 0 by omega)]
      rcases (show k = 2 * e.1 ∨ k = 2 * e.1 + 1 by omega) with r | r
      · rw [if_pos r, if_neg (show ¬ k = 2 * e.1 + 1 by omega), r]; omega
      · rw [if_neg (show ¬ k = 2 * e.1 by omega), if_pos r, r]; omega
    · rw [if_neg q, if_neg (show ¬ k = 2 * e.1 by omega), if_neg (show ¬ k = 2 * e.1 + 1 by omega)]
      simp
/-- the next view, built from the counts -/
theorem nxt_asOf {N : Nat} {v w : View} (hv : Asc 0 N v) (hw : Asc 0 (2 * N) w) (h : ∀ k, cf v k = cf w (2 * k) + cf w (2 * k + 1)) : nxt v (asOf v w) = w := by
  have h' : ∀ e ∈ v, e.2 = cf w (2 * e.1) + cf w (2 * e.1 + 1) := fun e he => by rw [← h, cf_mem hv he]
  refine Asc.ext (lo := 0) (N := 2 * N) hv.nxt hw fun k => ?_
  rw [cf_nxt hv h' k]
  by_cases q : 0 < cf v (k / 2)
  · rw [if_pos q]
  · rw [if_neg q]
    rw [h] at q
    rcases (show k = 2 * (k / 2) ∨ k = 2 * (k / 2) + 1 by omega) with r | r
    · have : cf w k = cf w (2 * (k / 2)) := congrArg _ r
      omega
    · have : cf w k = cf w (2 * (k / 2) + 1) := congrArg _ r
      omega
end FC

set_option linter.all false
namespace FC
/-! ### bits -/
def numOf (l : List Nat) : Nat := l.foldl (fun f b => f * 2 + b) 0
def bitsOf : Nat → Nat → List Nat
  | _, 0 => []
  | n, m + 1 => bitsOf (n / 2) m ++ [n % 2]
theorem bitsOf_len : ∀ (m n : Nat), (bitsOf n m).length = m
  | 0, _ => rfl
  | m + 1, n => by
    show (bitsOf (n / 2) m ++ [n % 2]).length = m + 1
    rw [List.length_append, bitsOf_len m]
    rfl
theorem bitsOf_bit : ∀ (m n : Nat), ∀ b ∈ bitsOf n m, b < 2
  | 0, _, b, h => by cases h
  | m + 1, n, b, h => by
    have h : b ∈ bitsOf (n / 2) m ++ [n % 2] := h
    rcases List.mem_append.mp h with h | h
    · exact bitsOf_bit m _ b h
    · rw [List.mem_singleton.mp h]; omega
theorem numOf_snoc (l : List Nat) (b : Nat) : numOf (l ++ [b]) = numOf l * 2 + b := by
  unfold numOf
  rw [List.foldl_append]
  rfl
theorem numOf_bitsOf : ∀ (m n : Nat), n < 2 ^ m → numOf (bitsOf n m) = n
  | 0, n, h => by
    have : n = 0 := by simpa using h
    subst this
    rfl
  | m + 1, n, h => by
    show numOf (bitsOf (n / 2) m ++ [n % 2]) = n
    rw [numOf_snoc, numOf_bitsOf m (n / 2) (by rw [Nat.pow_succ] at h; omega)]
    omega
theorem bitsOf_take : ∀ (m n j : Nat), j ≤ m → (bitsOf n m).take j = bitsOf (n / 2 ^ (m - j)) j
  | 0, n, j, h => by
    have : j = 0 := by omega
    subst this
    rfl
  | m + 1, n, j, h => by
    by_cases e : j = m + 1
    · subst e
      rw [List.take_of_length_le (by rw [bitsOf_len]; omega), Nat.sub_self]
      simp
    · show (bitsOf (n / 2) m ++ [n % 2]).take j = _
      rw [List.take_append_of_le_length (by rw [bitsOf_len]; omega), bitsOf_take m (n / 2) j (by omega), Nat.div_div_eq_div_mul, show m + 1 - j = (m - j) + 1 by omega, Nat.pow_succ, Nat.mul_comm (2 ^ (m - j)) 2]
theorem list_snoc {α : Type} : ∀ (l : List α), l ≠ [] → ∃ r b, l = r ++ [b] := fun l h => ⟨l.dropLast, l.getLast h, (List.dropLast_concat_getLast h).symm⟩
theorem numOf_lt : ∀ (k : Nat) (l : List Nat), l.length = k → (∀ b ∈ l, b < 2) → numOf l < 2 ^ k
  | 0, l, e, _ => by
    have : l = [] := List.length_eq_zero_iff.mp e
    subst this
    show 0 < 1
    omega
  | k + 1, l, e, h => by
    obtain ⟨r, b, rfl⟩ := list_snoc l (fun z => by subst z; cases e)
    rw [List.length_append] at e
    have ih := numOf_lt k r (by simpa using e) fun x hx => h x (List.mem_append_left _ hx)
    have hb := h b (List.mem_append_right _ List.mem_cons_self)
    rw [numOf_snoc, Nat.pow_succ]
    omega
/-! ### the first number at which a test holds -/
def lst (p : Nat → Bool) : Nat → Nat
  | 0 => 0
  | n + 1 => if p 0 = true then 0 else lst (fun i => p (i + 1)) n + 1
theorem lst_none : ∀ (n : Nat) (p : Nat → Bool), (∀ i, i < n → p i = false) → lst p n = n
  | 0, _, _ => rfl
  | n + 1, p, h => by
    unfold lst
    rw [if_neg (by rw [h 0 (by omega)]; decide), lst_none n _ fun i hi => h (i + 1) (by omega)]
theorem lst_of : ∀ (n : Nat) (p : Nat → Bool) (m : Nat), m < n → p m = true → (∀ i, i < m → p i = false) → lst p n = m
  | 0, _, _, h, _, _ => by omega
  | n + 1, p, 0, _, hp, _ => by
    unfold lst
    rw [if_pos hp]
  | n + 1, p, m + 1, h, hp, hl => by
    unfold lst
    rw [if_neg (by rw [hl 0 (by omega)]; decide), lst_of n (fun i => p (i + 1)) m (by omega) hp fun i hi => hl (i + 1) (by omega)]
theorem lst_ok : ∀ (n : Nat) (p : Nat → Bool) (m : Nat), m < n → p m = true → p (lst p n) = true ∧ lst p n ≤ m ∧ ∀ i, i < lst p n → p i = false
  | 0, _, _, h, _ => by omega
  | n + 1, p, m, h, hp => by
    unfold lst
    by_cases c : p 0 = true
    · rw [if_pos c]
      exact ⟨c, by omega, fun i hi => by omega⟩
    · rw [if_neg c]
      have hm : m ≠ 0 := fun z => c (by rw [← z]; exact hp)
      obtain ⟨m', rfl⟩ : ∃ m', m = m' + 1 := ⟨m - 1, by omega⟩
      obtain ⟨a, b, d⟩ := lst_ok n (fun i => p (i + 1)) m' (by omega) hp
      refine ⟨a, by omega, fun i hi => ?_⟩
      cases i with
      | zero => simpa using c
      | succ i => exact d i (by omega)
/-! ### the shortest interval -/
def ceilN (lo wh m : Nat) : Nat := (lo * 2 ^ m + wh - 1) / wh
def okS (lo sh wh m : Nat) : Bool := decide (wh * (ceilN lo wh m + 1) ≤ (lo + sh) * 2 ^ m)
def slen (lo sh wh : Nat) : Nat := lst (okS lo sh wh) (wh + 2)
def code (lo sh wh : Nat) : List Nat := bitsOf (ceilN lo wh (slen lo sh wh)) (slen lo sh wh)
theorem ceil_ge {lo wh : Nat} (m : Nat) (h : 0 < wh) : lo * 2 ^ m ≤ wh * ceilN lo wh m := by
  unfold ceilN
  have a := Nat.div_add_mod (lo * 2 ^ m + wh - 1) wh
  have b := Nat.mod_lt (lo * 2 ^ m + wh - 1) h
  omega
theorem ceil_le {lo wh : Nat} (m : Nat) (h : 0 < wh) : wh * ceilN lo wh m ≤ lo * 2 ^ m + wh - 1 := by
  unfold ceilN
  have a := Nat.div_add_mod (lo * 2 ^ m + wh - 1) wh
  omega
theorem ceil_min {lo wh m g : Nat} (h : 0 < wh) (hg : lo * 2 ^ m ≤ wh * g) : ceilN lo wh m ≤ g := by
  apply Classical.byContradiction
  intro c
  have a := ceil_le (lo := lo) m h
  have b := Nat.mul_le_mul_left wh (show g + 1 ≤ ceilN lo wh m by omega)
  rw [Nat.mul_add] at b
  omega
theorem okS_top {lo sh wh : Nat} (hs : 0 < sh) (hw : 0 < wh) : okS lo sh wh (wh + 1) = true := by
  unfold okS
  apply decide_eq_true
  have a := ceil_le (lo := lo) (wh + 1) hw
  have p : wh < 2 ^ wh := Nat.lt_two_pow_self
  have q : 2 ^ (wh + 1) = 2 ^ wh * 2 := Nat.pow_succ ..
  have r : 1 * 2 ^ (wh + 1) ≤ sh * 2 ^ (wh + 1) := Nat.mul_le_mul_right _ hs
  rw [Nat.mul_add, Nat.add_mul]
  omega
theorem slen_ok {lo sh wh : Nat} (hs : 0 < sh) (hw : 0 < wh) : okS lo sh wh (slen lo sh wh) = true ∧ ∀ i, i < slen lo sh wh → okS lo sh wh i = false := by
  obtain ⟨a, _, b⟩ := lst_ok (wh + 2) (okS lo sh wh) (wh + 1) (by omega) (okS_top hs hw)
  exact ⟨a, b⟩
/-- what a while loop finds is it -/
theorem slen_of {lo sh wh m : Nat} (hs : 0 < sh) (hw : 0 < wh) (h : okS lo sh wh m = true) (hl : ∀ i, i < m → okS lo sh wh i = false) : slen lo sh wh = m := by
  obtain ⟨a, b⟩ := slen_ok (lo := lo) hs hw
  have l1 : ¬ slen lo sh wh < m := fun l => by rw [hl _ l] at a; cases a
  have l2 : ¬ m < slen lo sh wh := fun l => by rw [b _ l] at h; cases h
  omega
theorem code_len (lo sh wh : Nat) : (code lo sh wh).length = slen lo sh wh := bitsOf_len _ _
theorem code_bit (lo sh wh : Nat) : ∀ b ∈ code lo sh wh, b < 2 := bitsOf_bit _ _
theorem ceil_lt {lo sh wh m : Nat} (hw : 0 < wh) (hl : lo + sh ≤ wh) (h : okS lo sh wh m = true) : ceilN lo wh m < 2 ^ m := by
  have q : wh * (ceilN lo wh m + 1) ≤ (lo + sh) * 2 ^ m := of_decide_eq_true h
  have r : (lo + sh) * 2 ^ m ≤ wh * 2 ^ m := Nat.mul_le_mul_right _ hl
  have s := Nat.le_of_mul_le_mul_left (Nat.le_trans q r) hw
  omega
theorem slen_cost {lo sh wh : Nat} (hs : 0 < sh) (hw : 0 < wh) (h : 0 < slen lo sh wh) : 2 ^ slen lo sh wh * sh < 4 * wh := by
  obtain ⟨_, b⟩ := slen_ok (lo := lo) hs hw
  have c := b (slen lo sh wh - 1) (by omega)
  have c := of_decide_eq_false c
  have a := ceil_le (lo := lo) (slen lo sh wh - 1) hw
  have p : 2 ^ slen lo sh wh = 2 ^ (slen lo sh wh - 1) * 2 := by
    rw [← Nat.pow_succ, show (slen lo sh wh - 1).succ = slen lo sh wh by omega]
  rw [Nat.mul_add, Nat.add_mul] at c
  have e : 2 ^ slen lo sh wh * sh = 2 * (sh * 2 ^ (slen lo sh wh - 1)) := by rw [p]; grind
  omega
theorem slen_le {lo sh wh : Nat} (hs : 0 < sh) (hw : 0 < wh) (hl : lo + sh ≤ wh) : 2 ^ slen lo sh wh * sh ≤ 4 * wh := by
  by_cases h : 0 < slen lo sh wh
  · exact Nat.le_of_lt (slen_cost hs hw h)
  · rw [show slen lo sh wh = 0 by omega]
    omega
theorem slen_zero {lo sh wh : Nat} (hs : 0 < sh) (hw : 0 < wh) (hl : lo + sh ≤ wh) : slen lo sh wh = 0 ↔ sh = wh := by
  constructor
  · intro e
    have a := (slen_ok (lo := lo) hs hw).1
    rw [e] at a
    have a : wh * (ceilN lo wh 0 + 1) ≤ (lo + sh) * 2 ^ 0 := of_decide_eq_true a
    have b := ceil_ge (lo := lo) 0 hw
    have p : (2 : Nat) ^ 0 = 1 := rfl
    rw [p, Nat.mul_add] at a
    rw [p] at b
    have c : ceilN lo wh 0 = 0 := by
      apply Classical.byContradiction
      intro z
      have := Nat.mul_le_mul_left wh (show 1 ≤ ceilN lo wh 0 by omega)
      omega
    rw [c] at a b
    omega
  · intro e
    have hlo : lo = 0 := by omega
    subst e
    subst hlo
    refine slen_of hs hs ?_ (fun i hi => by omega)
    apply decide_eq_true
    have : ceilN 0 sh 0 = 0 := Nat.le_zero.mp (ceil_min hs (by omega))
    rw [this]
    simp
/-! ### reading a level -/
/-- the number that the first m bits point to -/
def ptr (h : Nat) (v : View) (bits : List Nat) (m : Nat) : Nat := W (2 * h) v * numOf (bits.take m) / 2 ^ m
def okR (h : Nat) (v : View) (bits : List Nat) (m : Nat) : Bool :=
  decide ((ptr h v bits m - (dec h 1 v (ptr h v bits m)).2) * 2 ^ m ≤ W (2 * h) v * numOf (bits.take m) ∧
    W (2 * h) v * (numOf (bits.take m) + 1) ≤ ((ptr h v bits m - (dec h 1 v (ptr h v bits m)).2) + W h (nxt v (dec h 1 v (ptr h v bits m)).1)) * 2 ^ m)
def levelRead (h : Nat) (v : View) (bits : List Nat) : Option (View × Nat) :=
  if lst (okR h v bits) (bits.length + 1) ≤ bits.length then
    some (nxt v (dec h 1 v (ptr h v bits (lst (okR h v bits) (bits.length + 1)))).1, lst (okR h v bits) (bits.length + 1))
  else none
theorem levelRead_some {h : Nat} {v : View} {bits : List Nat} {m : Nat} (hm : m ≤ bits.length) (ok : okR h v bits m = true) (hl : ∀ i, i < m → okR h v bits i = false) :
    levelRead h v bits = some (nxt v (dec h 1 v (ptr h v bits m)).1, m) := by
  unfold levelRead
  rw [lst_of (bits.length + 1) _ m (by omega) ok hl, if_pos hm]
theorem levelRead_none {h : Nat} {v : View} {bits : List Nat} (hl : ∀ i, i ≤ bits.length → okR h v bits i = false) : levelRead h v bits = none := by
  unfold levelRead
  rw [lst_none (bits.length + 1) _ fun i hi => hl i (by omega), if_neg (by omega)]
theorem levelRead_inv {h : Nat} {v : View} {bits : List Nat} {w : View} {m : Nat} (e : levelRead h v bits = some (w, m)) :
    m ≤ bits.length ∧ w = nxt v (dec h 1 v (ptr h v bits m)).1 := by
  unfold levelRead at e
  split at e
  · rename_i hc
    have e := Option.some.inj e
    have e1 := congrArg Prod.fst e
    have e2 := congrArg Prod.snd e
    dsimp only at e1 e2
    subst e2
    exact ⟨hc, e1.symm⟩
  · cases e
theorem ptr_lt {h : Nat} {v : View} {bits : List Nat} {m : Nat} (hw : 0 < W (2 * h) v) (hb : ∀ b ∈ bits, b < 2) (hm : m ≤ bits.length) : ptr h v bits m < W (2 * h) v := by
  unfold ptr
  have n := numOf_lt m (bits.take m) (by rw [List.length_take]; omega) fun b hx => hb b (List.mem_of_mem_take hx)
  rw [Nat.div_lt_iff_lt_mul (Nat.two_pow_pos m)]
  exact Nat.mul_lt_mul_of_pos_left n hw
/-- if the interval of some bits lies in a share, and that of the code (bits of F, m of them) within the interval, it is the code's share -/
theorem okR_share {h : Nat} {v : View} {bits : List Nat} {j m F : Nat} {as : List Nat} (hw : 0 < W (2 * h) v) (hb : ∀ b ∈ bits, b < 2) (hj : j ≤ bits.length) (fits : Fits v as)
    (hjm : j ≤ m) (hG : numOf (bits.take j) = F / 2 ^ (m - j)) (c1 : low h 1 v as * 2 ^ m ≤ W (2 * h) v * F) (c2 : W (2 * h) v * (F + 1) ≤ (low h 1 v as + shr h v as) * 2 ^ m)
    (ok : okR h v bits j = true) : okS (low h 1 v as) (shr h v as) (W (2 * h) v) j = true ∧ (dec h 1 v (ptr h v bits j)).1 = as := by
  have hlt := ptr_lt hw hb hj
  have ok := of_decide_eq_true ok
  rw [hG] at ok
  obtain ⟨f', e', r'⟩ := dec_spec h v 1 (ptr h v bits j) (by omega)
  generalize hd : dec h 1 v (ptr h v bits j) = d at ok f' e' r'
  obtain ⟨as', r⟩ := d
  have f' : Fits v as' := f'
  have e' : ptr h v bits j = low h 1 v as' + r := e'
  have r' : r < 1 * shr h v as' := r'
  rw [W_nxt h v as' f'] at ok
  rw [show ptr h v bits j - r = low h 1 v as' by omega] at ok
  obtain ⟨o1, o2⟩ := ok
  generalize hF : F / 2 ^ (m - j) = G at o1 o2
  generalize hWh : W (2 * h) v = wh at *
  -- the number that the whole code points to
  have P2 : 2 ^ m = 2 ^ j * 2 ^ (m - j) := by rw [← Nat.pow_add, show j + (m - j) = m by omega]
  have hp := Nat.two_pow_pos (m - j)
  have hpm := Nat.two_pow_pos m
  have g1 : G * 2 ^ (m - j) ≤ F := by rw [← hF]; exact Nat.div_mul_le_self _ _
  have g2 : F < (G + 1) * 2 ^ (m - j) := by
    rw [← hF, ← Nat.div_lt_iff_lt_mul hp]
    omega
  have lo' : low h 1 v as' ≤ wh * F / 2 ^ m := by
    rw [Nat.le_div_iff_mul_le hpm, P2, ← Nat.mul_assoc]
    calc low h 1 v as' * 2 ^ j * 2 ^ (m - j) ≤ wh * G * 2 ^ (m - j) := Nat.mul_le_mul_right _ o1
      _ = wh * (G * 2 ^ (m - j)) := Nat.mul_assoc ..
      _ ≤ wh * F := Nat.mul_le_mul_left _ g1
  have hi' : wh * F / 2 ^ m < low h 1 v as' + shr h v as' := by
    rw [Nat.div_lt_iff_lt_mul hpm, P2, ← Nat.mul_assoc]
    calc wh * F < wh * ((G + 1) * 2 ^ (m - j)) := Nat.mul_lt_mul_of_pos_left g2 hw
      _ = wh * (G + 1) * 2 ^ (m - j) := (Nat.mul_assoc ..).symm
      _ ≤ (low h 1 v as' + shr h v as') * 2 ^ j * 2 ^ (m - j) := Nat.mul_le_mul_right _ o2
  have lo : low h 1 v as ≤ wh * F / 2 ^ m := by
    rw [Nat.le_div_iff_mul_le hpm]
    exact c1
  have hi : wh * F / 2 ^ m < low h 1 v as + shr h v as := by
    rw [Nat.div_lt_iff_lt_mul hpm]
    have := Nat.mul_lt_mul_of_pos_left (show F < F + 1 by omega) hw
    omega
  have d1 := dec_in f' lo' hi'
  have d2 := dec_in fits lo hi
  have same : as' = as := congrArg Prod.fst (d1.symm.trans d2)
  subst same
  refine ⟨?_, rfl⟩
  apply decide_eq_true
  have cm := ceil_min hw o1
  exact Nat.le_trans (Nat.mul_le_mul_left wh (show ceilN (low h 1 v as') wh j + 1 ≤ G + 1 by omega)) o2
section
variable {h : Nat} {v : View} {as : List Nat}
/-- the code of a next view -/
abbrev codeOf (h : Nat) (v : View) (as : List Nat) : List Nat := code (low h 1 v as) (shr h v as) (W (2 * h) v)
abbrev lenOf (h : Nat) (v : View) (as : List Nat) : Nat := slen (low h 1 v as) (shr h v as) (W (2 * h) v)
theorem share_le (fits : Fits v as) : low h 1 v as + shr h v as ≤ W (2 * h) v := by
  have := low_le h v as 1 fits
  omega
/-- the facts of the code's number -/
theorem code_num (fits : Fits v as) (hs : 0 < shr h v as) : 0 < W (2 * h) v ∧ ceilN (low h 1 v as) (W (2 * h) v) (lenOf h v as) < 2 ^ lenOf h v as ∧
    low h 1 v as * 2 ^ lenOf h v as ≤ W (2 * h) v * ceilN (low h 1 v as) (W (2 * h) v) (lenOf h v as) ∧
    W (2 * h) v * (ceilN (low h 1 v as) (W (2 * h) v) (lenOf h v as) + 1) ≤ (low h 1 v as + shr h v as) * 2 ^ lenOf h v as := by
  have l := share_le (h := h) fits
  have hw : 0 < W (2 * h) v := by omega
  have ok := (slen_ok (lo := low h 1 v as) hs hw).1
  exact ⟨hw, ceil_lt hw l ok, ceil_ge _ hw, of_decide_eq_true ok⟩
/-- a proper beginning of the code tells nothing -/
theorem okR_before {bits : List Nat} {j : Nat} (fits : Fits v as) (hs : 0 < shr h v as) (hb : ∀ b ∈ bits, b < 2) (hj : j < lenOf h v as) (hjl : j ≤ bits.length) (e : bits.take j = (codeOf h v as).take j) : okR h v bits j = false := by
  obtain ⟨hw, n1, n2, n3⟩ := code_num fits hs
  cases q : okR h v bits j with
  | false => rfl
  | true =>
    exfalso
    have hG : numOf (bits.take j) = ceilN (low h 1 v as) (W (2 * h) v) (lenOf h v as) / 2 ^ (lenOf h v as - j) := by
      rw [e]
      show numOf ((bitsOf _ _).take j) = _
      rw [bitsOf_take _ _ _ (Nat.le_of_lt hj)]
      refine numOf_bitsOf _ _ ?_
      rw [Nat.div_lt_iff_lt_mul (Nat.two_pow_pos _), ← Nat.pow_add, show j + (lenOf h v as - j) = lenOf h v as by omega]
      exact n1
    have z := (okR_share hw hb hjl fits (Nat.le_of_lt hj) hG n2 n3 q).1
    rw [(slen_ok (lo := low h 1 v as) hs hw).2 j hj] at z
    cases z
theorem read_code {rest : List Nat} (fits : Fits v as) (hs : 0 < shr h v as) (hb : ∀ b ∈ rest, b < 2) : levelRead h v (codeOf h v as ++ rest) = some (nxt v as, lenOf h v as) := by
  obtain ⟨hw, n1, n2, n3⟩ := code_num fits hs
  have hb' : ∀ b ∈ codeOf h v as ++ rest, b < 2 := fun b hx => (List.mem_append.mp hx).elim (code_bit _ _ _ b) (hb b)
  have hl : (codeOf h v as).length = lenOf h v as := code_len _ _ _
  have len : lenOf h v as ≤ (codeOf h v as ++ rest).length := by rw [List.length_append, hl]; omega
  have tk : (codeOf h v as ++ rest).take (lenOf h v as) = codeOf h v as := by
    rw [List.take_append_of_le_length (by omega), List.take_of_length_le (by omega)]
  have nm : numOf ((codeOf h v as ++ rest).take (lenOf h v as)) = ceilN (low h 1 v as) (W (2 * h) v) (lenOf h v as) := by
    rw [tk]
    exact numOf_bitsOf _ _ n1
  have hpm := Nat.two_pow_pos (lenOf h v as)
  have lo : low h 1 v as ≤ ptr h v (codeOf h v as ++ rest) (lenOf h v as) := by
    unfold ptr
    rw [nm, Nat.le_div_iff_mul_le hpm]
    exact n2
  have hi : ptr h v (codeOf h v as ++ rest) (lenOf h v as) < low h 1 v as + shr h v as := by
    unfold ptr
    rw [nm, Nat.div_lt_iff_lt_mul hpm]
    have := Nat.mul_lt_mul_of_pos_left (show ceilN (low h 1 v as) (W (2 * h) v) (lenOf h v as) < ceilN (low h 1 v as) (W (2 * h) v) (lenOf h v as) + 1 by omega) hw
    omega
  have d := dec_in fits lo hi
  have r := levelRead_some (h := h) (v := v) len (m := lenOf h v as) ?_ ?_
  · rw [r, d]
  · unfold okR
    apply decide_eq_true
    rw [d, nm]
    dsimp only
    rw [W_nxt h v as fits, show ptr h v (codeOf h v as ++ rest) (lenOf h v as) - (ptr h v (codeOf h v as ++ rest) (lenOf h v as) - low h 1 v as) = low h 1 v as by omega]
    exact ⟨n2, n3⟩
  · intro j hj
    exact okR_before fits hs hb' hj (by omega) (by rw [List.take_append_of_le_length (by omega)])
theorem read_short {bits : List Nat} (fits : Fits v as) (hs : 0 < shr h v as) (hl : bits.length < lenOf h v as) (e : bits = (codeOf h v as).take bits.length) : levelRead h v bits = none := by
  have hb : ∀ b ∈ bits, b < 2 := fun b hx => by
    rw [e] at hx
    exact code_bit _ _ _ b (List.mem_of_mem_take hx)
  refine levelRead_none fun j hj => okR_before fits hs hb (by omega) hj ?_
  have : (bits.take j) = ((codeOf h v as).take bits.length).take j := by rw [← e]
  rw [this, List.take_take, Nat.min_eq_left hj]
/-- no bits: only the one next view is told -/
theorem read_nil {w : View} {m : Nat} (fits : Fits v as) (hs : 0 < shr h v as) (e : levelRead h v [] = some (w, m)) : w = nxt v as ∧ m = 0 := by
  obtain ⟨e1, e2⟩ := levelRead_inv e
  have hm : m = 0 := by simpa using e1
  subst hm
  by_cases c : 0 < lenOf h v as
  · rw [read_short (bits := []) fits hs c (by simp)] at e
    cases e
  · have z : lenOf h v as = 0 := by omega
    have q := read_code (rest := []) fits hs (fun b hb => by cases hb)
    have n : codeOf h v as = [] := List.length_eq_zero_iff.mp (by rw [show (codeOf h v as).length = lenOf h v as from code_len _ _ _, z])
    rw [n] at q
    have q : levelRead h v [] = some (nxt v as, lenOf h v as) := q
    rw [q] at e
    have e := Option.some.inj e
    exact ⟨(congrArg Prod.fst e).symm, rfl⟩
end
end FC

set_option linter.all false
namespace FC
/-! ### views of a row -/
def ins : View → Nat → Nat → View
  | [], k, c => [(k, c)]
  | e :: v, k, c => if e.1 = k then (k, e.2 + c) :: v else e :: ins v k c
def tally (l : View) : View := l.foldl (fun v e => ins v e.1 e.2) []
/-- a view of coarser cells: s of them one -/
def coarse (s : Nat) (v : View) : View := tally (v.map fun e => (e.1 / s, e.2))
theorem cf_ins : ∀ (v : View) (k c j : Nat), cf (ins v k c) j = cf v j + if k = j then c else 0
  | [], k, c, j => by simp [ins, cf]
  | e :: v, k, c, j => by
    unfold ins
    by_cases h : e.1 = k
    · rw [if_pos h]
      show (if k = j then e.2 + c else 0) + cf v j = (if e.1 = j then e.2 else 0) + cf v j + if k = j then c else 0
      rw [h]
      split <;> omega
    · rw [if_neg h]
      show (if e.1 = j then e.2 else 0) + cf (ins v k c) j = (if e.1 = j then e.2 else 0) + cf v j + if k = j then c else 0
      rw [cf_ins v k c j]
      omega
/-- keys ascend (some alike) from lo on, below N; counts are above 0 -/
def Nd : Nat → Nat → View → Prop
  | _, _, [] => True
  | lo, N, e :: v => lo ≤ e.1 ∧ e.1 < N ∧ 0 < e.2 ∧ Nd e.1 N v
/-- .. and the keys are at most top -/
theorem ins_asc : ∀ {lo N top k c : Nat} {v : View}, Asc lo N v → (∀ e ∈ v, e.1 ≤ top) → top ≤ k → lo ≤ k → k < N → 0 < c → Asc lo N (ins v k c) ∧ ∀ e ∈ ins v k c, e.1 ≤ k
  | lo, N, top, k, c, [], _, _, h1, h2, h3, h4 => ⟨⟨h2, h3, h4, trivial⟩, fun e he => by
      have he : e ∈ [((k, c) : Nat × Nat)] := he
      rw [List.mem_singleton.mp he]
      exact Nat.le_refl _⟩
  | lo, N, top, k, c, e :: v, hv, ht, h1, h2, h3, h4 => by
    unfold ins
    by_cases h : e.1 = k
    · rw [if_pos h]
      subst h
      refine ⟨⟨hv.1, hv.2.1, by show 0 < e.2 + c; omega, hv.2.2.2⟩, fun x hx => ?_⟩
      rcases List.mem_cons.mp hx with r | r
      · rw [r]; exact Nat.le_refl _
      · exact Nat.le_trans (ht x (List.mem_cons_of_mem _ r)) h1
    · rw [if_neg h]
      have ek := ht e List.mem_cons_self
      obtain ⟨a, b⟩ := ins_asc (lo := e.1 + 1) hv.2.2.2 (fun x hx => ht x (List.mem_cons_of_mem _ hx)) h1 (show e.1 + 1 ≤ k by omega) h3 h4
      refine ⟨⟨hv.1, hv.2.1, hv.2.2.1, a⟩, fun x hx => ?_⟩
      rcases List.mem_cons.mp hx with r | r
      · rw [r]; omega
      · exact b x r
theorem tally_go : ∀ (l : View) {N top : Nat} {v : View}, Asc 0 N v → (∀ e ∈ v, e.1 ≤ top) → Nd top N l →
    Asc 0 N (l.foldl (fun v e => ins v e.1 e.2) v) ∧ ∀ k, cf (l.foldl (fun v e => ins v e.1 e.2) v) k = cf v k + cf l k
  | [], N, top, v, hv, _, _ => ⟨hv, fun k => rfl⟩
  | e :: l, N, top, v, hv, ht, ⟨h1, h2, h3, h4⟩ => by
    obtain ⟨a, b⟩ := ins_asc (k := e.1) (c := e.2) hv ht h1 (Nat.zero_le _) h2 h3
    obtain ⟨c, d⟩ := tally_go l a b h4
    refine ⟨c, fun k => ?_⟩
    show cf (l.foldl (fun v e => ins v e.1 e.2) (ins v e.1 e.2)) k = cf v k + ((if e.1 = k then e.2 else 0) + cf l k)
    rw [d k, cf_ins]
    omega
theorem tally_asc {l : View} {N : Nat} (h : Nd 0 N l) : Asc 0 N (tally l) := (tally_go l (v := []) (top := 0) trivial (fun e he => by cases he) h).1
theorem tally_cf {l : View} {N : Nat} (h : Nd 0 N l) (k : Nat) : cf (tally l) k = cf l k := by
  have := (tally_go l (v := []) (top := 0) trivial (fun e he => by cases he) h).2 k
  rw [show tally l = l.foldl (fun v e => ins v e.1 e.2) [] from rfl, this]
  simp [cf]
theorem cd_map (s : Nat) : ∀ (v : View) (k : Nat), cf (v.map fun e => (e.1 / s, e.2)) k = cd s v k
  | [], _ => rfl
  | e :: v, k => by
    show (if e.1 / s = k then e.2 else 0) + cf (v.map fun e => (e.1 / s, e.2)) k = (if e.1 / s = k then e.2 else 0) + cd s v k
    rw [cd_map s v k]
theorem map_nd {s : Nat} (hs : 0 < s) : ∀ {lo N : Nat} {v : View}, Asc lo (N * s) v → Nd (lo / s) N (v.map fun e => (e.1 / s, e.2))
  | _, _, [], _ => trivial
  | lo, N, e :: v, ⟨h1, h2, h3, h4⟩ => by
    have ih := map_nd hs (h4.mono (Nat.le_succ _))
    exact ⟨Nat.div_le_div_right h1, (Nat.div_lt_iff_lt_mul hs).mpr h2, h3, ih⟩
theorem coarse_nd {s N : Nat} {v : View} (hs : 0 < s) (hv : Asc 0 (N * s) v) : Nd 0 N (v.map fun e => (e.1 / s, e.2)) := by
  have := map_nd hs hv
  rw [Nat.zero_div] at this
  exact this
theorem coarse_asc {s N : Nat} {v : View} (hs : 0 < s) (hv : Asc 0 (N * s) v) : Asc 0 N (coarse s v) := tally_asc (coarse_nd hs hv)
theorem coarse_cf {s N : Nat} {v : View} (hs : 0 < s) (hv : Asc 0 (N * s) v) (k : Nat) : cf (coarse s v) k = cd s v k := by
  unfold coarse
  rw [tally_cf (coarse_nd hs hv), cd_map]
theorem tot_ins : ∀ (v : View) (k c : Nat), tot (ins v k c) = tot v + c
  | [], k, c => by simp [ins, tot]
  | e :: v, k, c => by
    unfold ins
    split
    · show e.2 + c + tot v = e.2 + tot v + c
      omega
    · show e.2 + tot (ins v k c) = e.2 + tot v + c
      rw [tot_ins v k c]
      omega
theorem tot_tally_go : ∀ (l v : View), tot (l.foldl (fun v e => ins v e.1 e.2) v) = tot v + tot l
  | [], v => by simp [tot]
  | e :: l, v => by
    show tot (l.foldl (fun v e => ins v e.1 e.2) (ins v e.1 e.2)) = tot v + (e.2 + tot l)
    rw [tot_tally_go l, tot_ins]
    omega
theorem tot_map (s : Nat) : ∀ v : View, tot (v.map fun e => (e.1 / s, e.2)) = tot v
  | [] => rfl
  | e :: v => by
    show e.2 + tot (v.map fun e => (e.1 / s, e.2)) = e.2 + tot v
    rw [tot_map s v]
theorem tot_coarse (s : Nat) (v : View) : tot (coarse s v) = tot v := by
  unfold coarse tally
  rw [tot_tally_go, tot_map]
  simp [tot]
/-- a row of unlike numbers, ascending -/
def Row (N : Nat) (r : List Nat) : Prop := r.Pairwise (· < ·) ∧ ∀ n ∈ r, n < N
def ones (r : List Nat) : View := r.map fun n => (n, 1)
theorem ones_asc : ∀ {r : List Nat} {lo N : Nat}, (∀ n ∈ r, lo ≤ n ∧ n < N) → r.Pairwise (· < ·) → Asc lo N (ones r)
  | [], _, _, _, _ => trivial
  | n :: r, lo, N, h, p => by
    obtain ⟨a, b⟩ := h n List.mem_cons_self
    have p := List.pairwise_cons.mp p
    exact ⟨a, b, Nat.one_pos, ones_asc (fun x hx => ⟨p.1 x hx, (h x (List.mem_cons_of_mem _ hx)).2⟩) p.2⟩
theorem Row.asc {N : Nat} {r : List Nat} (h : Row N r) : Asc 0 N (ones r) := ones_asc (fun n hn => ⟨Nat.zero_le _, h.2 n hn⟩) h.1
theorem tot_ones : ∀ r : List Nat, tot (ones r) = r.length
  | [] => rfl
  | n :: r => by
    show 1 + tot (ones r) = r.length + 1
    rw [tot_ones r]
    omega
/-- the view at fineness f -/
def vw (D : Nat) (r : List Nat) (f : Nat) : View := coarse (2 ^ (D - f)) (ones r)
section
variable {D : Nat} {r : List Nat}
theorem Row.at (hr : Row (2 ^ D) r) {f : Nat} (hf : f ≤ D) : Asc 0 (2 ^ f * 2 ^ (D - f)) (ones r) := by
  rw [← Nat.pow_add, show f + (D - f) = D by omega]
  exact hr.asc
theorem vw_asc (hr : Row (2 ^ D) r) {f : Nat} (hf : f ≤ D) : Asc 0 (2 ^ f) (vw D r f) := coarse_asc (Nat.two_pow_pos _) (hr.at hf)
theorem vw_cf (hr : Row (2 ^ D) r) {f : Nat} (hf : f ≤ D) (k : Nat) : cf (vw D r f) k = cd (2 ^ (D - f)) (ones r) k := coarse_cf (Nat.two_pow_pos _) (hr.at hf) k
theorem cd_split (s : Nat) : ∀ (v : View) (k : Nat), cd (s * 2) v k = cd s v (2 * k) + cd s v (2 * k + 1)
  | [], _ => rfl
  | e :: v, k => by
    have ih := cd_split s v k
    show (if e.1 / (s * 2) = k then e.2 else 0) + cd (s * 2) v k = ((if e.1 / s = 2 * k then e.2 else 0) + cd s v (2 * k)) + ((if e.1 / s = 2 * k + 1 then e.2 else 0) + cd s v (2 * k + 1))
    rw [ih, ← Nat.div_div_eq_div_mul]
    by_cases h1 : e.1 / s = 2 * k
    · rw [if_pos h1, if_neg (show ¬ e.1 / s = 2 * k + 1 by omega), if_pos (by omega)]
      omega
    · by_cases h2 : e.1 / s = 2 * k + 1
      · rw [if_neg h1, if_pos h2, if_pos (by omega)]
        omega
      · rw [if_neg h1, if_neg h2, if_neg (by omega)]
        omega
theorem vw_split (hr : Row (2 ^ D) r) {f : Nat} (hf : f < D) (k : Nat) : cf (vw D r f) k = cf (vw D r (f + 1)) (2 * k) + cf (vw D r (f + 1)) (2 * k + 1) := by
  rw [vw_cf hr (Nat.le_of_lt hf), vw_cf hr hf, vw_cf hr hf, show D - f = (D - (f + 1)) + 1 by omega, Nat.pow_succ, cd_split]
/-- the counts of the first halves at fineness f -/
abbrev asAt (D : Nat) (r : List Nat) (f : Nat) : List Nat := asOf (vw D r f) (vw D r (f + 1))
abbrev half (D f : Nat) : Nat := 2 ^ (D - f - 1)
theorem two_half {f : Nat} (hf : f < D) : 2 * half D f = 2 ^ (D - f) := by
  unfold half
  rw [Nat.mul_comm, ← Nat.pow_succ, show (D - f - 1).succ = D - f by omega]
theorem vw_next (hr : Row (2 ^ D) r) {f : Nat} (hf : f < D) : nxt (vw D r f) (asAt D r f) = vw D r (f + 1) := by
  refine nxt_asOf (vw_asc hr (Nat.le_of_lt hf)) ?_ (vw_split hr hf)
  rw [Nat.mul_comm, ← Nat.pow_succ]
  exact vw_asc hr hf
theorem vw_fits (hr : Row (2 ^ D) r) {f : Nat} (hf : f < D) : Fits (vw D r f) (asAt D r f) :=
  asOf_fits fun e he => by rw [← vw_split hr hf, cf_mem (vw_asc hr (Nat.le_of_lt hf)) he]
/-- a cell has at most as many points as its size -/
theorem cell_le (s k : Nat) (hs : 0 < s) : ∀ {l : View} {lo N : Nat}, Asc lo N l → (∀ e ∈ l, e.2 = 1) → cd s l k + max lo (k * s) ≤ max ((k + 1) * s) lo
  | [], lo, N, _, _ => by
    show 0 + max lo (k * s) ≤ _
    rw [Nat.add_mul]
    omega
  | e :: l, lo, N, ⟨h1, h2, h3, h4⟩, ho => by
    have ih := cell_le s k hs h4 fun x hx => ho x (List.mem_cons_of_mem _ hx)
    have e1 := ho e List.mem_cons_self
    show (if e.1 / s = k then e.2 else 0) + cd s l k + max lo (k * s) ≤ _
    rw [Nat.add_mul] at ih ⊢
    by_cases c : e.1 / s = k
    · rw [if_pos c, e1]
      have a : k * s ≤ e.1 := by rw [← c]; exact Nat.div_mul_le_self _ _
      have b : e.1 < (k + 1) * s := by rw [← Nat.div_lt_iff_lt_mul hs]; omega
      rw [Nat.add_mul] at b
      omega
    · rw [if_neg c]
      by_cases q : e.1 < (k + 1) * s
      · rw [Nat.add_mul] at q
        omega
      · rw [Nat.add_mul] at q
        have z : cd s l k = 0 := by
          have all : ∀ {l : View} {lo N : Nat}, Asc lo N l → (k + 1) * s ≤ lo → cd s l k = 0 := by
            intro l
            induction l with
            | nil => intro _ _ _ _; rfl
            | cons g l ih =>
              intro lo N h hl
              show (if g.1 / s = k then g.2 else 0) + cd s l k = 0
              have hg : (k + 1) * s ≤ g.1 := Nat.le_trans hl h.1
              rw [ih h.2.2.2 (by omega), if_neg (fun z => by
                have := (Nat.le_div_iff_mul_le hs).mpr hg
                omega)]
          exact all h4 (by rw [Nat.add_mul]; omega)
        omega
theorem vw_le (hr : Row (2 ^ D) r) {f : Nat} (hf : f ≤ D) (k : Nat) : cf (vw D r f) k ≤ 2 ^ (D - f) := by
  rw [vw_cf hr hf]
  have := cell_le (2 ^ (D - f)) k (Nat.two_pow_pos _) hr.asc (fun e he => by
    obtain ⟨n, _, e⟩ := List.mem_map.mp he
    rw [← e])
  rw [Nat.add_mul] at this
  omega
theorem W_pos (s : Nat) : ∀ {v : View}, (∀ e ∈ v, e.2 ≤ s) → 0 < W s v
  | [], _ => Nat.one_pos
  | e :: v, h => Nat.mul_pos (ch_pos s e.2 (h e List.mem_cons_self)) (W_pos s fun x hx => h x (List.mem_cons_of_mem _ hx))
theorem vw_W (hr : Row (2 ^ D) r) {f : Nat} (hf : f ≤ D) : 0 < W (2 ^ (D - f)) (vw D r f) :=
  W_pos _ fun e he => by rw [← cf_mem (vw_asc hr hf) he]; exact vw_le hr hf _
theorem vw_shr (hr : Row (2 ^ D) r) {f : Nat} (hf : f < D) : shr (half D f) (vw D r f) (asAt D r f) = W (half D f) (vw D r (f + 1)) := by
  rw [← W_nxt _ _ _ (vw_fits hr hf), vw_next hr hf]
theorem vw_pos (hr : Row (2 ^ D) r) {f : Nat} (hf : f < D) : 0 < shr (half D f) (vw D r f) (asAt D r f) := by
  rw [vw_shr hr hf]
  exact vw_W hr hf
theorem tot_vw (D f : Nat) (r : List Nat) : tot (vw D r f) = r.length := by
  unfold vw
  rw [tot_coarse, tot_ones]
/-- what one knows at first -/
def v0 (many : Nat) : View := if 0 < many then [(0, many)] else []
theorem cf_tot : ∀ {v : View}, Asc 0 1 v → v = v0 (tot v)
  | [], _ => rfl
  | [e], h => by
    have h0 : e.1 = 0 := by have := h.2.1; omega
    have hp := h.2.2.1
    show [e] = v0 (e.2 + 0)
    unfold v0
    rw [if_pos (by omega)]
    exact congrArg (fun x => [x]) (Prod.ext h0 rfl)
  | e :: g :: v, h => by
    exfalso
    have a := h.2.2.2.1
    have b := h.2.2.2.2.1
    omega
theorem vw_zero (hr : Row (2 ^ D) r) : vw D r 0 = v0 r.length := by
  have a := cf_tot (v := vw D r 0) (vw_asc hr (Nat.zero_le _))
  rw [tot_vw] at a
  exact a
/-- the view at the depth: the row -/
theorem vw_last (hr : Row (2 ^ D) r) : vw D r D = ones r := by
  refine Asc.ext (lo := 0) (N := 2 ^ D) (vw_asc hr (Nat.le_refl _)) hr.asc fun k => ?_
  rw [vw_cf hr (Nat.le_refl _), Nat.sub_self]
  exact cd_one _ _
theorem ones_keys (r : List Nat) : (ones r).map (·.1) = r := by
  unfold ones
  rw [List.map_map]
  exact List.map_id r
/-! ### the code of a row -/
def codeAt (D : Nat) (r : List Nat) (f : Nat) : List Nat := codeOf (half D f) (vw D r f) (asAt D r f)
def beg (D : Nat) (r : List Nat) : Nat → List Nat
  | 0 => []
  | f + 1 => beg D r f ++ codeAt D r f
theorem beg_flat (D : Nat) (r : List Nat) : ∀ f, beg D r f = ((List.range f).map (codeAt D r)).flatten
  | 0 => rfl
  | f + 1 => by
    show beg D r f ++ codeAt D r f = _
    rw [beg_flat D r f, List.range_succ, List.map_append, List.flatten_append]
    simp
theorem beg_bit (D : Nat) (r : List Nat) : ∀ f, ∀ b ∈ beg D r f, b < 2
  | 0, b, h => by cases h
  | f + 1, b, h => (List.mem_append.mp h).elim (beg_bit D r f b) (code_bit _ _ _ b)
theorem W_half (v : View) {f : Nat} (hf : f < D) : W (2 * half D f) v = W (2 ^ (D - f)) v := by rw [two_half hf]
/-- less than two bits a level more than the share is worth -/
theorem beg_worth (hr : Row (2 ^ D) r) : ∀ f, f ≤ D → 2 ^ (beg D r f).length * W (2 ^ (D - f)) (vw D r f) ≤ ch (2 ^ D) r.length * 2 ^ (2 * f)
  | 0, _ => by
    rw [vw_zero hr]
    show 2 ^ 0 * W (2 ^ (D - 0)) (v0 r.length) ≤ _
    have e : W (2 ^ D) (v0 r.length) = ch (2 ^ D) r.length := by
      unfold v0
      split
      · show ch (2 ^ D) r.length * 1 = _
        omega
      · rw [show r.length = 0 by omega, ch_zero]
        rfl
    rw [show D - 0 = D from rfl, e]
    simp
  | f + 1, hf => by
    have ih := beg_worth hr f (Nat.le_of_lt hf)
    have s := slen_le (lo := low (half D f) 1 (vw D r f) (asAt D r f)) (vw_pos hr hf) (by rw [W_half _ hf]; exact vw_W hr (Nat.le_of_lt hf)) (share_le (vw_fits hr hf))
    rw [vw_shr hr hf, W_half _ hf] at s
    have el : (beg D r (f + 1)).length = (beg D r f).length + slen (low (half D f) 1 (vw D r f) (asAt D r f)) (W (half D f) (vw D r (f + 1))) (W (2 ^ (D - f)) (vw D r f)) := by
      show (beg D r f ++ codeAt D r f).length = _
      rw [List.length_append]
      unfold codeAt
      rw [code_len, vw_shr hr hf, W_half _ hf]
    rw [el, Nat.pow_add, show D - (f + 1) = D - f - 1 by omega]
    generalize slen (low (half D f) 1 (vw D r f) (asAt D r f)) (W (half D f) (vw D r (f + 1))) (W (2 ^ (D - f)) (vw D r f)) = z at s ⊢
    have p : 2 ^ (2 * (f + 1)) = 2 ^ (2 * f) * 4 := by rw [show 2 * (f + 1) = 2 * f + 2 by omega, Nat.pow_add]
    rw [p]
    calc 2 ^ (beg D r f).length * 2 ^ z * W (half D f) (vw D r (f + 1)) = 2 ^ (beg D r f).length * (2 ^ z * W (half D f) (vw D r (f + 1))) := Nat.mul_assoc ..
      _ ≤ 2 ^ (beg D r f).length * (4 * W (2 ^ (D - f)) (vw D r f)) := Nat.mul_le_mul_left _ s
      _ = 2 ^ (beg D r f).length * W (2 ^ (D - f)) (vw D r f) * 4 := by grind
      _ ≤ ch (2 ^ D) r.length * 2 ^ (2 * f) * 4 := Nat.mul_le_mul_right _ ih
      _ = ch (2 ^ D) r.length * (2 ^ (2 * f) * 4) := Nat.mul_assoc ..
theorem codeAt_nil (hr : Row (2 ^ D) r) {f : Nat} (hf : f < D) : codeAt D r f = [] ↔ W (2 ^ (D - f)) (vw D r f) = W (2 ^ (D - (f + 1))) (vw D r (f + 1)) := by
  have z := slen_zero (lo := low (half D f) 1 (vw D r f) (asAt D r f)) (vw_pos hr hf) (by rw [W_half _ hf]; exact vw_W hr (Nat.le_of_lt hf)) (share_le (vw_fits hr hf))
  rw [vw_shr hr hf, W_half _ hf] at z
  have el : (codeAt D r f).length = slen (low (half D f) 1 (vw D r f) (asAt D r f)) (W (half D f) (vw D r (f + 1))) (W (2 ^ (D - f)) (vw D r f)) := by
    unfold codeAt
    rw [code_len, vw_shr hr hf, W_half _ hf]
  rw [← List.length_eq_zero_iff, el, z, show D - (f + 1) = D - f - 1 by omega]
  exact eq_comm
theorem codeAt_cost (hr : Row (2 ^ D) r) {f : Nat} (hf : f < D) (h : 0 < (codeAt D r f).length) :
    2 ^ (codeAt D r f).length * W (2 ^ (D - (f + 1))) (vw D r (f + 1)) < 4 * W (2 ^ (D - f)) (vw D r f) := by
  have el : (codeAt D r f).length = slen (low (half D f) 1 (vw D r f) (asAt D r f)) (W (half D f) (vw D r (f + 1))) (W (2 ^ (D - f)) (vw D r f)) := by
    unfold codeAt
    rw [code_len, vw_shr hr hf, W_half _ hf]
  rw [el] at h ⊢
  have z := slen_cost (lo := low (half D f) 1 (vw D r f) (asAt D r f)) (sh := W (half D f) (vw D r (f + 1))) (wh := W (2 ^ (D - f)) (vw D r f)) (vw_W hr hf) (vw_W hr (Nat.le_of_lt hf)) h
  rw [show D - (f + 1) = D - f - 1 by omega]
  exact z
end
/-! ### reading all levels -/
def rd : Nat → Nat → View → List Nat → Nat × View × Nat
  | 0, f, v, _ => (f, v, 0)
  | d + 1, f, v, bits => match levelRead (2 ^ d) v bits with
    | none => (f, v, 0)
    | some x => ((rd d (f + 1) x.1 (bits.drop x.2)).1, (rd d (f + 1) x.1 (bits.drop x.2)).2.1, x.2 + (rd d (f + 1) x.1 (bits.drop x.2)).2.2)
theorem rd_none {d f : Nat} {v : View} {bits : List Nat} (h : levelRead (2 ^ d) v bits = none) : rd (d + 1) f v bits = (f, v, 0) := by
  unfold rd
  rw [h]
theorem rd_some {d f : Nat} {v w : View} {m : Nat} {bits : List Nat} (h : levelRead (2 ^ d) v bits = some (w, m)) :
    rd (d + 1) f v bits = ((rd d (f + 1) w (bits.drop m)).1, (rd d (f + 1) w (bits.drop m)).2.1, m + (rd d (f + 1) w (bits.drop m)).2.2) := by
  conv => lhs; unfold rd
  rw [h]
structure RdOk (d f : Nat) (v : View) (bits : List Nat) (x : Nat × View × Nat) : Prop where
  ge : f ≤ x.1
  le : x.1 ≤ f + d
  asc : Asc 0 (2 ^ x.1) x.2.1
  tot : tot x.2.1 = tot v
  pos : 0 < W (2 ^ (f + d - x.1)) x.2.1
  cds : ∀ s k, cd (2 ^ (x.1 - f) * s) x.2.1 k = cd s v k
  used : x.2.2 ≤ bits.length
theorem next_ok {d : Nat} {v w : View} {bits : List Nat} {m : Nat} (hb : ∀ b ∈ bits, b < 2) (hw : 0 < W (2 ^ (d + 1)) v) (e : levelRead (2 ^ d) v bits = some (w, m)) :
    m ≤ bits.length ∧ ∃ as, Fits v as ∧ w = nxt v as ∧ 0 < W (2 ^ d) w := by
  obtain ⟨hm, e⟩ := levelRead_inv e
  have e2 : 2 * 2 ^ d = 2 ^ (d + 1) := by rw [Nat.mul_comm, ← Nat.pow_succ]
  have hw' : 0 < W (2 * 2 ^ d) v := by rw [e2]; exact hw
  have l := ptr_lt hw' hb hm
  obtain ⟨f, _, r⟩ := dec_spec (2 ^ d) v 1 (ptr (2 ^ d) v bits m) (by omega)
  refine ⟨hm, _, f, e, ?_⟩
  rw [e, W_nxt _ _ _ f]
  omega
theorem rd_ok : ∀ (d f : Nat) (v : View) (bits : List Nat), Asc 0 (2 ^ f) v → 0 < W (2 ^ d) v → (∀ b ∈ bits, b < 2) → RdOk d f v bits (rd d f v bits)
  | 0, f, v, bits, ha, hw, _ => ⟨Nat.le_refl _, Nat.le_refl _, ha, rfl, by show 0 < W (2 ^ (f + 0 - f)) v; rw [show f + 0 - f = 0 by omega]; exact hw, fun s k => by
      show cd (2 ^ (f - f) * s) v k = _
      rw [Nat.sub_self]; simp, Nat.zero_le _⟩
  | d + 1, f, v, bits, ha, hw, hb => by
    cases e : levelRead (2 ^ d) v bits with
    | none =>
      rw [rd_none e]
      exact ⟨Nat.le_refl _, Nat.le_add_right _ _, ha, rfl, by show 0 < W (2 ^ (f + (d + 1) - f)) v; rw [show f + (d + 1) - f = d + 1 by omega]; exact hw, fun s k => by
        show cd (2 ^ (f - f) * s) v k = _
        rw [Nat.sub_self]; simp, Nat.zero_le _⟩
    | some x =>
      obtain ⟨w, m⟩ := x
      obtain ⟨hm, as, ft, ew, hw'⟩ := next_ok hb hw e
      have aw : Asc 0 (2 ^ (f + 1)) w := by
        rw [ew, Nat.pow_succ, Nat.mul_comm]
        exact ha.nxt
      have ih := rd_ok d (f + 1) w (bits.drop m) aw hw' fun b hx => hb b (List.mem_of_mem_drop hx)
      rw [rd_some e]
      refine ⟨by have := ih.ge; dsimp only; omega, by have := ih.le; dsimp only; omega, ih.asc, ?_, ?_, fun s k => ?_, ?_⟩
      · rw [ih.tot, ew, tot_nxt _ _ ft]
      · have := ih.pos
        rw [show f + 1 + d = f + (d + 1) by omega] at this
        exact this
      · have z := ih.cds (2 * s) k
        have g := ih.ge
        rw [← Nat.mul_assoc, ← Nat.pow_succ, show ((rd d (f + 1) w (bits.drop m)).1 - (f + 1)).succ = (rd d (f + 1) w (bits.drop m)).1 - f by omega] at z
        show cd (2 ^ ((rd d (f + 1) w (bits.drop m)).1 - f) * s) _ k = _
        rw [z, ew, cd_nxt _ _ _ _ ft]
      · have u := ih.used
        rw [List.length_drop] at u
        dsimp only
        omega
section
variable {D : Nat} {r : List Nat}
theorem level_next (hr : Row (2 ^ D) r) {f : Nat} (hf : f < D) {rest : List Nat} (hb : ∀ b ∈ rest, b < 2) : levelRead (2 ^ (D - f - 1)) (vw D r f) (codeAt D r f ++ rest) = some (vw D r (f + 1), (codeAt D r f).length) := by
  have := read_code (h := half D f) (rest := rest) (vw_fits hr hf) (vw_pos hr hf) hb
  rw [vw_next hr hf] at this
  unfold codeAt
  rw [code_len]
  exact this
/-- what is read behind a beginning -/
theorem rd_beg (hr : Row (2 ^ D) r) {rest : List Nat} (hb : ∀ b ∈ rest, b < 2) : ∀ (f : Nat), f ≤ D →
    rd D 0 (v0 r.length) (beg D r f ++ rest) = ((rd (D - f) f (vw D r f) rest).1, (rd (D - f) f (vw D r f) rest).2.1, (beg D r f).length + (rd (D - f) f (vw D r f) rest).2.2)
  | 0, _ => by
    rw [vw_zero hr]
    show rd D 0 (v0 r.length) rest = ((rd (D - 0) 0 (v0 r.length) rest).1, _, 0 + _)
    rw [Nat.zero_add]
    rfl
  | f + 1, hf => by
    have ih := rd_beg hr (rest := codeAt D r f ++ rest) (fun b hx => (List.mem_append.mp hx).elim (code_bit _ _ _ b) (hb b)) f (Nat.le_of_lt hf)
    show rd D 0 (v0 r.length) (beg D r f ++ codeAt D r f ++ rest) = _
    rw [List.append_assoc, ih]
    have n := level_next hr hf hb
    have q := rd_some (d := D - f - 1) (f := f) n
    rw [show D - f - 1 + 1 = D - f by omega] at q
    rw [q, List.drop_left]
    show (_, _, (beg D r f).length + ((codeAt D r f).length + _)) = (_, _, (beg D r f ++ codeAt D r f).length + _)
    rw [List.length_append, Nat.add_assoc, show D - (f + 1) = D - f - 1 by omega]
/-- without bits: levels that tell nothing -/
theorem rd_empty (hr : Row (2 ^ D) r) : ∀ (d f : Nat), f + d = D → ∃ g, f ≤ g ∧ g ≤ D ∧ rd d f (vw D r f) [] = (g, vw D r g, 0)
  | 0, f, h => ⟨f, Nat.le_refl _, by omega, rfl⟩
  | d + 1, f, h => by
    have hf : f < D := by omega
    cases e : levelRead (2 ^ d) (vw D r f) [] with
    | none => exact ⟨f, Nat.le_refl _, by omega, rd_none e⟩
    | some x =>
      obtain ⟨w, m⟩ := x
      have hd : d = D - f - 1 := by omega
      have q := read_nil (h := half D f) (vw_fits hr hf) (vw_pos hr hf) (by rw [show half D f = 2 ^ d by rw [hd]]; exact e)
      rw [vw_next hr hf] at q
      obtain ⟨q1, q2⟩ := q
      subst q1 q2
      obtain ⟨g, g1, g2, g3⟩ := rd_empty hr d (f + 1) (by omega)
      refine ⟨g, by omega, g2, ?_⟩
      rw [rd_some e, List.drop_nil, g3, Nat.zero_add]
theorem read_beg (hr : Row (2 ^ D) r) {f : Nat} (hf : f ≤ D) : ∃ g, f ≤ g ∧ g ≤ D ∧ rd D 0 (v0 r.length) (beg D r f) = (g, vw D r g, (beg D r f).length) := by
  obtain ⟨g, g1, g2, g3⟩ := rd_empty hr (D - f) f (by omega)
  refine ⟨g, g1, g2, ?_⟩
  have := rd_beg hr (rest := []) (fun b h => by cases h) f hf
  rw [List.append_nil, g3] at this
  exact this
theorem read_all (hr : Row (2 ^ D) r) {rest : List Nat} (hb : ∀ b ∈ rest, b < 2) : rd D 0 (v0 r.length) (beg D r D ++ rest) = (D, vw D r D, (beg D r D).length) := by
  have := rd_beg hr hb D (Nat.le_refl _)
  rw [Nat.sub_self] at this
  exact this
theorem read_behind (hr : Row (2 ^ D) r) {f : Nat} (hf : f ≤ D) {rest : List Nat} (hb : ∀ b ∈ rest, b < 2) :
    ∃ g w u, rd D 0 (v0 r.length) (beg D r f ++ rest) = (g, w, u) ∧ f ≤ g ∧ g ≤ D ∧ (beg D r f).length ≤ u ∧ u ≤ (beg D r f ++ rest).length ∧ Asc 0 (2 ^ g) w ∧ tot w = r.length ∧ coarse (2 ^ (g - f)) w = vw D r f := by
  have e := rd_beg hr hb f hf
  have ok := rd_ok (D - f) f (vw D r f) rest (vw_asc hr hf) (vw_W hr hf) hb
  refine ⟨_, _, _, e, ok.ge, by have := ok.le; omega, by omega, by rw [List.length_append]; have := ok.used; omega, ok.asc, by rw [ok.tot, tot_vw], ?_⟩
  have asc : Asc 0 (2 ^ f * 2 ^ ((rd (D - f) f (vw D r f) rest).1 - f)) (rd (D - f) f (vw D r f) rest).2.1 := by
    have := ok.asc
    have g := ok.ge
    rw [← Nat.pow_add, show f + ((rd (D - f) f (vw D r f) rest).1 - f) = (rd (D - f) f (vw D r f) rest).1 by omega]
    exact this
  refine Asc.ext (lo := 0) (N := 2 ^ f) (coarse_asc (Nat.two_pow_pos _) asc) (vw_asc hr hf) fun k => ?_
  rw [coarse_cf (Nat.two_pow_pos _) asc]
  have := ok.cds 1 k
  rw [Nat.mul_one, cd_one] at this
  exact this
/-- one bit less: the last level that has bits isn't told -/
theorem read_less (hr : Row (2 ^ D) r) : ∀ (f : Nat), f ≤ D → beg D r f ≠ [] → ∃ g u, rd D 0 (v0 r.length) (beg D r f).dropLast = (g, vw D r g, u) ∧ g < f ∧ u ≤ (beg D r f).length
  | 0, _, h => (h rfl).elim
  | f + 1, hf, h => by
    by_cases c : codeAt D r f = []
    · have e : beg D r (f + 1) = beg D r f := by
        show beg D r f ++ codeAt D r f = _
        rw [c, List.append_nil]
      rw [e] at h ⊢
      obtain ⟨g, u, a, b, d⟩ := read_less hr f (Nat.le_of_lt hf) h
      exact ⟨g, u, a, by omega, d⟩
    · have e : (beg D r (f + 1)).dropLast = beg D r f ++ (codeAt D r f).dropLast := by
        show (beg D r f ++ codeAt D r f).dropLast = _
        rw [List.dropLast_append_of_ne_nil c]
      have hb : ∀ b ∈ (codeAt D r f).dropLast, b < 2 := fun b hx => code_bit _ _ _ b ((List.dropLast_sublist _).subset hx)
      have hl : (codeAt D r f).length = lenOf (half D f) (vw D r f) (asAt D r f) := code_len _ _ _
      have hp : 0 < (codeAt D r f).length := List.length_pos_iff.mpr c
      have n := read_short (h := half D f) (bits := (codeAt D r f).dropLast) (vw_fits hr hf) (vw_pos hr hf) (by rw [List.length_dropLast, ← hl]; omega) (by
        show (codeAt D r f).dropLast = (codeAt D r f).take _
        rw [List.length_dropLast, List.dropLast_eq_take])
      have q := rd_none (d := D - f - 1) (f := f) n
      rw [show D - f - 1 + 1 = D - f by omega] at q
      have z := rd_beg hr hb f (Nat.le_of_lt hf)
      rw [q] at z
      rw [e]
      refine ⟨f, (beg D r f).length + 0, z, by omega, ?_⟩
      show _ ≤ (beg D r f ++ codeAt D r f).length
      rw [List.length_append]
      omega
end
end FC

set_option linter.all false
namespace FC
/-! ### numbers from digits -/
def asm (g : Nat → Nat) : Nat → Nat
  | 0 => 0
  | m + 1 => asm g m * 2 + g m
theorem asm_congr {g g' : Nat → Nat} : ∀ m, (∀ t, t < m → g t = g' t) → asm g m = asm g' m
  | 0, _ => rfl
  | m + 1, h => by
    show asm g m * 2 + g m = asm g' m * 2 + g' m
    rw [asm_congr m fun t ht => h t (by omega), h m (by omega)]
theorem asm_lt {g : Nat → Nat} : ∀ m, (∀ t, t < m → g t < 2) → asm g m < 2 ^ m
  | 0, _ => by show 0 < 1; omega
  | m + 1, h => by
    have a := asm_lt m fun t ht => h t (by omega)
    have b := h m (by omega)
    show asm g m * 2 + g m < 2 ^ (m + 1)
    rw [Nat.pow_succ]
    omega
theorem asm_bits {m n : Nat} (hn : n < 2 ^ m) : ∀ j, j ≤ m → asm (fun t => n / 2 ^ (m - 1 - t) % 2) j = n / 2 ^ (m - j)
  | 0, _ => by
    show 0 = n / 2 ^ m
    rw [Nat.div_eq_of_lt hn]
  | j + 1, h => by
    show asm (fun t => n / 2 ^ (m - 1 - t) % 2) j * 2 + n / 2 ^ (m - 1 - j) % 2 = _
    rw [asm_bits hn j (by omega), show m - j = (m - 1 - j) + 1 by omega, show m - (j + 1) = m - 1 - j by omega, Nat.pow_succ, ← Nat.div_div_eq_div_mul]
    omega
theorem asm_pre {g : Nat → Nat} : ∀ (m j : Nat), j ≤ m → (∀ t, t < m → g t < 2) → asm g m / 2 ^ (m - j) = asm g j
  | 0, j, h, _ => by
    have : j = 0 := by omega
    subst this
    show 0 / 2 ^ 0 = 0
    simp
  | m + 1, j, h, hg => by
    by_cases e : j = m + 1
    · subst e
      rw [Nat.sub_self]
      simp
    · have ih := asm_pre m j (by omega) fun t ht => hg t (by omega)
      have b := hg m (by omega)
      rw [show m + 1 - j = (m - j) + 1 by omega, Nat.pow_succ, Nat.mul_comm (2 ^ (m - j)) 2, ← Nat.div_div_eq_div_mul]
      show (asm g m * 2 + g m) / 2 / 2 ^ (m - j) = asm g j
      rw [show (asm g m * 2 + g m) / 2 = asm g m by omega, ih]
theorem asm_digit {g : Nat → Nat} {m t : Nat} (ht : t < m) (hg : ∀ t, t < m → g t < 2) : asm g m / 2 ^ (m - 1 - t) % 2 = g t := by
  have a := asm_pre m (t + 1) (by omega) hg
  rw [show m - (t + 1) = m - 1 - t by omega] at a
  rw [a]
  show (asm g t * 2 + g t) % 2 = g t
  have := hg t ht
  omega
/-! ### points and numbers -/
/-- the digits of a point's number -/
def dig (B dm : Nat) (p : List Nat) (t : Nat) : Nat := p.getD (t % dm) 0 / 2 ^ (B - 1 - t / dm) % 2
def wv (B dm : Nat) (p : List Nat) : Nat := asm (dig B dm p) (dm * B)
/-- the digits of a coordinate -/
def cdig (B dm n j q : Nat) : Nat := n / 2 ^ (dm * B - 1 - (q * dm + j)) % 2
def pt (B dm n : Nat) : List Nat := (List.range dm).map fun j => asm (cdig B dm n j) B
/-- a point -/
def Pt (B dm : Nat) (p : List Nat) : Prop := p.length = dm ∧ ∀ x ∈ p, x < 2 ^ B
theorem pt_pt (B dm n : Nat) : Pt B dm (pt B dm n) := by
  refine ⟨by unfold pt; rw [List.length_map, List.length_range], fun x hx => ?_⟩
  obtain ⟨j, _, e⟩ := List.mem_map.mp hx
  rw [← e]
  exact asm_lt B fun t _ => Nat.mod_lt _ (by omega)
theorem dig_lt (B dm : Nat) (p : List Nat) (t : Nat) : dig B dm p t < 2 := Nat.mod_lt _ (by omega)
theorem wv_lt (B dm : Nat) (p : List Nat) : wv B dm p < 2 ^ (dm * B) := asm_lt _ fun t _ => dig_lt B dm p t
theorem div_lt_of {t dm B : Nat} (hd : 0 < dm) (h : t < dm * B) : t / dm < B := by
  rw [Nat.div_lt_iff_lt_mul hd, Nat.mul_comm]
  exact h
theorem wv_pt {B dm n : Nat} (hd : 0 < dm) (hn : n < 2 ^ (dm * B)) : wv B dm (pt B dm n) = n := by
  have a := asm_bits hn (dm * B) (Nat.le_refl _)
  rw [Nat.sub_self] at a
  simp only [Nat.pow_zero, Nat.div_one] at a
  refine Eq.trans (asm_congr _ fun t ht => ?_) a
  have hj : t % dm < dm := Nat.mod_lt _ hd
  have hq := div_lt_of hd ht
  show (pt B dm n).getD (t % dm) 0 / 2 ^ (B - 1 - t / dm) % 2 = _
  have e : (pt B dm n).getD (t % dm) 0 = asm (cdig B dm n (t % dm)) B := by
    unfold pt
    rw [List.getD_eq_getElem?_getD, List.getElem?_map, List.getElem?_range hj]
    rfl
  rw [e, asm_digit (g := cdig B dm n (t % dm)) hq fun t _ => Nat.mod_lt _ (by omega)]
  show n / 2 ^ (dm * B - 1 - (t / dm * dm + t % dm)) % 2 = _
  rw [Nat.mul_comm (t / dm) dm, Nat.div_add_mod]
theorem wv_inj {B dm : Nat} {p q : List Nat} (hd : 0 < dm) (hp : Pt B dm p) (hq : Pt B dm q) (e : wv B dm p = wv B dm q) : p = q := by
  have d : ∀ t, t < dm * B → dig B dm p t = dig B dm q t := fun t ht => by
    have a := asm_digit (g := dig B dm p) ht fun t _ => dig_lt B dm p t
    have b := asm_digit (g := dig B dm q) ht fun t _ => dig_lt B dm q t
    rw [← a, ← b]
    unfold wv at e
    rw [e]
  refine List.ext_getElem (by rw [hp.1, hq.1]) fun j h1 h2 => ?_
  have hj : j < dm := by rw [← hp.1]; exact h1
  have co : ∀ {x : List Nat}, Pt B dm x → (h : j < x.length) → x[j] = asm (fun s => x[j] / 2 ^ (B - 1 - s) % 2) B := fun {x} hx h => by
    have a := asm_bits (hx.2 x[j] (List.getElem_mem h)) B (Nat.le_refl _)
    rw [Nat.sub_self] at a
    simp only [Nat.pow_zero, Nat.div_one] at a
    exact a.symm
  rw [co hp h1, co hq h2]
  refine asm_congr B fun s hs => ?_
  have ht : s * dm + j < dm * B := by
    have : (s + 1) * dm ≤ B * dm := Nat.mul_le_mul_right _ hs
    rw [Nat.add_mul] at this
    rw [Nat.mul_comm dm B]
    omega
  have z := d (s * dm + j) ht
  unfold dig at z
  have e1 : (s * dm + j) % dm = j := by rw [Nat.add_comm, Nat.add_mul_mod_self_right, Nat.mod_eq_of_lt hj]
  have e2 : (s * dm + j) / dm = s := by rw [Nat.add_comm, Nat.add_mul_div_right _ _ hd, Nat.div_eq_of_lt hj, Nat.zero_add]
  rw [e1, e2, List.getD_eq_getElem?_getD, List.getD_eq_getElem?_getD, List.getElem?_eq_getElem h1, List.getElem?_eq_getElem h2] at z
  exact z
/-- one more digit of a point's number -/
theorem wv_step {B dm q j : Nat} {p : List Nat} (hj : j < dm) : asm (dig B dm p) (q * dm + j + 1) = asm (dig B dm p) (q * dm + j) * 2 + p.getD j 0 / 2 ^ (B - 1 - q) % 2 := by
  show asm (dig B dm p) (q * dm + j) * 2 + dig B dm p (q * dm + j) = _
  unfold dig
  have hd : 0 < dm := by omega
  have e1 : (q * dm + j) % dm = j := by rw [Nat.add_comm, Nat.add_mul_mod_self_right, Nat.mod_eq_of_lt hj]
  have e2 : (q * dm + j) / dm = q := by rw [Nat.add_comm, Nat.add_mul_div_right _ _ hd, Nat.div_eq_of_lt hj, Nat.zero_add]
  rw [e1, e2]
/-- the coordinates behind t turns -/
def ptGo (B dm n t : Nat) : List Nat := (List.range dm).map fun j => asm (cdig B dm n j) ((t + dm - 1 - j) / dm)
theorem ptGo_zero (B dm n : Nat) : ptGo B dm n 0 = List.replicate dm 0 := by
  unfold ptGo
  rw [List.eq_replicate_iff]
  refine ⟨by rw [List.length_map, List.length_range], fun x hx => ?_⟩
  obtain ⟨j, hj, e⟩ := List.mem_map.mp hx
  have hj := List.mem_range.mp hj
  rw [← e, Nat.div_eq_of_lt (by omega)]
  rfl
theorem ptGo_len (B dm n t : Nat) : (ptGo B dm n t).length = dm := by
  unfold ptGo
  rw [List.length_map, List.length_range]
theorem ptGo_end {B dm : Nat} (hd : 0 < dm) (n : Nat) : ptGo B dm n (dm * B) = pt B dm n := by
  unfold ptGo pt
  refine List.map_congr_left fun j hj => ?_
  have hj := List.mem_range.mp hj
  rw [show dm * B + dm - 1 - j = (dm - 1 - j) + B * dm by rw [Nat.mul_comm]; omega, Nat.add_mul_div_right _ _ hd, Nat.div_eq_of_lt (by omega), Nat.zero_add]
theorem ptGo_at {B dm n t : Nat} (hd : 0 < dm) : (ptGo B dm n t)[t % dm]? = some (asm (cdig B dm n (t % dm)) (t / dm)) := by
  have hj : t % dm < dm := Nat.mod_lt _ hd
  unfold ptGo
  rw [List.getElem?_map, List.getElem?_range hj]
  have q := Nat.div_add_mod t dm
  have e : (t + dm - 1 - t % dm) / dm = t / dm := by
    rw [show t + dm - 1 - t % dm = (dm - 1) + (t / dm) * dm by rw [Nat.mul_comm]; omega, Nat.add_mul_div_right _ _ hd, Nat.div_eq_of_lt (by omega), Nat.zero_add]
  show some (asm (cdig B dm n (t % dm)) ((t + dm - 1 - t % dm) / dm)) = _
  rw [e]
theorem ptGo_step {B dm n t : Nat} (hd : 0 < dm) : ptGo B dm n (t + 1) = (ptGo B dm n t).set (t % dm) (asm (cdig B dm n (t % dm)) (t / dm) * 2 + n / 2 ^ (dm * B - 1 - t) % 2) := by
  have hj : t % dm < dm := Nat.mod_lt _ hd
  have q := Nat.div_add_mod t dm
  refine List.ext_getElem (by rw [List.length_set, ptGo_len, ptGo_len]) fun j h1 h2 => ?_
  have hjd : j < dm := by rw [ptGo_len] at h1; exact h1
  have g : ∀ s, (h : j < (ptGo B dm n s).length) → (ptGo B dm n s)[j] = asm (cdig B dm n j) ((s + dm - 1 - j) / dm) := fun s h => by
    have z : (ptGo B dm n s)[j]? = some (asm (cdig B dm n j) ((s + dm - 1 - j) / dm)) := by
      unfold ptGo
      rw [List.getElem?_map, List.getElem?_range hjd]
      rfl
    rw [List.getElem?_eq_getElem h] at z
    exact Option.some.inj z
  rw [List.getElem_set, g (t + 1) h1, g t (by rw [ptGo_len]; exact hjd)]
  clear h1 h2 g
  generalize t / dm = Q at *
  generalize t % dm = a at *
  by_cases e : a = j
  · rw [if_pos e]
    subst e
    rw [show t + 1 + dm - 1 - a = 0 + (Q + 1) * dm by rw [Nat.add_mul, Nat.mul_comm Q dm]; omega, Nat.add_mul_div_right _ _ hd, Nat.zero_div, Nat.zero_add]
    show asm (cdig B dm n a) Q * 2 + n / 2 ^ (dm * B - 1 - (Q * dm + a)) % 2 = _
    rw [Nat.mul_comm Q dm, q]
  · rw [if_neg e]
    congr 1
    by_cases l : j < a
    · rw [show t + 1 + dm - 1 - j = (a - j) + (Q + 1) * dm by rw [Nat.add_mul, Nat.mul_comm Q dm]; omega, show t + dm - 1 - j = (a - 1 - j) + (Q + 1) * dm by rw [Nat.add_mul, Nat.mul_comm Q dm]; omega,
        Nat.add_mul_div_right _ _ hd, Nat.add_mul_div_right _ _ hd, Nat.div_eq_of_lt (by omega), Nat.div_eq_of_lt (by omega)]
    · rw [show t + 1 + dm - 1 - j = (a + dm - j) + Q * dm by rw [Nat.mul_comm Q dm]; omega, show t + dm - 1 - j = (a + dm - 1 - j) + Q * dm by rw [Nat.mul_comm Q dm]; omega,
        Nat.add_mul_div_right _ _ hd, Nat.add_mul_div_right _ _ hd, Nat.div_eq_of_lt (by omega), Nat.div_eq_of_lt (by omega)]
/-- the halving room -/
theorem room_half {m t : Nat} (h : t < m) : 2 ^ m / 2 ^ (t + 1) = 2 ^ (m - 1 - t) := by
  rw [Nat.pow_div (by omega) (by omega), show m - (t + 1) = m - 1 - t by omega]
theorem room_next (m t : Nat) : 2 ^ m / 2 ^ (t + 1) / 2 = 2 ^ m / 2 ^ (t + 1 + 1) := by
  rw [Nat.div_div_eq_div_mul, ← Nat.pow_succ]
/-! ### rows -/
theorem perm_row {N : Nat} {a b : List Nat} (ha : Row N a) (hb : Row N b) (p : a.Perm b) : a = b := by
  have e : ∀ {x y : List Nat}, x.Perm y → ∀ k, cf (ones x) k = cf (ones y) k := fun {x y} p => by
    induction p with
    | nil => intro k; rfl
    | cons n _ ih =>
      intro k
      show (if n = k then 1 else 0) + cf (ones _) k = (if n = k then 1 else 0) + cf (ones _) k
      rw [ih k]
    | swap n m l =>
      intro k
      show (if m = k then 1 else 0) + ((if n = k then 1 else 0) + cf (ones l) k) = (if n = k then 1 else 0) + ((if m = k then 1 else 0) + cf (ones l) k)
      omega
    | trans _ _ ih1 ih2 => exact fun k => (ih1 k).trans (ih2 k)
  have z := Asc.ext ha.asc hb.asc (e p)
  rw [← ones_keys a, ← ones_keys b, z]
/-- unlike numbers, sorted, are a row -/
theorem row_of {N : Nat} {a b : List Nat} (hb : b.Nodup) (hl : ∀ n ∈ b, n < N) (p : a.Perm b) (s : a.Pairwise (· ≤ ·)) : Row N a := by
  refine ⟨?_, fun n hn => hl n (p.mem_iff.mp hn)⟩
  have nd : a.Nodup := p.symm.nodup hb
  have h2 := List.pairwise_and_iff.mpr ⟨s, nd⟩
  exact h2.imp fun {x y} h => Nat.lt_of_le_of_ne h.1 h.2
theorem Row.nodup {N : Nat} {a : List Nat} (h : Row N a) : a.Nodup := h.1.imp fun {x y} l => Nat.ne_of_lt l
theorem asc_row : ∀ {lo N : Nat} {v : View}, Asc lo N v → (v.map (·.1)).Pairwise (· < ·) ∧ ∀ n ∈ v.map (·.1), lo ≤ n ∧ n < N
  | _, _, [], _ => ⟨.nil, fun n h => by cases h⟩
  | lo, N, e :: v, ⟨h1, h2, h3, h4⟩ => by
    obtain ⟨a, b⟩ := asc_row h4
    refine ⟨List.pairwise_cons.mpr ⟨fun n hn => (b n hn).1, a⟩, fun n hn => ?_⟩
    rcases List.mem_cons.mp hn with r | r
    · rw [r]; exact ⟨h1, h2⟩
    · exact ⟨Nat.le_trans (Nat.le_succ_of_le h1) (b n r).1, (b n r).2⟩
theorem Asc.row {N : Nat} {v : View} (h : Asc 0 N v) : Row N (v.map (·.1)) := ⟨(asc_row h).1, fun n hn => ((asc_row h).2 n hn).2⟩
end FC

set_option Elab.async false
set_option linter.all false
set_option maxRecDepth 100000
set_option maxHeartbeats 4000000
namespace FH
open PySem PySem.Spec PyProof.Rows HotX
/-- nothing is handled, or an exception whose context is None -/
def Quiet (A : Around) (h : Heap) : Prop := A.handled = none ∨ ∃ x1, HotAt A x1 h
theorem hot_keep {A : Around} {x1 : Addr} {h h' : Heap} (hot : HotAt A x1 h) (k : ∀ o, h.get? x1 = some o → h'.get? x1 = some o) : HotAt A x1 h' := by
  obtain ⟨a, o, vs, b, c, d⟩ := hot
  exact ⟨a, o, vs, k o b, c, d⟩
theorem hot_ne {A : Around} {x1 it : Addr} {h : Heap} {o : Obj} {vs : Array Value} (hot : HotAt A x1 h) (ho : h.get? it = some o) (hd : o.data = .fields vs) (h2 : vs[2]? ≠ some .none) : x1 ≠ it := by
  intro e
  subst e
  obtain ⟨_, o1, vs1, b, c, d⟩ := hot
  rw [ho] at b
  cases b
  rw [hd] at c
  cases c
  exact h2 d
theorem Quiet.keeps {A : Around} {h h' : Heap} (q : Quiet A h) (k : ∀ b o, h.get? b = some o → h'.get? b = some o) : Quiet A h' := by
  rcases q with q | ⟨x1, q⟩
  · exact .inl q
  · exact .inr ⟨x1, hot_keep q fun o e => k _ o e⟩
section
variable {prog : Program} {w : World} {A : Around} {E : Value → Shared → Prop} {s : Shared}
/-- StopIteration is made and raised -/
theorem made_stop {α : Type} {Q : α → Shared → Prop} (q : Quiet A s.heap)
    (hE : ∀ h' e, (∀ b o, s.heap.get? b = some o → h'.get? b = some o) → (∃ o, h'.get? e = some o ∧ o.cls = .type "StopIteration") → E (.ref e) { s with heap := h' }) :
    wpAny (model prog w) A (newExc (.type "StopIteration") [] >>= fun e => (raiseNew e : Sem α)) Q E s := by
  refine wpAny_bind ?_
  simp only [newExc, newTuple]
  refine wpAny_bind (wpAny_newObj_type ?_ (by size_fits))
  refine wpAny_bind (m := firstArgMember _ _) (wpAny_of_eq (a := Value.none) (by first | rfl | (simp only [firstArgMember]; rfl)) ?_)
  refine wpAny_newObj_type ?_ (by size_fits)
  rcases q with q | ⟨x1, hh, o1, vs1, h1, d1, c1⟩
  · simp only [raiseNew]
    refine wpAny_bind (wpAny_handled ?_)
    rw [q]
    refine wpAny_bind (wpAny_pure (wpAny_throw ?_))
    exact hE _ _ (fun b o e => Heap.get?_push_of_some _ (Heap.get?_push_of_some _ e)) ⟨_, Heap.get?_push_size _ rfl, rfl⟩
  · refine raiseNew_hot ⟨hh, o1, vs1, Heap.get?_push_of_some _ (Heap.get?_push_of_some _ h1), d1, c1⟩ (Nat.ne_of_lt (Heap.lt_size (Heap.get?_push_of_some _ h1))) (Heap.get?_push_size _ rfl) rfl (by first | (simp; done) | (simp; omega) | (simp only [Array.size_append]; simp; omega)) ?_
    refine hE _ _ (fun b o e => ?_) ⟨_, Heap.get?_update_self _ (Heap.get?_push_size _ rfl) rfl, rfl⟩
    rw [Heap.get?_update_other _ _ (Nat.ne_of_gt (Heap.lt_size (Heap.get?_push_of_some _ e)))]
    exact Heap.get?_push_of_some _ (Heap.get?_push_of_some _ e)
theorem list_end {it l : Addr} {i : Nat} {items : Array Value} {Q : Option Value → Shared → Prop} (q : Quiet A s.heap) (hit : s.heap.IsListIter it l i) (hl : s.heap.IsList l items) (hx : items[i]? = none)
    (hQ : ∀ h', Heap.ExtBut it s.heap h' → Q none { s with heap := h' }) : wpAny (model prog w) A (pyNext (.ref it)) Q E s := by
  rcases q with q | ⟨x1, hot⟩
  · exact wpAny_pyNext_list_end q hit hl hx hQ
  obtain ⟨o, ho, hc, hd⟩ := id hit
  obtain ⟨ol, hol, _, nl, hdl⟩ := hl
  have hne : x1 ≠ it := hot_ne hot ho hd (by simp)
  unfold pyNext
  refine wpAny_bind (wpAny_attempt (wpAny_callSpecial?_slot (name := Str.ofString "__next__") hit.typeIs slot_listiter_next
    (wpAny_call_entry slot_listiter_next hit.typeIs entry_listiter_next ?_ (args_listiter_next _))))
  show wpAny _ _ (field (.ref it) 0 >>= _) _ _ s
  refine wpAny_bind (wpAny_field ho hd (x := .ref l) rfl ?_)
  show wpAny _ _ (if (Value.ref l == Value.none) = true then _ else _) _ _ s
  rw [if_neg (show ¬ ((Value.ref l == Value.none) = true) from Bool.false_ne_true)]
  show wpAny _ _ (field (.ref it) 1 >>= _) _ _ s
  refine wpAny_bind (wpAny_field ho hd (x := .int i 0) rfl ?_)
  show wpAny _ _ (seqItems? (.ref l) >>= _) _ _ s
  refine wpAny_bind (wpAny_seqItems hol hdl ?_)
  simp only [Int.toNat_natCast, hx]
  refine wpAny_bind (wpAny_rule (wpAny_bind (wpAny_setField ho hd (by simp) ?_)))
  have up : ∀ b o', b ≠ it → s.heap.get? b = some o' → (s.heap.update it (Obj.mapFields (·.setIfInBounds 0 .none))).get? b = some o' := fun b o' hb e => by
    rw [Heap.get?_update_other _ _ (Ne.symm hb)]
    exact e
  refine made_stop (.inr ⟨x1, hot_keep hot fun o' e => up x1 o' hne e⟩) fun h' e k te => ?_
  refine wpAny_bind (wpAny_isInstance (T := "StopIteration") (b := true) te isSubtype_stop ?_)
  exact wpAny_pure (hQ _ fun b o' hb e' => k b o' (up b o' hb e'))
theorem tuple_end {it t : Addr} {i : Nat} {items : Array Value} {Q : Option Value → Shared → Prop} (q : Quiet A s.heap) (hit : s.heap.IsTupleIter it t i) (ht : s.heap.IsTuple t items) (hx : items[i]? = none)
    (hQ : ∀ h', Heap.ExtBut it s.heap h' → Q none { s with heap := h' }) : wpAny (model prog w) A (pyNext (.ref it)) Q E s := by
  rcases q with q | ⟨x1, hot⟩
  · exact wpAny_pyNext_tuple_end q hit ht hx hQ
  obtain ⟨o, ho, hc, hd⟩ := id hit
  obtain ⟨ol, hol, _, nl, hdl⟩ := ht
  have hne : x1 ≠ it := hot_ne hot ho hd (by simp)
  unfold pyNext
  refine wpAny_bind (wpAny_attempt (wpAny_callSpecial?_slot (name := Str.ofString "__next__") hit.typeIs F.slot_tuple_iterator_next
    (wpAny_call_entry F.slot_tuple_iterator_next hit.typeIs F.entry_tuple_iterator_next ?_ (F.args_tuple_iterator_next_1 _))))
  show wpAny _ _ (field (.ref it) 0 >>= _) _ _ s
  refine wpAny_bind (wpAny_field ho hd (x := .ref t) rfl ?_)
  show wpAny _ _ (if (Value.ref t == Value.none) = true then _ else _) _ _ s
  rw [if_neg (show ¬ ((Value.ref t == Value.none) = true) from Bool.false_ne_true)]
  show wpAny _ _ (field (.ref it) 1 >>= _) _ _ s
  refine wpAny_bind (wpAny_field ho hd (x := .int i 0) rfl ?_)
  show wpAny _ _ (seqItems? (.ref t) >>= _) _ _ s
  refine wpAny_bind (wpAny_seqItems hol hdl ?_)
  simp only [Int.toNat_natCast, hx]
  refine wpAny_bind (wpAny_rule (wpAny_bind (wpAny_setField ho hd (by simp) ?_)))
  have up : ∀ b o', b ≠ it → s.heap.get? b = some o' → (s.heap.update it (Obj.mapFields (·.setIfInBounds 0 .none))).get? b = some o' := fun b o' hb e => by
    rw [Heap.get?_update_other _ _ (Ne.symm hb)]
    exact e
  refine made_stop (.inr ⟨x1, hot_keep hot fun o' e => up x1 o' hne e⟩) fun h' e k te => ?_
  refine wpAny_bind (wpAny_isInstance (T := "StopIteration") (b := true) te isSubtype_stop ?_)
  exact wpAny_pure (hQ _ fun b o' hb e' => k b o' (up b o' hb e'))
theorem range_end {it : Addr} {x left step : Int} {Q : Option Value → Shared → Prop} (q : Quiet A s.heap) (hit : IsRangeIter s.heap it x left step) (hleft : left ≤ 0)
    (hQ : ∀ h', (∀ b o, b ≠ it → s.heap.get? b = some o → h'.get? b = some o) → Q none { s with heap := h' }) : wpAny (model prog w) A (pyNext (.ref it)) Q E s := by
  rcases q with q | ⟨x1, hot⟩
  · exact wpAny_pyNext_range_end q hit hleft fun h' eb => hQ h' fun b o hb e => eb b o hb e
  · exact pyNext_range_end_hot hot hit hleft fun h' eb => hQ h' fun b o _ e => eb b o e
end
end FH

set_option Elab.async false
set_option linter.all false
set_option maxRecDepth 100000
set_option maxHeartbeats 4000000
namespace FH
open PySem PySem.Spec PyProof.Rows HotX L2
section
variable {prog : Program} {w : World} {A : Around} {E : Value → Shared → Prop} {s : Shared}
/-! ### iterators over lists and tuples, whatever is handled -/
theorem walks_list {h : Heap} {I ax : Addr} {items : Array Value} (q : Quiet A h) (hI : h.IsListIter I ax 0) (hl : h.IsList ax items) :
    ∃ fp St, Walks prog w A I fp [I] items.size (fun i v => items[i]? = some v) St ∧ St 0 h ∧ ∀ b ∈ fp, b < h.objs.size := by
  obtain ⟨oI, eI, cI, dI⟩ := id hI
  obtain ⟨oL, eL, cL, nL, dL⟩ := id hl
  have hne : ax ≠ I := fun e => by
    subst e
    rw [eI] at eL
    cases eL
    rw [cI] at cL
    exact absurd (Value.type.inj cL) (by decide)
  rcases q with q | ⟨x1, hot⟩
  · refine ⟨_, _, Walks.list q I ax hne items, ⟨hI, hl⟩, fun b hb => ?_⟩
    rcases List.mem_cons.mp hb with rfl | hb
    · exact Heap.lt_size eI
    · rw [List.mem_singleton.mp hb]
      exact Heap.lt_size eL
  · have hx : x1 ≠ I := hot_ne hot eI dI (by simp)
    obtain ⟨ox, ex⟩ : ∃ o, h.get? x1 = some o := by
      obtain ⟨_, o, _, e, _⟩ := hot
      exact ⟨o, e⟩
    refine ⟨[I, ax, x1], fun i h => h.IsListIter I ax i ∧ h.IsList ax items ∧ HotAt A x1 h, ?_, ⟨hI, hl, hot⟩, fun b hb => ?_⟩
    · refine ⟨fun b hb => by rw [List.mem_singleton.mp hb]; exact List.mem_cons_self, fun _ _ _ st hk => ⟨st.1.at fun o e => hk I (by simp) o e, st.2.1.at fun o e => hk ax (by simp) o e, hot_keep st.2.2 fun o e => hk x1 (by simp) o e⟩, ?_, ?_, fun _ _ _ _ st hQ => wpAny_pyIter_listiter st.1 hQ⟩
      · intro i s Q E hi st hQ
        refine wpAny_pyNext_list_item st.1 st.2.1 (x := items[i]) (by simp [hi]) fun h' hit' hs' => ?_
        exact hQ _ h' s.toks (by simp [hi]) ⟨hit', st.2.1.extBut hs'.extBut hne, hot_keep st.2.2 fun o e => hs'.extBut x1 o hx e⟩ fun b o hb e => hs'.extBut b o (fun h => hb (by simp [h])) e
      · intro s Q E st hQ
        exact list_end (.inr ⟨x1, st.2.2⟩) st.1 st.2.1 (by simp) fun h' he' => hQ h' s.toks fun b o hb e => he' b o (fun h => hb (by simp [h])) e
    · rcases List.mem_cons.mp hb with rfl | hb
      · exact Heap.lt_size eI
      · rcases List.mem_cons.mp hb with rfl | hb
        · exact Heap.lt_size eL
        · rw [List.mem_singleton.mp hb]
          exact Heap.lt_size ex
theorem walks_tuple {h : Heap} {I ax : Addr} {items : Array Value} (q : Quiet A h) (hI : h.IsTupleIter I ax 0) (hl : h.IsTuple ax items) :
    ∃ fp St, Walks prog w A I fp [I] items.size (fun i v => items[i]? = some v) St ∧ St 0 h ∧ ∀ b ∈ fp, b < h.objs.size := by
  obtain ⟨oI, eI, cI, dI⟩ := id hI
  obtain ⟨oL, eL, cL, nL, dL⟩ := id hl
  have hne : ax ≠ I := fun e => by
    subst e
    rw [eI] at eL
    cases eL
    rw [cI] at cL
    exact absurd (Value.type.inj cL) (by decide)
  rcases q with q | ⟨x1, hot⟩
  · refine ⟨_, _, Walks.tuple q I ax hne items, ⟨hI, hl⟩, fun b hb => ?_⟩
    rcases List.mem_cons.mp hb with rfl | hb
    · exact Heap.lt_size eI
    · rw [List.mem_singleton.mp hb]
      exact Heap.lt_size eL
  · have hx : x1 ≠ I := hot_ne hot eI dI (by simp)
    obtain ⟨ox, ex⟩ : ∃ o, h.get? x1 = some o := by
      obtain ⟨_, o, _, e, _⟩ := hot
      exact ⟨o, e⟩
    refine ⟨[I, ax, x1], fun i h => h.IsTupleIter I ax i ∧ h.IsTuple ax items ∧ HotAt A x1 h, ?_, ⟨hI, hl, hot⟩, fun b hb => ?_⟩
    · refine ⟨fun b hb => by rw [List.mem_singleton.mp hb]; exact List.mem_cons_self, fun _ _ _ st hk => ⟨st.1.at fun o e => hk I (by simp) o e, st.2.1.at fun o e => hk ax (by simp) o e, hot_keep st.2.2 fun o e => hk x1 (by simp) o e⟩, ?_, ?_, fun _ _ _ _ st hQ => wpAny_pyIter_tupleiter st.1 hQ⟩
      · intro i s Q E hi st hQ
        refine wpAny_pyNext_tuple_item st.1 st.2.1 (x := items[i]) (by simp [hi]) fun h' hit' hs' => ?_
        exact hQ _ h' s.toks (by simp [hi]) ⟨hit', st.2.1.at fun o e => hs'.extBut ax o hne e, hot_keep st.2.2 fun o e => hs'.extBut x1 o hx e⟩ fun b o hb e => hs'.extBut b o (fun h => hb (by simp [h])) e
      · intro s Q E st hQ
        exact tuple_end (.inr ⟨x1, st.2.2⟩) st.1 st.2.1 (by simp) fun h' he' => hQ h' s.toks fun b o hb e => he' b o (fun h => hb (by simp [h])) e
    · rcases List.mem_cons.mp hb with rfl | hb
      · exact Heap.lt_size eI
      · rcases List.mem_cons.mp hb with rfl | hb
        · exact Heap.lt_size eL
        · rw [List.mem_singleton.mp hb]
          exact Heap.lt_size ex
/-! ### a, b = t -/
theorem unpack_items {t : Addr} {items : Array Value} {Q : List Value → Shared → Prop} (q : Quiet A s.heap) (ht : IsTup s.heap t items)
    (hQ : ∀ h', Heap.ExtBut s.heap.objs.size s.heap h' → Q items.toList { s with heap := h' }) : wpAny (model prog w) A (unpackItems (.ref t) items.size none) Q E s := by
  rcases q with q | ⟨x1, hot⟩
  · exact unpackItems_tuple q ht hQ
  have hlt : t < s.heap.objs.size := by
    obtain ⟨o, ho, _⟩ := ht
    exact Heap.lt_size ho
  have hx : x1 < s.heap.objs.size := by
    obtain ⟨_, o, _, e, _⟩ := id hot
    exact Heap.lt_size e
  unfold unpackItems
  refine wpAny_bind ?_
  unfold notIterableAtAll
  refine wpAny_bind (wpAny_specialOf ht.typeIs slot_tuple_iter.lookup ?_)
  refine wpAny_pure ?_
  simp only [Bool.false_eq_true, if_false]
  refine wpAny_bind (wpAny_holding (iter_tuple ht ?_))
  refine wpAny_bind (wpAny_holding (draw_tuple (Nat.ne_of_lt hlt) items.size 0 _ _ ⟨_, Heap.get?_push_size _ rfl, rfl, rfl⟩ (ht.push _) (by omega) fun h₁ hit₁ hs₁ => ?_))
  have hall : List.take items.size (List.drop 0 items.toList) = items.toList := by
    rw [List.drop_zero]
    exact List.take_of_length_le (by simp)
  rw [hall, if_neg (by simp)]
  have ht₁ : IsTup h₁ t items := (ht.push _).extBut hs₁.extBut (Nat.ne_of_lt hlt)
  have hot₁ : HotAt A x1 h₁ := hot_keep hot fun o e => hs₁.extBut x1 o (Nat.ne_of_lt hx) (Heap.get?_push_of_some _ e)
  refine wpAny_bind (wpAny_holding (tuple_end (.inr ⟨x1, hot₁⟩) hit₁ ht₁ (by simp) fun h₂ he₂ => ?_))
  simp only [Option.isSome_none, Bool.false_eq_true, if_false]
  exact wpAny_pure (hQ h₂ fun b o hb e => he₂ b o hb (hs₁.extBut b o hb (Heap.get?_push_of_some _ e)))
theorem assign_tup {env : Env} {elts : List Expr} {x1} {pos : Pos} {t : Addr} {items : Array Value} {Q : Unit → Shared → Prop} (q : Quiet A s.heap) (ht : IsTup s.heap t items)
    (hn : (assignEach elts env).length = items.size) (hstar : (assignEach elts env).findIdx? (·.1) = none)
    (h : ∀ h', Heap.ExtBut s.heap.objs.size s.heap h' → wpAny (model prog w) A (assignInOrder ((assignEach elts env).map (·.2)) items.toList) Q E { s with heap := h' }) :
    wpAny (model prog w) A (assign (.Tuple elts x1 pos) env (.ref t)) Q E s := by
  rw [assign_Tuple]
  refine wpAny_bind (wpAny_standAt ?_)
  unfold unpack
  rw [hn, hstar]
  exact wpAny_bind (wpAny_holding (unpack_items q ht h))
/-! ### max, min of two, sum, all -/
theorem max_two {a b : Int} {t u : Tok} {Q : Value → Shared → Prop} (q : Quiet A s.heap)
    (h : ∀ h' tk, (∀ c o, s.heap.get? c = some o → h'.get? c = some o) → Q (if b > a then .int b u else .int a t) { s with heap := h', toks := tk }) :
    wpAny (model prog w) A (call (.builtin "max") [.int a t, .int b u]) Q E s := by
  have hT : (s.heap.push { cls := .type "tuple", data := .seq #[.int a t, .int b u] }).IsTuple s.heap.objs.size (intItems #[(a, t), (b, u)]) := ⟨_, Heap.get?_push_size _ rfl, rfl, 0, by simp [intItems]⟩
  refine call_max_two (wpAny_pyIter_tuple hT ?_)
  obtain ⟨fp, St, W, st, hfp⟩ := walks_tuple (prog := prog) (w := w) (A := A.in1) (I := (s.heap.push { cls := .type "tuple", data := .seq #[.int a t, .int b u] }).objs.size)
    (h := (s.heap.push { cls := .type "tuple", data := .seq #[.int a t, .int b u] }).push { cls := .type "tuple_iterator", data := .fields #[.ref s.heap.objs.size, .int 0 0] }) (ax := s.heap.objs.size) (items := intItems #[(a, t), (b, u)])
    (q.keeps fun b o e => Heap.get?_push_of_some _ (Heap.get?_push_of_some _ e)) ⟨_, Heap.get?_push_size _ rfl, rfl, rfl⟩ (hT.push _)
  refine ⟨_, fp, [_], _, _, St, _, rfl, W, st, hfp, by simp [intItems], CmpOf.ints_gt (numAt #[(a, t), (b, u)]) (fun _ _ => intItems_at), fun v h' tk hP hk => ?_⟩
  have hold : ∀ c o, s.heap.get? c = some o → h'.get? c = some o := fun c o e => by
    refine hk c o (fun hm => ?_) (Heap.get?_push_of_some _ (Heap.get?_push_of_some _ e))
    rw [List.mem_singleton.mp hm, Heap.get?_none_of_le (by rw [Heap.size_push]; exact Nat.le_succ _)] at e
    cases e
  have hz : (intItems #[(a, t), (b, u)]).size - 1 = 1 := by simp [intItems]
  rw [hz] at hP
  have hv : v = if b > a then Value.int b u else Value.int a t := by
    by_cases hba : b > a
    · have e : argBest (fun i j => decide (numAt #[(a, t), (b, u)] i > numAt #[(a, t), (b, u)] j)) 1 = 1 := by simp [argBest, numAt, hba]
      rw [e] at hP
      simpa [intItems, hba] using hP.symm
    · have e : argBest (fun i j => decide (numAt #[(a, t), (b, u)] i > numAt #[(a, t), (b, u)] j)) 1 = 0 := by simp [argBest, numAt, hba]
      rw [e] at hP
      simpa [intItems, hba] using hP.symm
  rw [hv]
  exact h h' tk hold
theorem min_two {a b : Int} {t u : Tok} {Q : Value → Shared → Prop} (q : Quiet A s.heap)
    (h : ∀ h' tk, (∀ c o, s.heap.get? c = some o → h'.get? c = some o) → Q (if b < a then .int b u else .int a t) { s with heap := h', toks := tk }) :
    wpAny (model prog w) A (call (.builtin "min") [.int a t, .int b u]) Q E s := by
  have hT : (s.heap.push { cls := .type "tuple", data := .seq #[.int a t, .int b u] }).IsTuple s.heap.objs.size (intItems #[(a, t), (b, u)]) := ⟨_, Heap.get?_push_size _ rfl, rfl, 0, by simp [intItems]⟩
  refine call_min_two (wpAny_pyIter_tuple hT ?_)
  obtain ⟨fp, St, W, st, hfp⟩ := walks_tuple (prog := prog) (w := w) (A := A.in1) (I := (s.heap.push { cls := .type "tuple", data := .seq #[.int a t, .int b u] }).objs.size)
    (h := (s.heap.push { cls := .type "tuple", data := .seq #[.int a t, .int b u] }).push { cls := .type "tuple_iterator", data := .fields #[.ref s.heap.objs.size, .int 0 0] }) (ax := s.heap.objs.size) (items := intItems #[(a, t), (b, u)])
    (q.keeps fun b o e => Heap.get?_push_of_some _ (Heap.get?_push_of_some _ e)) ⟨_, Heap.get?_push_size _ rfl, rfl, rfl⟩ (hT.push _)
  refine ⟨_, fp, [_], _, _, St, _, rfl, W, st, hfp, by simp [intItems], CmpOf.ints_lt (numAt #[(a, t), (b, u)]) (fun _ _ => intItems_at), fun v h' tk hP hk => ?_⟩
  have hold : ∀ c o, s.heap.get? c = some o → h'.get? c = some o := fun c o e => by
    refine hk c o (fun hm => ?_) (Heap.get?_push_of_some _ (Heap.get?_push_of_some _ e))
    rw [List.mem_singleton.mp hm, Heap.get?_none_of_le (by rw [Heap.size_push]; exact Nat.le_succ _)] at e
    cases e
  have hz : (intItems #[(a, t), (b, u)]).size - 1 = 1 := by simp [intItems]
  rw [hz] at hP
  have hv : v = if b < a then Value.int b u else Value.int a t := by
    by_cases hba : b < a
    · have e : argBest (fun i j => decide (numAt #[(a, t), (b, u)] i < numAt #[(a, t), (b, u)] j)) 1 = 1 := by simp [argBest, numAt, hba]
      rw [e] at hP
      simpa [intItems, hba] using hP.symm
    · have e : argBest (fun i j => decide (numAt #[(a, t), (b, u)] i < numAt #[(a, t), (b, u)] j)) 1 = 0 := by simp [argBest, numAt, hba]
      rw [e] at hP
      simpa [intItems, hba] using hP.symm
  rw [hv]
  exact h h' tk hold
theorem new_iter_kept {l : Addr} {h' : Heap} (hk : ∀ b o, b ∉ [s.heap.objs.size] → (s.heap.push { cls := .type "list_iterator", data := .fields #[.ref l, .int 0 0] }).get? b = some o → h'.get? b = some o) :
    ∀ b o, s.heap.get? b = some o → h'.get? b = some o := fun b o e => hk b o (fun hm => by
      rw [List.mem_singleton.mp hm, Heap.get?_none_of_le (Nat.le_refl _)] at e
      cases e) (Heap.get?_push_of_some _ e)
theorem sum_ints {l : Addr} {its : List Value} {ns : List Int} {Q : Value → Shared → Prop} (q : Quiet A s.heap) (hl : s.heap.IsList l its.toArray) (hi : IntsAre its ns)
    (h : ∀ h' tk t', (∀ b o, s.heap.get? b = some o → h'.get? b = some o) → Q (.int ns.sum t') { s with heap := h', toks := tk }) : wpAny (model prog w) A (call (.builtin "sum") [.ref l]) Q E s := by
  obtain ⟨xs, e⟩ := hi.allInts.items
  have hn : numsOf (intItems xs).toList = ns := by rw [← e]; exact hi.numsOf
  rw [nums_intItems] at hn
  rw [e] at hl
  refine call_sum_walkG (wpAny_pyIter_list hl ?_)
  obtain ⟨fp, St, W, st, hfp⟩ := walks_list (prog := prog) (w := w) (A := A.in1) (I := s.heap.objs.size) (h := s.heap.push { cls := .type "list_iterator", data := .fields #[.ref l, .int 0 0] }) (ax := l) (items := intItems xs)
    (q.keeps fun b o e => Heap.get?_push_of_some _ e) ⟨_, Heap.get?_push_size _ rfl, rfl, rfl⟩ (hl.push _)
  refine ⟨_, fp, [_], _, _, St, numAt xs, rfl, W, st, hfp, fun _ _ => intItems_at, fun h' tk t' hk => ?_⟩
  have z := h h' tk t' (new_iter_kept hk)
  have hsz : (intItems xs).size = xs.size := by simp [intItems]
  rw [hsz, preSum_eq, List.take_of_length_le (by simp), hn]
  exact z
theorem all_bools {l : Addr} {its : List Value} {bs : List Bool} {Q : Value → Shared → Prop} (q : Quiet A s.heap) (hl : s.heap.IsList l its.toArray) (hb : its = bs.map Value.bool)
    (h : ∀ h' tk, (∀ b o, s.heap.get? b = some o → h'.get? b = some o) → Q (.bool (bs.all id)) { s with heap := h', toks := tk }) : wpAny (model prog w) A (call (.builtin "all") [.ref l]) Q E s := by
  refine call_all_walk (wpAny_pyIter_list hl ?_)
  obtain ⟨fp, St, W, st, hfp⟩ := walks_list (prog := prog) (w := w) (A := A.in1) (I := s.heap.objs.size) (h := s.heap.push { cls := .type "list_iterator", data := .fields #[.ref l, .int 0 0] }) (ax := l) (items := its.toArray)
    (q.keeps fun b o e => Heap.get?_push_of_some _ e) ⟨_, Heap.get?_push_size _ rfl, rfl, rfl⟩ (hl.push _)
  refine ⟨_, fp, [_], _, _, St, _, rfl, W, st, truth_bools hb, fun h' tk hk => ?_⟩
  have z := h h' tk (new_iter_kept hk)
  rw [← L2.all_range] at z
  have e : its.toArray.size = bs.length := by rw [List.size_toArray, hb, List.length_map]
  rw [e]
  exact z
end
end FH

set_option Elab.async false
set_option linter.all false
set_option maxRecDepth 100000
set_option maxHeartbeats 4000000
/-! Loops, unpacking, calls where nothing is handled, or one exception whose context is None. -/
namespace FH
open PySem PySem.Spec PyProof.Rows HotX L2 L2H
abbrev St := L2.St
def Fine (X : Cx) : Prop := X.calm = true ∨ HotC X
section
variable {X : Cx} {pins : List (Addr × Obj)} {σ : St} {H : Hp} {s : Shared}
theorem Fine.quiet (f : Fine X) (I : Inv X pins σ H s) : Quiet X.A s.heap := f.elim (fun c => .inl (I.ok.hd c)) fun c => .inr (c.at I)
/-- an iterator's turns -/
structure Drw (P : Program) (w : World) (K : PySem.W.Frag) (tg : Expr) (J : It) (fp : List Addr) (it : Addr) (tn : Nat → Heap → Prop) : Prop where
  here : ∀ i h, tn i h → ∀ b ∈ fp, ∃ o, h.get? b = some o ∧ ∀ v, o.data ≠ .cell v
  stay : ∀ i h h', tn i h → (∀ b ∈ fp, ∀ o, h.get? b = some o → h'.get? b = some o) → tn i h'
  next : ∀ (X : Cx), X.prog = P → X.w = w → X.K = K → ∀ (i : Nat) (pins : List (Addr × Obj)) (s : Shared) (σ : St) (H : Hp) (E : Value → Shared → Prop), Inv X pins σ H s → (∀ b ∈ fp, FpOk X pins H b) → tn i s.heap → J.go i H →
    wpAny (model P w) X.A (pyNext (.ref it)) (fun r s1 => ∃ u, r = some u ∧
      wpAny (model P w) X.A (letOwnedTupleGo tg (.ref it) u) (fun _ s2 => ∃ x H', Inv X pins σ H' s2 ∧ RelV x u ∧ J.yld i H x H' ∧ tn (i + 1) s2.heap ∧ ∀ b ∈ fp, H' b = none) E s1) E s
  over : ∀ (X : Cx), X.prog = P → X.w = w → X.K = K → ∀ (i : Nat) (pins : List (Addr × Obj)) (s : Shared) (σ : St) (H : Hp) (E : Value → Shared → Prop), Quiet X.A s.heap → Inv X pins σ H s → (∀ b ∈ fp, FpOk X pins H b) → tn i s.heap → J.stop i H →
    wpAny (model P w) X.A (pyNext (.ref it)) (fun r s1 => r = none ∧ Inv X pins σ H s1) E s
  own : ∀ (A : Around) (i : Nat) (s : Shared) (Q : Value → Shared → Prop) (E : Value → Shared → Prop), tn i s.heap → Q (.ref it) s → wpAny (model P w) A (pyIter (.ref it)) Q E s
theorem drw_list {P : Program} {w : World} {K : PySem.W.Frag} {tg : Expr} (a it : Addr) : Drw P w K tg (Itl K a) [it] it (fun i h => h.IsListIter it a i) := by
  refine ⟨fun i h st b hb => ?_, fun i h h' st k => st.at fun o e => k it List.mem_cons_self o e, ?_, ?_, fun _ _ _ _ _ st h => wpAny_pyIter_listiter st h⟩
  · rw [List.mem_singleton.mp hb]
    obtain ⟨o, e, _, d⟩ := st
    exact ⟨o, e, fun v z => by rw [d] at z; cases z⟩
  · rintro X rfl rfl rfl i pins s σ H E I hf st ⟨xs, x, hq, hx⟩
    obtain ⟨its, rv, p, _⟩ := I.list hq
    obtain ⟨u, hu, ru⟩ := rv.get hx
    obtain ⟨f0, f1, _, f3, f4, f5⟩ := hf it List.mem_cons_self
    refine wpAny_pyNext_list_item st p.isList (x := u) (by simpa using hu) fun h' st' sb => ?_
    have J1 : Inv X pins σ H { s with heap := h' } := I.turned (t' := s.toks) (fun b o hb e => (sb.2 b hb).trans e) f0 f1 f3 f4 f5
    obtain ⟨o, e, c, d⟩ := id st'
    exact ⟨u, rfl, go_of (s := { s with heap := h' }) e c d (by decide) ⟨x, H, J1, ru, ⟨rfl, fun ys hy => by rw [I.list_inj hy hq]; exact hx⟩, st', fun b hb => (hf b hb).1⟩⟩
  · rintro X rfl rfl rfl i pins s σ H E q I hf st ⟨xs, hq, hx⟩
    obtain ⟨its, rv, p, _⟩ := I.list hq
    obtain ⟨f0, f1, _, f3, f4, f5⟩ := hf it List.mem_cons_self
    have hl := rv.length
    exact list_end q st p.isList (by simp; omega) fun h' eb => ⟨rfl, I.turned (t' := s.toks) (fun b o hb e => eb b o hb e) f0 f1 f3 f4 f5⟩
theorem drw_tup {P : Program} {w : World} {K : PySem.W.Frag} {tg : Expr} (a it : Addr) : Drw P w K tg (Itt K a) [it] it (fun i h => h.IsTupleIter it a i) := by
  refine ⟨fun i h st b hb => ?_, fun i h h' st k => st.at fun o e => k it List.mem_cons_self o e, ?_, ?_, fun _ _ _ _ _ st h => wpAny_pyIter_tupleiter st h⟩
  · rw [List.mem_singleton.mp hb]
    obtain ⟨o, e, _, d⟩ := st
    exact ⟨o, e, fun v z => by rw [d] at z; cases z⟩
  · rintro X rfl rfl rfl i pins s σ H E I hf st ⟨xs, x, hq, hx⟩
    obtain ⟨its, rv, p, _⟩ := I.tuple hq
    obtain ⟨u, hu, ru⟩ := rv.get hx
    obtain ⟨f0, f1, _, f3, f4, f5⟩ := hf it List.mem_cons_self
    refine wpAny_pyNext_tuple_item st (show s.heap.IsTuple a its.toArray from p) (x := u) (by simpa using hu) fun h' st' sb => ?_
    have J1 : Inv X pins σ H { s with heap := h' } := I.turned (t' := s.toks) (fun b o hb e => (sb.2 b hb).trans e) f0 f1 f3 f4 f5
    obtain ⟨o, e, c, d⟩ := id st'
    exact ⟨u, rfl, go_of (s := { s with heap := h' }) e c d (by decide) ⟨x, H, J1, ru, ⟨rfl, fun ys hy => by rw [I.tuple_inj hy hq]; exact hx⟩, st', fun b hb => (hf b hb).1⟩⟩
  · rintro X rfl rfl rfl i pins s σ H E q I hf st ⟨xs, hq, hx⟩
    obtain ⟨its, rv, p, _⟩ := I.tuple hq
    obtain ⟨f0, f1, _, f3, f4, f5⟩ := hf it List.mem_cons_self
    have hl := rv.length
    exact tuple_end q st (show s.heap.IsTuple a its.toArray from p) (by simp; omega) fun h' eb => ⟨rfl, I.turned (t' := s.toks) (fun b o hb e => eb b o hb e) f0 f1 f3 f4 f5⟩
theorem drw_range {P : Program} {w : World} {K : PySem.W.Frag} {tg : Expr} (it : Addr) (lo : Int) (n : Nat) : Drw P w K tg (Itr lo n) [it] it (fun i h => IsRangeIter h it (lo + (i : Nat) * 1) ((n : Int) - (i : Nat)) 1) := by
  refine ⟨fun i h st b hb => ?_, fun i h h' st k => k it List.mem_cons_self _ st, ?_, ?_, fun _ _ _ _ _ st h => wpAny_pyIter_rangeiter st h⟩
  · rw [List.mem_singleton.mp hb]
    exact ⟨_, st, fun v z => by
      have z' : Data.fields _ = Data.cell v := z
      cases z'⟩
  · rintro X rfl rfl rfl i pins s σ H E I hf st hg
    obtain ⟨f0, f1, _, f3, f4, f5⟩ := hf it List.mem_cons_self
    have hlt : i < n := hg
    refine wpAny_pyNext_range_item st (by omega) fun h' st' sb => ?_
    have st2 : IsRangeIter h' it (lo + ((i + 1 : Nat) : Int) * 1) ((n : Int) - ((i + 1 : Nat) : Int)) 1 := by
      rw [← show lo + ((i : Nat) : Int) * 1 + 1 = lo + ((i + 1 : Nat) : Int) * 1 by omega, ← show (n : Int) - ((i : Nat) : Int) - 1 = (n : Int) - ((i + 1 : Nat) : Int) by omega]
      exact st'
    have J1 : Inv X pins σ H { s with heap := h', toks := s.toks + 1 } := I.turned (fun b o hb e => (sb.2 b hb).trans e) f0 f1 f3 f4 f5
    refine ⟨_, rfl, go_of (s := { s with heap := h', toks := s.toks + 1 }) (n := "range_iterator") st2 rfl rfl (by decide) ⟨.int (lo + i), H, J1, ⟨s.toks, ?_⟩, ⟨rfl, rfl⟩, st2, fun b hb => (hf b hb).1⟩⟩
    rw [Int.mul_one]
  · rintro X rfl rfl rfl i pins s σ H E q I hf st hg
    obtain ⟨f0, f1, _, f3, f4, f5⟩ := hf it List.mem_cons_self
    have hge : n ≤ i := hg
    exact range_end q st (by omega) fun h' eb => ⟨rfl, I.turned (t' := s.toks) (fun b o hb e => eb b o hb e) f0 f1 f3 f4 f5⟩
/-- an iterator has come -/
def Came (X : Cx) (pins : List (Addr × Obj)) (σ : St) (tg : Expr) (R : It → Hp → Prop) (itv : Value) (s2 : Shared) : Prop :=
  ∃ (it : Addr) (fp : List Addr) (tn : Nat → Heap → Prop) (J : It) (H' : Hp), itv = .ref it ∧ Inv X pins σ H' s2 ∧ Drw X.prog X.w X.K tg J fp it tn ∧ tn 0 s2.heap ∧ (∀ b ∈ fp, FpOk X pins H' b) ∧ R J H'
structure QI (X : Cx) (tg iter : Expr) (wi : TI) : Prop where
  run : ∀ (pins : List (Addr × Obj)) (s : Shared) (σ : St) (H : Hp) (R : It → Hp → Prop), Inv X pins σ H s → wi σ H R →
    wpAny (model X.prog X.w) X.A (eval iter X.env) (fun v s1 => wpAny (model X.prog X.w) X.A (pyIter v) (Came X pins σ tg R) X.xe s1) X.xe s
theorem came_new {tg : Expr} {R : It → Hp → Prop} {J : It} {o : Obj} {t' : Nat} {tn : Nat → Heap → Prop} (I : Inv X pins σ H s) (T : Drw X.prog X.w X.K tg J [s.heap.objs.size] s.heap.objs.size tn) (st : tn 0 (s.heap.push o)) (q : R J H) :
    Came X pins σ tg R (.ref s.heap.objs.size) { s with heap := s.heap.push o, toks := t' } := by
  refine ⟨s.heap.objs.size, [s.heap.objs.size], tn, J, H, rfl, I.kept fun b o e => Heap.get?_push_of_some _ e, T, st, fun b hb => ?_, q⟩
  rw [List.mem_singleton.mp hb]
  exact I.fpOk (Nat.le_refl _) (I.hok.fresh (Nat.le_refl _))
variable {tg : Expr}
theorem qi_list {l : Expr} {tl : TE} (hl : PE X l tl) : QI X tg l (iList X.K tl) := by
  refine ⟨fun pins s σ H R I h => thn (hl.run pins s σ H _ I h) fun v s1 ⟨x, H1, I1, r1, a, e, ⟨xs, hq⟩, q⟩ => ?_⟩
  subst e
  cases r1
  obtain ⟨its, rv, p, _⟩ := I1.list hq
  exact wpAny_pyIter_list p.isList (came_new (t' := s1.toks) I1 (drw_list a _) ⟨_, Heap.get?_push_size _ rfl, rfl, rfl⟩ q)
theorem qi_tup {l : Expr} {tl : TE} (hl : PE X l tl) : QI X tg l (iTup X.K tl) := by
  refine ⟨fun pins s σ H R I h => thn (hl.run pins s σ H _ I h) fun v s1 ⟨x, H1, I1, r1, a, e, ⟨xs, hq⟩, q⟩ => ?_⟩
  subst e
  cases r1
  obtain ⟨its, rv, p, _⟩ := I1.tuple hq
  exact wpAny_pyIter_tuple (show s1.heap.IsTuple a its.toArray from p) (came_new (t' := s1.toks) I1 (drw_tup a _) ⟨_, Heap.get?_push_size _ rfl, rfl, rfl⟩ q)
theorem came_range {R : It → Hp → Prop} {E : Value → Shared → Prop} {lo hi : Int} {t u v : Tok} {tk : Nat} (I : Inv X pins σ H s) (h1 : -(2 ^ 62) ≤ lo) (h2 : lo < 2 ^ 62) (h3 : -(2 ^ 62) ≤ hi) (h4 : hi < 2 ^ 62) (q : R (Itr lo (hi - lo).toNat) H) :
    wpAny (model X.prog X.w) X.A (pyIter (.ref s.heap.objs.size)) (Came X pins σ tg R) E { s with heap := s.heap.push { cls := .type "range", data := .fields #[.int lo t, .int hi u, .int 1 v] }, toks := tk } := by
  refine wpAny_pyIter_range (IsRange.new ..) (small_one h1 h2 h3 h4) ?_
  have J1 : Inv X pins σ H { s with heap := s.heap.push { cls := .type "range", data := .fields #[.int lo t, .int hi u, .int 1 v] }, toks := tk } := I.kept fun b o e => Heap.get?_push_of_some _ e
  refine came_new (t' := tk) J1 (drw_range _ lo (hi - lo).toNat) ?_ q
  have e1 : lo + ((0 : Nat) : Int) * 1 = lo := by simp
  have e2 : (((hi - lo).toNat : Nat) : Int) - ((0 : Nat) : Int) = Builtin.Range.rangeSize lo hi 1 := by
    rw [rangeSize_one]
    split <;> omega
  show IsRangeIter _ _ (lo + ((0 : Nat) : Int) * 1) ((((hi - lo).toNat : Nat) : Int) - ((0 : Nat) : Int)) 1
  rw [e1, e2]
  exact Heap.get?_push_size _ rfl
theorem qi_range1 {a : Expr} {ta : TA} {p pos : Pos} (hg : Gl X "range") (hm : X.mg "range" = none) (ha : PA X [a] ta) (hs : starEach [a] X.env = [(false, eval a X.env)] := by rfl) : QI X tg (.Call (.Name "range" p) [a] [] pos) (iRng1 ta) := by
  refine ⟨fun pins s σ H R I h => ?_⟩
  refine Call_ (ld_blt I hg hm boot_range (PyProof.Rows.callWith_type1 (thn (ha.run pos pins s σ H _ I h) fun us s1 ⟨vs, H1, I1, r1, j, e, q1, q2, q⟩ => ?_) hs rfl))
  subst e
  cases r1 with
  | cons r rr =>
    cases rr
    obtain ⟨t, rfl⟩ := r
    exact call_range_1 (came_range I1 (by omega) (by omega) q1 q2 (by simpa using q))
/-! ### for -/
theorem qs_for {iter : Expr} {body : List Stmt} {wi : TI} {g : TG} {tb : TS} {pos : Pos} (hp : PassesOwn (model X.prog X.w) X.A X.env X.xe) (fx : Fine X) (hi : QI X tg iter wi) (hg : PG X tg g) (hb : PSs X body tb)
    (hs : ∀ x, foldedSetIterable iter X.env x = pure x := by intro _; rfl) : PS X (.For tg iter body [] pos) (tFor wi g tb) := by
  refine ⟨fun pins s σ H D I h => ?_⟩
  refine wpAny_For (thn (hi.run pins s σ H _ I h) fun v s1 h1 => thn h1 fun itv s2 h2 => ?_) hs
  obtain ⟨it, fp, tn, J, H2, rfl, I2, T, st2, f2, W, ⟨m0, w0⟩, turn⟩ := h2
  have stat : ∀ {H' : Hp}, (∀ b ∈ fp, H' b = none) → ∀ b ∈ fp, FpOk X pins H' b := fun hn b hb => ⟨hn b hb, (f2 b hb).2⟩
  refine codeAny_forLoop_any (fun n s' => ∃ i σ' H', Inv X pins σ' H' s' ∧ tn i s'.heap ∧ (∀ b ∈ fp, H' b = none) ∧ W i n σ' H') ?_ m0 ⟨0, σ, H2, I2, st2, fun b hb => (f2 b hb).1, w0⟩
  rintro n s3 ⟨i, σ3, H3, I3, st3, fr3, w3⟩
  rcases turn i n σ3 H3 w3 with ⟨stop, qn⟩ | ⟨go, N, hN, step⟩
  · refine wpAny_passesOwn hp (thn (T.over X rfl rfl rfl i pins s3 σ3 H3 X.xe (fx.quiet I3) I3 (stat fr3) st3 stop) fun r s4 ⟨hr, I4⟩ => ?_)
    subst hr
    exact wpAny_execs_nil ⟨σ3, H3, I4, qn⟩
  refine wpAny_passesOwn hp (thn (T.next X rfl rfl rfl i pins s3 σ3 H3 X.xe I3 (stat fr3) st3 go) fun r s4 ⟨u, hr, h4⟩ => ?_)
  subst hr
  refine wpAny_passesOwn hp (thn h4 fun _ s5 ⟨x, H5, I5, r5, y5, st5, fr5⟩ => ?_)
  have pinned := I5.pinned (stat fr5) (T.here _ _ st5)
  refine wpAny_passesOwn hp (thn (hg.run _ s5 σ3 H5 x u _ pinned r5 (step x H5 y5)) fun _ s6 ⟨σ6, H6, I6, q6⟩ => ?_)
  refine wpAny_passesOwn hp (thn (hb.run _ s6 σ6 H6 _ I6 q6) fun f s7 q7 => ?_)
  have again : ∀ {σ7 : St} {H7 : Hp}, Inv X (pins ++ pinsAt fp s5.heap) σ7 H7 s7 → N σ7 H7 → ∃ m, m < n ∧ ∃ i σ' H', Inv X pins σ' H' s7 ∧ tn i s7.heap ∧ (∀ b ∈ fp, H' b = none) ∧ W i m σ' H' := fun {σ7 H7} I7 n7 => by
    obtain ⟨m', hm, w7⟩ := hN σ7 H7 n7
    have old : ∀ b ∈ fp, ∀ o, s5.heap.get? b = some o → s7.heap.get? b = some o ∧ H7 b = none := fun b hb o e => by
      have z := I7.pin (b, o) (List.mem_append_right _ (List.mem_append_right _ (mem_pinsAt hb e)))
      exact ⟨z.1, z.2.1⟩
    refine ⟨m', hm, i + 1, σ7, H7, I7.unpinned, T.stay _ _ _ st5 fun b hb o e => (old b hb o e).1, fun b hb => ?_, w7⟩
    obtain ⟨o, e, _⟩ := T.here _ _ st5 b hb
    exact (old b hb o e).2
  cases f with
  | next => obtain ⟨σ7, H7, I7, n7⟩ := q7; exact again I7 n7
  | cont => obtain ⟨σ7, H7, I7, n7⟩ := q7; exact again I7 n7
  | brk => obtain ⟨σ7, H7, I7, q7⟩ := q7; exact ⟨σ7, H7, I7.unpinned, q7⟩
  | ret v => obtain ⟨x7, σ7, H7, I7, r7, q7⟩ := q7; exact ⟨x7, σ7, H7, I7.unpinned, r7, q7⟩
/-! ### targets -/
theorem qg_tup {es : List Expr} {k : Nat} {t : TGs} {n : Nat} {pos : Pos} (fx : Fine X) (h : PGs X es t)
    (hn : (assignEach es X.env).length = n := by rfl) (hst : (assignEach es X.env).findIdx? (·.1) = none := by rfl) : PG X (.Tuple es k pos) (gTup X.K n t) := by
  refine ⟨fun pins s σ H v u Q I r ⟨a, xs, e1, hq, hl, hw⟩ => ?_⟩
  subst e1
  cases r
  obtain ⟨its, rv, ht, _⟩ := I.tuple hq
  refine assign_tup (fx.quiet I) ht (by simp [hn, ← hl, rv.length]) hst fun h' hx => ?_
  exact h.run pins _ σ H xs _ Q (I.kept (t' := s.toks) fun b o e => hx b o (Nat.ne_of_lt (Heap.lt_size e)) e) (by simpa using rv) hw
theorem qs_par {i j : Nat} {x y : Str} {a b : Expr} {ta : TA} {px py pt pos : Pos} {kt k2 pt2} (fx : Fine X) (hN : X.N.Nodup) (hi : X.N[i]? = some x) (hj : X.N[j]? = some y) (hij : i ≠ j)
    (hx : X.env.scope.names.lookup x = some .local) (hy : X.env.scope.names.lookup y = some .local) (ha : PA X [a, b] ta)
    (hw : swappedStores [.Tuple [.Name x px, .Name y py] kt pt] (.Tuple [a, b] k2 pt2) X.env = pure (some [x, y]))
    (hs : swapsWithSole [.Tuple [.Name x px, .Name y py] kt pt] (.Tuple [a, b] k2 pt2) pos.line X.env = pure false := by rfl) :
    PS X (.Assign [.Tuple [.Name x px, .Name y py] kt pt] (.Tuple [a, b] k2 pt2) pos) (tPar i j ta) := by
  refine ⟨fun pins s σ H D I h => ?_⟩
  rw [exec_Assign_arm]
  refine wpAny_bind (wpAny_standAt ?_)
  rw [hs]
  refine wpAny_bind (wpAny_pure ?_)
  rw [if_neg (by decide)]
  refine wpAny_bind (Tuple_ (thn (ha.run _ pins s σ H _ I h) fun us s1 ⟨vs, H1, I1, r1, v1, v2, e1, q1⟩ => ?_))
  subst e1
  obtain ⟨u1, u2, rfl, rv, rw'⟩ := vals2 r1
  refine wpAny_newObj_type ?_ (by show 2 ≤ sizeLine; decide)
  have I2 : Inv X pins σ H1 { s1 with heap := s1.heap.push { cls := .type "tuple", data := .seq [u1, u2].toArray } } := I1.kept (t' := s1.toks) fun b o e => Heap.get?_push_of_some _ e
  rw [hw]
  refine wpAny_bind (wpAny_pure ?_)
  show wpAny (model X.prog X.w) X.A (do rule "assign.swapped-stores"; let items ← unpackItems (.ref s1.heap.objs.size) 2 none; assignInOrder [fun v => bindName X.env y v, fun v => bindName X.env x v] items.reverse; pure Flow.next) _ _ _
  refine wpAny_bind (wpAny_rule (wpAny_bind (unpack_items (items := #[u1, u2]) (fx.quiet I2) (IsTup.new s1.heap _) fun h' hx' => ?_)))
  have I3 := I2.kept (h' := h') (t' := s1.toks) fun b o e => hx' b o (Nat.ne_of_lt (Heap.lt_size e)) e
  show wpAny _ _ (assignInOrder [fun v => bindName X.env y v, fun v => bindName X.env x v] [u2, u1] >>= fun _ => pure Flow.next) _ _ _
  refine wpAny_bind (assignInOrder_cons (wpAny_bindName (store_ok I3 hN hj (.inl hy) rw' (fun s2 I4 => ?_) (.inr hy))))
  refine assignInOrder_cons (wpAny_bindName (store_ok I4 hN hi (.inl hx) rv (fun s3 I5 => assignInOrder_nil (wpAny_pure ?_)) (.inr hx)))
  rw [List.set_comm _ _ (Ne.symm hij)] at I5
  exact ⟨_, H1, I5, q1⟩
theorem vals3 {v1 v2 v3 : V} {us : List Value} (r : Vals [v1, v2, v3] us) : ∃ u1 u2 u3, us = [u1, u2, u3] ∧ RelV v1 u1 ∧ RelV v2 u2 ∧ RelV v3 u3 := by
  cases r with
  | cons p q =>
    obtain ⟨u2, u3, e, p2, p3⟩ := vals2 q
    exact ⟨_, u2, u3, by rw [e], p, p2, p3⟩
theorem qs_par3 {i j l : Nat} {x y z : Str} {a b c : Expr} {ta : TA} {px py pz pt pos : Pos} {kt k2 pt2} (fx : Fine X) (hN : X.N.Nodup) (hi : X.N[i]? = some x) (hj : X.N[j]? = some y) (hl : X.N[l]? = some z) (hij : i ≠ j) (hil : i ≠ l) (hjl : j ≠ l)
    (hx : X.env.scope.names.lookup x = some .local) (hy : X.env.scope.names.lookup y = some .local) (hz : X.env.scope.names.lookup z = some .local) (ha : PA X [a, b, c] ta)
    (hw : swappedStores [.Tuple [.Name x px, .Name y py, .Name z pz] kt pt] (.Tuple [a, b, c] k2 pt2) X.env = pure (some [x, y, z]))
    (hs : swapsWithSole [.Tuple [.Name x px, .Name y py, .Name z pz] kt pt] (.Tuple [a, b, c] k2 pt2) pos.line X.env = pure false := by rfl) :
    PS X (.Assign [.Tuple [.Name x px, .Name y py, .Name z pz] kt pt] (.Tuple [a, b, c] k2 pt2) pos) (tPar3 i j l ta) := by
  refine ⟨fun pins s σ H D I h => ?_⟩
  rw [exec_Assign_arm]
  refine wpAny_bind (wpAny_standAt ?_)
  rw [hs]
  refine wpAny_bind (wpAny_pure ?_)
  rw [if_neg (by decide)]
  refine wpAny_bind (Tuple_ (thn (ha.run _ pins s σ H _ I h) fun us s1 ⟨vs, H1, I1, r1, v1, v2, v3, e1, q1⟩ => ?_))
  subst e1
  obtain ⟨u1, u2, u3, rfl, q1', q2', q3'⟩ := vals3 r1
  refine wpAny_newObj_type ?_ (by show 3 ≤ sizeLine; decide)
  have I2 : Inv X pins σ H1 { s1 with heap := s1.heap.push { cls := .type "tuple", data := .seq [u1, u2, u3].toArray } } := I1.kept (t' := s1.toks) fun b o e => Heap.get?_push_of_some _ e
  rw [hw]
  refine wpAny_bind (wpAny_pure ?_)
  show wpAny (model X.prog X.w) X.A (do rule "assign.swapped-stores"; let items ← unpackItems (.ref s1.heap.objs.size) 3 none; assignInOrder [fun v => bindName X.env z v, fun v => bindName X.env y v, fun v => bindName X.env x v] items.reverse; pure Flow.next) _ _ _
  refine wpAny_bind (wpAny_rule (wpAny_bind (unpack_items (items := #[u1, u2, u3]) (fx.quiet I2) (IsTup.new s1.heap _) fun h' hx' => ?_)))
  have I3 := I2.kept (h' := h') (t' := s1.toks) fun b o e => hx' b o (Nat.ne_of_lt (Heap.lt_size e)) e
  show wpAny _ _ (assignInOrder [fun v => bindName X.env z v, fun v => bindName X.env y v, fun v => bindName X.env x v] [u3, u2, u1] >>= fun _ => pure Flow.next) _ _ _
  refine wpAny_bind (assignInOrder_cons (wpAny_bindName (store_ok I3 hN hl (.inl hz) q3' (fun s2 I4 => ?_) (.inr hz))))
  refine assignInOrder_cons (wpAny_bindName (store_ok I4 hN hj (.inl hy) q2' (fun s3 I5 => ?_) (.inr hy)))
  refine assignInOrder_cons (wpAny_bindName (store_ok I5 hN hi (.inl hx) q1' (fun s4 I6 => assignInOrder_nil (wpAny_pure ?_)) (.inr hx)))
  rw [List.set_comm _ _ (Ne.symm hjl), List.set_comm _ _ (Ne.symm hil), List.set_comm _ _ (Ne.symm hij)] at I6
  exact ⟨_, H1, I6, q1⟩
/-! ### built-ins -/
theorem cq_max2 (fx : Fine X) : CallR X (.builtin "max") (fun xs H Q => ∃ i j, xs = [.int i, .int j] ∧ Q (.int (if j > i then j else i)) H) := by
  rintro pins s σ H xs us Q I r ⟨i, j, rfl, q⟩
  obtain ⟨u, w', rfl, ⟨t, rfl⟩, ⟨t', rfl⟩⟩ := vals2 r
  refine max_two (fx.quiet I) fun h' tk k => ⟨_, H, I.kept k, ?_, q⟩
  split <;> exact ⟨_, rfl⟩
theorem cq_min2 (fx : Fine X) : CallR X (.builtin "min") (fun xs H Q => ∃ i j, xs = [.int i, .int j] ∧ Q (.int (if j < i then j else i)) H) := by
  rintro pins s σ H xs us Q I r ⟨i, j, rfl, q⟩
  obtain ⟨u, w', rfl, ⟨t, rfl⟩, ⟨t', rfl⟩⟩ := vals2 r
  refine min_two (fx.quiet I) fun h' tk k => ⟨_, H, I.kept k, ?_, q⟩
  split <;> exact ⟨_, rfl⟩
theorem cq_sum (fx : Fine X) : CallR X (.builtin "sum") (rSum X.K) := by
  rintro pins s σ H vs us Q I r ⟨a, ns, rfl, hs, q⟩
  obtain ⟨its, rv, hl, _⟩ := I.list hs
  rw [Vals.ref1 r]
  exact sum_ints (fx.quiet I) hl.isList rv.ints fun h' tk t' hk => ⟨.int _, H, I.kept hk, ⟨_, rfl⟩, q⟩
theorem cq_all (fx : Fine X) : CallR X (.builtin "all") (rAll X.K) := by
  rintro pins s σ H vs us Q I r ⟨a, bs, rfl, hs, q⟩
  obtain ⟨its, rv, hl, _⟩ := I.list hs
  rw [Vals.ref1 r]
  exact all_bools (fx.quiet I) hl.isList rv.bls fun h' tk hk => ⟨.bl _, H, I.kept hk, rfl, q⟩
end
/-! ### defs, called where the context is fine -/
structure FnQ (P : Program) (w : World) (K : PySem.W.Frag) (mg : Str → Option Value) (base : Heap) (k : Nat) (f : Addr) (fd : FuncData) (ps : List Str) (sp : Sp) : Prop where
  ok : FnOk P w K mg base CX0 k f fd ps sp
  hot : FnH P w K mg base CX0 k f fd ps sp
/-- the context of such a def's body: c is the exception that is handled -/
def cxQ (c : Option (Addr × Obj)) (P : Program) (w : World) (K : PySem.W.Frag) (mg : Str → Option Value) (base : Heap) (N : List Str) (qual : Str) (scope : Scope) (f : Addr) (cd : Value) (A : Around) (outer : List Env) (s : Shared) (H : Hp) (E : XK) : Cx :=
  { cxOf CX0 P w K mg base N qual scope f cd A outer s H E with calm := c.isNone, pn := c.toList }
theorem FnQ.of {P : Program} {w : World} {K : PySem.W.Frag} {mg : Str → Option Value} {base : Heap} {x qual : Str} {st : Stmt} {f : Addr} {fd : FuncData} {N ps : List Str} {k : Nat} {sp : Sp} (F : Fun K x qual st f fd) (S : FnScope N ps (defScope st)) (len : ∀ vs H Q E, sp vs H Q E → vs.length = ps.length)
    (body : ∀ (c : Option (Addr × Obj)) (cdv : Value) (A : Around) (outer : List Env) (s : Shared) (H : Hp) (vs : List V) (Q : VK) (E : XK), Fine (cxQ c P w K mg base N qual (defScope st) f cdv A outer s H E) → RoomH k (A.deeper (envOfC qual (defScope st) s.heap.objs.size f cdv)) → sp vs H Q E →
      ∃ t, PSs (cxQ c P w K mg base N qual (defScope st) f cdv A outer s H E).nox (defBody st) t ∧ t { nx := fun _ H' => Q .non H', rt := Q } (start N vs) H) : FnQ P w K mg base (k + 1) f fd ps sp := by
  obtain ⟨oc, od, kV, doc, pm, an, cdv, ct, osl, rfl, lk, hcd⟩ := F.ex
  refine ⟨fn_of lk hcd S len fun A outer s H vs Q E hr hsp => ?_, fn_ofH lk hcd S len fun A outer s H vs Q E p hot hr hsp => ?_⟩
  · obtain ⟨t, h, q⟩ := body none cdv A outer s H vs Q E (.inl rfl) ⟨hr.dp, hr.un⟩ hsp
    exact ⟨t, h.nox, q⟩
  · obtain ⟨t, h, q⟩ := body (some p) cdv A outer s H vs Q E (.inr ⟨p, hot, List.mem_cons_self⟩) hr hsp
    exact ⟨t, h.nox, q⟩
theorem Fine.nox {X : Cx} (f : Fine X) : Fine X.nox := f
section
variable {X : Cx} {k : Nat} {f C : Addr} {fd : FuncData} {ps : List Str} {sp : Sp} {x m : Str} {q pos apos : Pos} {e o : Expr} {es : List Expr} {ta : TE} {t : TA}
def tCallQ (sp : Sp) (t : TA) : TE := fun σ H Q => t σ H fun vs H1 => sp vs H1 Q E0
theorem tCall_q (sp : Sp) (t : TA) : tCall sp [] E0 t = tCallQ sp t := by
  funext σ H Q
  unfold tCall tCallQ
  simp only [List.append_nil]
theorem qe_call (F : FnQ X.prog X.w X.K X.mg X.base k f fd ps sp) (hr : RoomH k X.A) (fx : Fine X) (hg : Gl X x) (hm : X.mg x = some (.ref f)) (hk : PySem.W.keepIn X.K (.ref f) = true) (hb : Binds X.K fd ps [])
    (ha : PA X (e :: es) t) (hdb : (x == ("__debug__" : Str)) = false := by decide) (he : starEach (e :: es) X.env = (false, eval e X.env) :: starEach es X.env := by rfl) (hpl : (backTo pos (starEach es X.env)).any (·.1) = false := by rfl) :
    PE X (.Call (.Name x q) (e :: es) [] pos) (tCallQ sp t) := by
  rcases fx with c | c
  · refine ⟨fun pins s σ H Q I h => ?_⟩
    rw [← tCall_q] at h
    exact (pe_call F.ok ⟨I.ok.hd c, hr.dp, hr.un⟩ hg hm hk hb .nil pass0 ha hdb he hpl).run pins s σ H Q I h
  · exact pe_callH (E := fun _ => E0) F.hot hr c hg hm hk hb (fun _ _ _ _ _ _ _ z => z.elim) ha hdb he hpl
def tMethQ (C : Addr) (m : Str) (sp : Sp) (ta : TE) (t : TA) : TE := fun σ H Q => ta σ H fun x H1 => ∃ a dx fs, x = .ref a ∧ H1 a = some (.ins C dx fs) ∧ fs.lookup m = none ∧ t σ H1 fun vs H2 => sp (x :: vs) H2 Q E0
theorem tMeth_q (C : Addr) (m : Str) (sp : Sp) (ta : TE) (t : TA) : tMeth C m sp [] E0 ta t = tMethQ C m sp ta t := by
  funext σ H Q
  unfold tMeth tMethQ
  simp only [List.append_nil]
theorem qe_meth {pl : Sem Bool} (he : PE X o ta) (cl : Cls X.K C) (hm : Meth X.K C m f) (F : FnQ X.prog X.w X.K X.mg X.base k f fd ps sp) (hr : RoomH k X.A) (fx : Fine X) (hb : Binds X.K fd ps []) (ha : PA X (e :: es) t)
    (hst : starEach (e :: es) X.env = (false, eval e X.env) :: starEach es X.env := by rfl) (hpl : (backTo pos (starEach es X.env)).any (·.1) = false := by rfl)
    (ht : eval (.Call (.Attribute o m apos) (e :: es) [] pos) X.env = (do
      let ov ← eval o X.env
      standAt apos.atName
      let (f, first) ← holding [ov] (getMethod ov m pl)
      callWith pos f first (backTo pos (starEach (e :: es) X.env)) (backToKw pos (keywordEach [] X.env))) := by rfl) :
    PE X (.Call (.Attribute o m apos) (e :: es) [] pos) (tMethQ C m sp ta t) := by
  rcases fx with c | c
  · refine ⟨fun pins s σ H Q I h => ?_⟩
    rw [← tMeth_q] at h
    exact (pe_meth he cl hm F.ok ⟨I.ok.hd c, hr.dp, hr.un⟩ hb .nil pass0 ha hst hpl ht).run pins s σ H Q I h
  · exact pe_methH (E := fun _ => E0) he cl hm F.hot hr c hb (fun _ _ _ _ _ _ _ z => z.elim) ha hst hpl ht
def tMakeQ (C : Addr) (sp : Sp) (t : TA) : TE := fun σ H Q => t σ H fun vs H1 => ∀ x dx, H1 x = none → H1 dx = none → dx ≠ x → sp (.ref x :: vs) (upd (upd H1 dx (.own x)) x (.ins C dx [])) (fun v H2 => v = .non ∧ Q (.ref x) H2) E0
theorem tMake_q (C : Addr) (sp : Sp) (t : TA) : tMake C sp [] E0 t = tMakeQ C sp t := by
  funext σ H Q
  unfold tMake tMakeQ
  simp only [List.append_nil]
theorem run_makeH {pins : List (Addr × Obj)} {σ : St} {H : Hp} {s : Shared} {Q : VK} {us : List Value} {vs : List V} (M : Mk X.K C f) (F : FnH X.prog X.w X.K X.mg X.base CX0 k f fd ps sp) (hr : RoomH (k + 1) X.A) (c : HotC X) (hb : Binds X.K fd ps []) (I : Inv X pins σ H s) (r : Vals vs us)
    (h : ∀ x dx, H x = none → H dx = none → dx ≠ x → sp (.ref x :: vs) (upd (upd H dx (.own x)) x (.ins C dx [])) (fun v H2 => v = .non ∧ Q (.ref x) H2) E0) :
    wpAny (model X.prog X.w) X.A (call (.ref C) us) (EP X pins σ Q) X.xe s := by
  have hq := h (s.heap.objs.size + 1) s.heap.objs.size (I.hok.fresh (Nat.le_succ _)) (I.hok.fresh (Nat.le_refl _)) (Nat.ne_of_lt (Nat.lt_succ_self _))
  have I2 := Inv.made (C := C) I
  have r2 : Vals (V.ref (s.heap.objs.size + 1) :: vs) (Value.ref (s.heap.objs.size + 1) :: us) := .cons rfl r
  have hl : (Value.ref (s.heap.objs.size + 1) :: us).length = ps.length := by
    have e := r2.length
    rw [F.len _ _ _ _ hq] at e
    exact e.symm
  have b := hb _ (Value.ref (s.heap.objs.size + 1) :: us) I2.kIn (by rw [List.append_nil]; exact hl)
  rw [List.append_nil] at b
  obtain ⟨p, ⟨hot, ho⟩, hp⟩ := c
  have P1 := I2.pin p (List.mem_append_left _ hp)
  have rm : RoomH k (X.A.under (.builtin "type.__call__" ⟨.ref C :: us, []⟩)) := ⟨by have := hr.dp; rw [make_depth]; omega, by have := hr.un; rw [make_units]; omega⟩
  refine wpAny_call (make_map (f := f) I.kIn M.makes M.init (beq_iff_eq.mp M.fn) (codeAny_mono (F.run _ X.stack _ _ ⟨Value.ref (s.heap.objs.size + 1) :: us, []⟩ (Value.ref (s.heap.objs.size + 1) :: us) _ _ E0 p rm ⟨hot, ho⟩
    ⟨P1.1, P1.2.1, fun hm => (List.mem_cons.mp (I.stkSub p.1 hm)).elim P1.2.2.1 P1.2.2.2.1, P1.2.2.2.2⟩ (I2.env0.make C us []) b r2 hq) fun r s' hq' => ?_))
  cases r with
  | error e => exact hq'.elim
  | ok fl =>
    cases fl with
    | ret u =>
      obtain ⟨v, H', I3, rv, ev, q3⟩ := I2.after hq'
      subst ev
      exact ⟨rv, ⟨V.ref (s.heap.objs.size + 1), H', I3, rfl, q3⟩⟩
    | next => exact False.elim hq'
    | brk => exact False.elim hq'
    | cont => exact False.elim hq'
theorem qe_make (M : Mk X.K C f) (F : FnQ X.prog X.w X.K X.mg X.base k f fd ps sp) (hr : RoomH (k + 1) X.A) (fx : Fine X) (hg : Gl X x) (hm : X.mg x = some (.ref C)) (hb : Binds X.K fd ps [])
    (ha : PA X (e :: es) t) (hdb : (x == ("__debug__" : Str)) = false := by decide) (he : starEach (e :: es) X.env = (false, eval e X.env) :: starEach es X.env := by rfl) (hpl : (backTo pos (starEach es X.env)).any (·.1) = false := by rfl) :
    PE X (.Call (.Name x q) (e :: es) [] pos) (tMakeQ C sp t) := by
  rcases fx with c | c
  · refine ⟨fun pins s σ H Q I h => ?_⟩
    rw [← tMake_q] at h
    exact (pe_make M F.ok ⟨I.ok.hd c, hr.dp, hr.un⟩ hg hm hb .nil pass0 ha hdb he hpl).run pins s σ H Q I h
  · refine ⟨fun pins s σ H Q I h => ?_⟩
    refine wpAny_Call_Name_kw (ld_glob I hg hm ?_ hdb)
    refine PySem.W.callWith_K (h₀ := X.base) I.ok.mod.kin M.kp (thn (ha.run pos pins s σ H _ I h) fun us s1 ⟨vs, H1, I1, r, q⟩ => ⟨I1.kIn, ?_⟩) he hpl
    exact run_makeH M F.hot hr c hb I1 r q
end
end FH

set_option Elab.async false
set_option linter.all false
set_option maxRecDepth 100000
set_option maxHeartbeats 4000000
/-! List comprehensions of one clause and of two, where the context is fine. -/
namespace FH
open PySem PySem.Spec PyProof.Rows HotX L2 L2H
/-- a comprehension's block; the handled exception stays pinned -/
abbrev blkQ (X : Cx) (s : Shared) (H : Hp) (scope : Scope) (cenv : Env) (fp : List Addr) : Cx := { X.blk s H scope cenv fp with pn := X.pn }
theorem Fine.blk {X : Cx} (f : Fine X) {s : Shared} {H : Hp} {scope : Scope} {cenv : Env} {fp : List Addr} : Fine (blkQ X s H scope cenv fp) := f
/-- how a block stands: D the new list, its iterator's objects at fp -/
structure Blk (X : Cx) (pins : List (Addr × Obj)) (σ : St) (scope : Scope) (fp : List Addr) (H3 : Hp) (s3 s4 : Shared) (ce : Env) : Prop where
  def_ : Inv X pins σ H3 s3
  its : ∀ b ∈ fp, FpOk X pins H3 b
  loc : ce.locals = s3.heap.objs.size
section
variable {X : Cx} {pins : List (Addr × Obj)} {σ : St} {H : Hp} {s : Shared} {Q : VK} {elt tg iter tg1 iter1 : Expr} {ifs ifs1 : List Expr} {more : List Comprehension} {scope : Scope} {own : List (Str × Nat)} {pos pos' : Pos} {wi wi1 : TI} {g g1 : TG} {tt tt1 : TT} {te : TE}
  {use : Option (Value → Sem Unit)} {Qf : Value → Shared → Prop}
theorem Blk.back {fp : List Addr} {H3 : Hp} {s3 s4 : Shared} {ce : Env} (B : Blk X pins σ scope fp H3 s3 s4 ce) {σ5 : St} {H5 : Hp} {s5 : Shared} (I : Inv (blkQ X s3 H3 scope ce fp) [] σ5 H5 s5) :
    Inv X pins σ H5 s5 ∧ FpOk X pins H5 s3.heap.objs.size ∧ ∃ m, s5.heap.Ns s3.heap.objs.size m := by
  have J : Inv X pins σ H5 s5 := B.def_.call' (ch := fp) I.os I.base I.hok I.bare fun b hb => ⟨(B.its b hb).2.2.2.1, (B.its b hb).2.1, (B.its b hb).2.2.2.2.1, (B.its b hb).2.2.2.2.2⟩
  obtain ⟨m, hn, _⟩ := I.loc
  have hn : s5.heap.Ns ce.locals m := hn
  have free : H5 ce.locals = none := I.free
  rw [B.loc] at hn free
  exact ⟨J, B.def_.fpOk (Nat.le_refl _) free, m, hn⟩
theorem Blk.stat {fp : List Addr} {H3 : Hp} {s3 s4 : Shared} {ce : Env} (B : Blk X pins σ scope fp H3 s3 s4 ce) {σ5 : St} {H5 : Hp} {s5 : Shared} (I : Inv (blkQ X s3 H3 scope ce fp) [] σ5 H5 s5) (hn : ∀ b ∈ fp, H5 b = none) :
    ∀ b ∈ fp, FpOk (blkQ X s3 H3 scope ce fp) [] H5 b := fun b hb =>
  ⟨hn b hb, (I.ok.exf b hb).1, I.ok.exfs b hb, .inl hb, fun x c e => (I.ok.exf b hb).2 x c e, fun p hp => (B.its b hb).2.2.2.2.2 p (List.mem_append_left _ ((List.mem_append.mp hp).elim id fun z => nomatch z))⟩
/-- up to the loop -/
theorem comp_go {R : It → Hp → Prop} (hN : X.N.Nodup) (I : Inv X pins σ H s) (hi : QI X tg iter wi) (ok : BlkOk X.N X.env.scope scope own) (hs : ∀ x, foldedSetIterable iter X.env x = pure x) (h : wi σ H R)
    (loop : ∀ (it : Addr) (fp : List Addr) (tn : Nat → Heap → Prop) (J : It) (H2 : Hp) (D : Addr) (s3 s4 : Shared) (cl : List (Str × Addr)), Drw X.prog X.w X.K tg J fp it tn → R J H2 → H2 D = none →
      Blk X pins σ scope fp (upd H2 D (.lst [])) s3 s4 (compEnvC scope cl s3.heap.objs.size X.env) → Inv (blkQ X s3 (upd H2 D (.lst [])) scope (compEnvC scope cl s3.heap.objs.size X.env) fp) [] (wipe σ (own.map (·.2))) (upd H2 D (.lst [])) s4 → tn 0 s4.heap →
      codeAny (model X.prog X.w) X.A (.compLoop (.ListComp elt (⟨tg, iter, ifs, 0⟩ :: more) scope pos) 0 (.ref it) (.ref D) (compEnvC scope cl s3.heap.objs.size X.env)) (compPost (model X.prog X.w) X.A X.xe use Qf (.ref D) s3.heap.objs.size) s4) :
    wpAny (model X.prog X.w) X.A (comprehension (.ListComp elt (⟨tg, iter, ifs, 0⟩ :: more) scope pos) scope X.env pos' (newList []) false (eval iter X.env) use) Qf X.xe s := by
  have caught : ∀ y ∈ scope.names, y.2 = .free → ∃ c, X.env.cells.lookup y.1 = some c := fun y hy e => I.ok.has _ (ok.free y hy e)
  refine wpAny_comprehension_free (use := use) rfl hs (closure_ok caught) ok.kind (fun y hy e => by rw [ok.uniq y hy, e])
    (thn (hi.run pins s σ H _ I h) fun xv s1 hx => thn hx fun itv s2 h2 => ?_)
  obtain ⟨it, fp, tn, J, H2, rfl, I2, T, st2, f2, q⟩ := h2
  refine wpAny_newObj_type (newEnv_comp ?_) (by show 0 ≤ sizeLine; decide)
  have free : H2 s2.heap.objs.size = none := I2.hok.fresh (Nat.le_refl _)
  have up3 : ∀ b o, s2.heap.get? b = some o → (s2.heap.push { cls := .type "list", data := .seq ([] : List Value).toArray }).get? b = some o := fun b o e => Heap.get?_push_of_some _ e
  have I3 : Inv X pins σ (upd H2 s2.heap.objs.size (.lst [])) { s2 with heap := s2.heap.push { cls := .type "list", data := .seq ([] : List Value).toArray } } :=
    I2.laid (t' := s2.toks) up3 (Nat.le_refl _) ⟨Nat.zero_le _, [], 0, .nil, Heap.get?_push_size _ rfl⟩
  have f3 : ∀ b ∈ fp, FpOk X pins (upd H2 s2.heap.objs.size (.lst [])) b ∧ b < (s2.heap.push { cls := .type "list", data := .seq ([] : List Value).toArray }).objs.size := fun b hb => by
    obtain ⟨o, e, _⟩ := T.here _ _ st2 b hb
    have lt := Heap.lt_size e
    refine ⟨⟨?_, (f2 b hb).2⟩, by rw [Heap.size_push]; exact Nat.lt_succ_of_lt lt⟩
    rw [upd_ne (Nat.ne_of_lt lt)]
    exact (f2 b hb).1
  have I4 := block_start I3 ok hN f3
  generalize hs3 : ({ s2 with heap := s2.heap.push { cls := .type "list", data := .seq ([] : List Value).toArray } } : Shared) = s3 at I3 I4 ⊢
  have e3 : s3.heap = s2.heap.push { cls := .type "list", data := .seq ([] : List Value).toArray } := by rw [← hs3]
  rw [← e3] at f3 up3
  have keep : ∀ b o, s3.heap.get? b = some o → (pushCells (s3.heap.push { cls := .type "dict", data := .dict #[] }) scope.names).get? b = some o := fun b o e => pushCells_keeps _ _ _ _ (Heap.get?_push_of_some _ e)
  have pinned : ∀ p ∈ X.pn, (pushCells (s3.heap.push { cls := .type "dict", data := .dict #[] }) scope.names).get? p.1 = some p.2 ∧ (upd H2 s2.heap.objs.size (.lst [])) p.1 = none ∧ p.1 ≠ s3.heap.objs.size ∧ p.1 ∉ frs X.stack ∧ ∀ v, p.2.data ≠ .cell v := fun p hp => by
    have z := I3.pin p (List.mem_append_left _ hp)
    exact ⟨keep _ _ z.1, z.2.1, Nat.ne_of_lt (Heap.lt_size z.1), fun hm => (List.mem_cons.mp (I3.stkSub p.1 hm)).elim z.2.2.1 z.2.2.2.1, z.2.2.2.2⟩
  have I5 : Inv (blkQ X s3 (upd H2 s2.heap.objs.size (.lst [])) scope (compEnvC scope (cellsFrom (s3.heap.objs.size + 1) scope.names (cloFrom X.env.cells scope.names [])) s3.heap.objs.size X.env) fp) [] (wipe σ (own.map (·.2))) (upd H2 s2.heap.objs.size (.lst [])) { s3 with heap := pushCells (s3.heap.push { cls := .type "dict", data := .dict #[] }) scope.names } :=
    ⟨⟨I4.ok.mod, I4.ok.kind, I4.ok.glob, I4.ok.blt, I4.ok.above, I4.ok.inj, I4.ok.has, I4.ok.cab, I4.ok.hd, I4.ok.frames, I4.ok.stk, I4.ok.exf, I4.ok.bs, I4.ok.bsz, I4.ok.noex, I4.ok.exfs, I4.ok.funs, I4.ok.frf⟩,
      I4.os, I4.bare, I4.base, I4.loc, I4.cell, I4.free, I4.freeC, fun p hp => pinned p ((List.mem_append.mp hp).elim id fun z => nomatch z), I4.hok, I4.len⟩
  have st4 : tn 0 (pushCells (s3.heap.push { cls := .type "dict", data := .dict #[] }) scope.names) := T.stay _ _ _ st2 fun b _ o e => keep _ _ (up3 _ _ e)
  have run := loop it fp tn J H2 s2.heap.objs.size s3 { s3 with heap := pushCells (s3.heap.push { cls := .type "dict", data := .dict #[] }) scope.names } (cellsFrom (s3.heap.objs.size + 1) scope.names (cloFrom X.env.cells scope.names [])) T q free ⟨I3, fun b hb => (f3 b hb).1, rfl⟩ I5 st4
  exact codeAny_compStart_list run (T.own X.A 0 _ _ _ st4 run)
/-- the end of a loop: back in the def -/
theorem comp_end {fp : List Addr} {H3 : Hp} {s3 s4 : Shared} {ce : Env} {D : Addr} (B : Blk X pins σ scope fp H3 s3 s4 ce) {σ5 : St} {H5 : Hp} {s5 : Shared} (I : Inv (blkQ X s3 H3 scope ce fp) [] σ5 H5 s5) (q : Q (.ref D) H5) :
    compPost (model X.prog X.w) X.A X.xe none (fun v s' => EP X pins σ Q v s') (.ref D) s3.heap.objs.size (.ok .next) s5 := by
  obtain ⟨J, f, m, hn⟩ := B.back I
  refine ⟨m, hn, fun h' sb => ?_⟩
  obtain ⟨f0, f1, _, f3, f4, f5⟩ := f
  exact ⟨.ref D, H5, J.turned (t' := s5.toks) (fun b o hb e => (sb.2 b hb).trans e) f0 f1 f3 f4 f5, rfl, q⟩
theorem qe_lc (fx : Fine X) (hN : X.N.Nodup) (hi : QI X tg iter wi) (ok : BlkOk X.N X.env.scope scope own)
    (hg : ∀ (s : Shared) (H : Hp) (C : Addr) (cl : List (Str × Addr)) (fp : List Addr), PG (blkQ X s H scope (compEnvC scope cl C X.env) fp) tg g) (ht : ∀ (s : Shared) (H : Hp) (C : Addr) (cl : List (Str × Addr)) (fp : List Addr), PTs (blkQ X s H scope (compEnvC scope cl C X.env) fp) ifs tt)
    (he : ∀ (s : Shared) (H : Hp) (C : Addr) (cl : List (Str × Addr)) (fp : List Addr), PE (blkQ X s H scope (compEnvC scope cl C X.env) fp) elt te) (hs : ∀ x, foldedSetIterable iter X.env x = pure x := by intro _; rfl) :
    PE X (.ListComp elt [⟨tg, iter, ifs, 0⟩] scope pos) (tLc wi g tt te (own.map (·.2))) := by
  refine ⟨fun pins s σ H Q I h => ?_⟩
  rw [eval_ListComp]
  refine comp_go hN I hi ok hs h fun it fp tn J H2 D s3 s4 cl T q free B I4 st4 => ?_
  obtain ⟨W, ⟨m0, w0⟩, turn⟩ := q D free
  have pg := hg s3 (upd H2 D (.lst [])) s3.heap.objs.size cl fp
  have pt := ht s3 (upd H2 D (.lst [])) s3.heap.objs.size cl fp
  have pe := he s3 (upd H2 D (.lst [])) s3.heap.objs.size cl fp
  have fB : Fine (blkQ X s3 (upd H2 D (.lst [])) scope (compEnvC scope cl s3.heap.objs.size X.env) fp) := fx.blk
  have nfp : ∀ b ∈ fp, (upd H2 D (.lst [])) b = none := fun b hb => (B.its b hb).1
  generalize upd H2 D (.lst []) = H3 at B I4 pg pt pe fB nfp w0
  generalize compEnvC scope cl s3.heap.objs.size X.env = ce at B I4 pg pt pe fB ⊢
  refine compLoop_any (fun n s' => ∃ i H', Inv (blkQ X s3 H3 scope ce fp) [] (wipe σ (own.map (·.2))) H' s' ∧ tn i s'.heap ∧ (∀ b ∈ fp, H' b = none) ∧ W i n H') ?_ m0 ⟨0, H3, I4, st4, nfp, w0⟩
  rintro n s5 ⟨i, H5, I5, st5, n5, w5⟩
  rcases turn i n H5 w5 with ⟨stop, qq⟩ | ⟨go, Nx, hNx, step⟩
  · refine thnF (T.over (blkQ X s3 H3 scope ce fp) rfl rfl rfl i [] s5 _ H5 (fun _ _ => False) (fB.quiet I5) I5 (B.stat I5 n5) st5 stop) fun r s6 ⟨hr, I6⟩ => ?_
    subst hr
    exact comp_end B I6 qq
  refine thnF (T.next (blkQ X s3 H3 scope ce fp) rfl rfl rfl i [] s5 _ H5 (fun _ _ => False) I5 (B.stat I5 n5) st5 go) fun r s6 ⟨u, hr, h6⟩ => ?_
  subst hr
  refine thnF h6 fun _ s7 ⟨x, H7, I7, r7, y7, st7, n7⟩ => ?_
  have I7' := I7.pinned (B.stat I7 n7) (T.here _ _ st7)
  refine thnF (pg.run _ s7 _ H7 x u _ I7' r7 (step x H7 y7)) fun _ s8 ⟨σ8, H8, I8, hw8, q8⟩ => ?_
  refine thnF (pt.run _ s8 σ8 H8 _ I8 q8) fun b s9 ⟨H9, I9, q9⟩ => ?_
  have fin : ∀ {s' : Shared} {H' : Hp}, Inv (blkQ X s3 H3 scope ce fp) ([] ++ pinsAt fp s7.heap) σ8 H' s' → Nx H' → ∃ m, m < n ∧ ∃ i H', Inv (blkQ X s3 H3 scope ce fp) [] (wipe σ (own.map (·.2))) H' s' ∧ tn i s'.heap ∧ (∀ b ∈ fp, H' b = none) ∧ W i m H' := fun {s' H'} I' nx => by
    obtain ⟨m', hm, w'⟩ := hNx H' nx
    have old : ∀ b ∈ fp, ∀ o, s7.heap.get? b = some o → s'.heap.get? b = some o ∧ H' b = none := fun b hb o e => by
      have z := I'.pin (b, o) (List.mem_append_right _ (List.mem_append_right _ (mem_pinsAt hb e)))
      exact ⟨z.1, z.2.1⟩
    refine ⟨m', hm, i + 1, H', (I'.unpinned (pins := [])).weak (by rw [← hw8, wipe_length]) (fun j v e => by rw [← hw8] at e; exact (wipe_some e).1), T.stay _ _ _ st7 fun b hb o e => (old b hb o e).1, fun b hb => ?_, w'⟩
    obtain ⟨o, e, _⟩ := T.here _ _ st7 b hb
    exact (old b hb o e).2
  cases b with
  | false =>
    simp only [Bool.false_eq_true, if_false] at q9 ⊢
    exact fin I9 q9
  | true =>
    simp only [if_true] at q9 ⊢
    refine thnF (pe.run _ s9 σ8 H9 _ I9 q9) fun z s10 ⟨yv, H10, I10, r10, acc, hD10, hz10, nx⟩ => ?_
    exact app_ok (X := blkQ X s3 H3 scope ce fp) I10 hD10 hz10 r10 fun s11 I11 => fin I11 nx
theorem qe_lc2 {vs1 : List Nat} (fx : Fine X) (hN : X.N.Nodup) (hi : QI X tg iter wi) (ok : BlkOk X.N X.env.scope scope own) (hv : ∀ i ∈ vs1, i ∈ own.map (·.2))
    (hg : ∀ (s : Shared) (H : Hp) (C : Addr) (cl : List (Str × Addr)) (fp : List Addr), PG (blkQ X s H scope (compEnvC scope cl C X.env) fp) tg g) (ht : ∀ (s : Shared) (H : Hp) (C : Addr) (cl : List (Str × Addr)) (fp : List Addr), PTs (blkQ X s H scope (compEnvC scope cl C X.env) fp) ifs tt)
    (hi1 : ∀ (s : Shared) (H : Hp) (C : Addr) (cl : List (Str × Addr)) (fp : List Addr), QI (blkQ X s H scope (compEnvC scope cl C X.env) fp) tg1 iter1 wi1)
    (hg1 : ∀ (s : Shared) (H : Hp) (C : Addr) (cl : List (Str × Addr)) (fp : List Addr), PG (blkQ X s H scope (compEnvC scope cl C X.env) fp) tg1 g1) (ht1 : ∀ (s : Shared) (H : Hp) (C : Addr) (cl : List (Str × Addr)) (fp : List Addr), PTs (blkQ X s H scope (compEnvC scope cl C X.env) fp) ifs1 tt1)
    (he : ∀ (s : Shared) (H : Hp) (C : Addr) (cl : List (Str × Addr)) (fp : List Addr), PE (blkQ X s H scope (compEnvC scope cl C X.env) fp) elt te) (hs : ∀ x, foldedSetIterable iter X.env x = pure x := by intro _; rfl) (hs1 : ∀ env x, foldedSetIterable iter1 env x = pure x := by intro _ _; rfl) :
    PE X (.ListComp elt [⟨tg, iter, ifs, 0⟩, ⟨tg1, iter1, ifs1, 0⟩] scope pos) (tLc2 wi g tt wi1 g1 tt1 te (own.map (·.2)) vs1) := by
  refine ⟨fun pins s σ H Q I h => ?_⟩
  rw [eval_ListComp]
  refine comp_go hN I hi ok hs h fun it fp tn J H2 D s3 s4 cl T q free B I4 st4 => ?_
  obtain ⟨W, ⟨m0, w0⟩, turn⟩ := q D free
  have pg := hg s3 (upd H2 D (.lst [])) s3.heap.objs.size cl fp
  have pt := ht s3 (upd H2 D (.lst [])) s3.heap.objs.size cl fp
  have pe := he s3 (upd H2 D (.lst [])) s3.heap.objs.size cl fp
  have pi1 := hi1 s3 (upd H2 D (.lst [])) s3.heap.objs.size cl fp
  have pg1 := hg1 s3 (upd H2 D (.lst [])) s3.heap.objs.size cl fp
  have pt1 := ht1 s3 (upd H2 D (.lst [])) s3.heap.objs.size cl fp
  have fB : Fine (blkQ X s3 (upd H2 D (.lst [])) scope (compEnvC scope cl s3.heap.objs.size X.env) fp) := fx.blk
  have nfp : ∀ b ∈ fp, (upd H2 D (.lst [])) b = none := fun b hb => (B.its b hb).1
  generalize upd H2 D (.lst []) = H3 at B I4 pg pt pe pi1 pg1 pt1 fB nfp w0
  generalize compEnvC scope cl s3.heap.objs.size X.env = ce at B I4 pg pt pe pi1 pg1 pt1 fB ⊢
  refine compLoop2_out (hs1 ce) (fun n s' => ∃ i H', Inv (blkQ X s3 H3 scope ce fp) [] (wipe σ (own.map (·.2))) H' s' ∧ tn i s'.heap ∧ (∀ b ∈ fp, H' b = none) ∧ W i n H') ?_ m0 ⟨0, H3, I4, st4, nfp, w0⟩
  rintro n s5 ⟨i, H5, I5, st5, n5, w5⟩
  rcases turn i n H5 w5 with ⟨stop, qq⟩ | ⟨go, Nx, hNx, step⟩
  · refine thnF (T.over (blkQ X s3 H3 scope ce fp) rfl rfl rfl i [] s5 _ H5 (fun _ _ => False) (fB.quiet I5) I5 (B.stat I5 n5) st5 stop) fun r s6 ⟨hr, I6⟩ => ?_
    subst hr
    exact comp_end B I6 qq
  refine thnF (T.next (blkQ X s3 H3 scope ce fp) rfl rfl rfl i [] s5 _ H5 (fun _ _ => False) I5 (B.stat I5 n5) st5 go) fun r s6 ⟨u, hr, h6⟩ => ?_
  subst hr
  refine thnF h6 fun _ s7 ⟨x, H7, I7, r7, y7, st7, n7⟩ => ?_
  have I7' := I7.pinned (B.stat I7 n7) (T.here _ _ st7)
  refine thnF (pg.run _ s7 _ H7 x u _ I7' r7 (step x H7 y7)) fun _ s8 ⟨σ8, H8, I8, hw8, q8⟩ => ?_
  refine thnF (pt.run _ s8 σ8 H8 _ I8 q8) fun b s9 ⟨H9, I9, q9⟩ => ?_
  have fin : ∀ {σ9 : St} {s' : Shared} {H' : Hp}, Inv (blkQ X s3 H3 scope ce fp) ([] ++ pinsAt fp s7.heap) σ9 H' s' → (wipe σ (own.map (·.2))).length = σ9.length → (∀ (j : Nat) v, (wipe σ (own.map (·.2)))[j]? = some (some v) → σ9[j]? = some (some v)) → Nx H' →
      ∃ m, m < n ∧ ∃ i H', Inv (blkQ X s3 H3 scope ce fp) [] (wipe σ (own.map (·.2))) H' s' ∧ tn i s'.heap ∧ (∀ b ∈ fp, H' b = none) ∧ W i m H' := fun {σ9 s' H'} I' hl hk nx => by
    obtain ⟨m', hm, w'⟩ := hNx H' nx
    have old : ∀ b ∈ fp, ∀ o, s7.heap.get? b = some o → s'.heap.get? b = some o ∧ H' b = none := fun b hb o e => by
      have z := I'.pin (b, o) (List.mem_append_right _ (List.mem_append_right _ (mem_pinsAt hb e)))
      exact ⟨z.1, z.2.1⟩
    refine ⟨m', hm, i + 1, H', (I'.unpinned (pins := [])).weak hl hk, T.stay _ _ _ st7 fun b hb o e => (old b hb o e).1, fun b hb => ?_, w'⟩
    obtain ⟨o, e, _⟩ := T.here _ _ st7 b hb
    exact (old b hb o e).2
  have hl8 : (wipe σ (own.map (·.2))).length = σ8.length := by rw [← hw8, wipe_length]
  have hk8 : ∀ (j : Nat) v, (wipe σ (own.map (·.2)))[j]? = some (some v) → σ8[j]? = some (some v) := fun j v e => by
    rw [← hw8] at e
    exact (wipe_some e).1
  cases b with
  | false =>
    simp only [Bool.false_eq_true, if_false] at q9 ⊢
    exact fin I9 hl8 hk8 q9
  | true =>
    simp only [if_true] at q9 ⊢
    refine thnF (pi1.run _ s9 σ8 H9 _ I9 q9) fun xv s10 hx => thnF hx fun itv s11 h11 => ?_
    obtain ⟨it1, fp1, tn1, J1, H11, rfl, I11, T1, st11, f11, W1, ⟨m1, w1⟩, turn1⟩ := h11
    have stat1 : ∀ {H' : Hp}, (∀ b ∈ fp1, H' b = none) → ∀ b ∈ fp1, FpOk (blkQ X s3 H3 scope ce fp) ([] ++ pinsAt fp s7.heap) H' b := fun hn b hb => ⟨hn b hb, (f11 b hb).2⟩
    have inner : codeAny (model X.prog X.w) X.A (.compLoop (.ListComp elt [⟨tg, iter, ifs, 0⟩, ⟨tg1, iter1, ifs1, 0⟩] scope pos) 1 (.ref it1) (.ref D) ce)
        (fun r s' => match r with
          | .ok _ => ∃ m, m < n ∧ ∃ i H', Inv (blkQ X s3 H3 scope ce fp) [] (wipe σ (own.map (·.2))) H' s' ∧ tn i s'.heap ∧ (∀ b ∈ fp, H' b = none) ∧ W i m H'
          | .error _ => False) s11 := by
      refine compLoop2_in (fun k s' => ∃ j H', Inv (blkQ X s3 H3 scope ce fp) ([] ++ pinsAt fp s7.heap) (wipe σ8 vs1) H' s' ∧ tn1 j s'.heap ∧ (∀ b ∈ fp1, H' b = none) ∧ W1 j k H') ?_ m1 ⟨0, H11, I11.weak (wipe_length _ _) (fun j v e => (wipe_some e).1), st11, fun b hb => (f11 b hb).1, w1⟩
      rintro k s12 ⟨j, H12, I12, st12, n12, w12⟩
      rcases turn1 j k H12 w12 with ⟨stop1, nx1⟩ | ⟨go1, Nx1, hNx1, step1⟩
      · refine thnF (T1.over (blkQ X s3 H3 scope ce fp) rfl rfl rfl j _ s12 (wipe σ8 vs1) H12 (fun _ _ => False) (fB.quiet I12) I12 (stat1 n12) st12 stop1) fun r s13 ⟨hr, I13⟩ => ?_
        subst hr
        refine fin I13 (hl8.trans (wipe_length σ8 vs1).symm) (fun j v e => ?_) nx1
        rw [← hw8] at e
        obtain ⟨e1, e2⟩ := wipe_some e
        rw [wipe_out fun z => e2 (hv j z)]
        exact e1
      refine thnF (T1.next (blkQ X s3 H3 scope ce fp) rfl rfl rfl j _ s12 (wipe σ8 vs1) H12 (fun _ _ => False) I12 (stat1 n12) st12 go1) fun r s13 ⟨u1, hr, h13⟩ => ?_
      subst hr
      refine thnF h13 fun _ s14 ⟨x1, H14, I14, r14, y14, st14, n14⟩ => ?_
      have I14' := I14.pinned (stat1 n14) (T1.here _ _ st14)
      refine thnF (pg1.run _ s14 (wipe σ8 vs1) H14 x1 u1 _ I14' r14 (step1 x1 H14 y14)) fun _ s15 ⟨σ15, H15, I15, hw15, q15⟩ => ?_
      refine thnF (pt1.run _ s15 σ15 H15 _ I15 q15) fun b1 s16 ⟨H16, I16, q16⟩ => ?_
      have fin1 : ∀ {s' : Shared} {H' : Hp}, Inv (blkQ X s3 H3 scope ce fp) (([] ++ pinsAt fp s7.heap) ++ pinsAt fp1 s14.heap) σ15 H' s' → Nx1 H' →
          ∃ m, m < k ∧ ∃ j H', Inv (blkQ X s3 H3 scope ce fp) ([] ++ pinsAt fp s7.heap) (wipe σ8 vs1) H' s' ∧ tn1 j s'.heap ∧ (∀ b ∈ fp1, H' b = none) ∧ W1 j m H' := fun {s' H'} I' nx => by
        obtain ⟨m', hm, w'⟩ := hNx1 H' nx
        have old : ∀ b ∈ fp1, ∀ o, s14.heap.get? b = some o → s'.heap.get? b = some o ∧ H' b = none := fun b hb o e => by
          have z := I'.pin (b, o) (List.mem_append_right _ (List.mem_append_right _ (mem_pinsAt hb e)))
          exact ⟨z.1, z.2.1⟩
        refine ⟨m', hm, j + 1, H', I'.unpinned.weak (by rw [← hw15, wipe_length]) (fun j v e => by rw [← hw15] at e; exact (wipe_some e).1), T1.stay _ _ _ st14 fun b hb o e => (old b hb o e).1, fun b hb => ?_, w'⟩
        obtain ⟨o, e, _⟩ := T1.here _ _ st14 b hb
        exact (old b hb o e).2
      cases b1 with
      | false =>
        simp only [Bool.false_eq_true, if_false] at q16 ⊢
        exact fin1 I16 q16
      | true =>
        simp only [if_true] at q16 ⊢
        refine thnF (pe.run _ s16 σ15 H16 _ I16 q16) fun z s17 ⟨yv, H17, I17, r17, acc, hD17, hz17, nx⟩ => ?_
        exact app_ok (X := blkQ X s3 H3 scope ce fp) I17 hD17 hz17 r17 fun s18 I18 => fin1 I18 nx
    exact compStart1_ok inner (T1.own X.A 0 _ _ _ st11 inner)
end
end FH

set_option Elab.async false
set_option linter.all false
set_option maxRecDepth 100000
set_option maxHeartbeats 4000000
/-! dict(a tuple of pairs), sorted(a dict of ints), where the context is fine. -/
namespace FH
open PySem PySem.Spec PyProof.Rows HotX L2 L2H
/-- a tuple has no attribute of that name: an AttributeError is made and forgotten -/
def AttrMade (h h' : Heap) (e : Addr) (o : Value) (name : Str) : Prop :=
  (∀ b ob, h.get? b = some ob → h'.get? b = some ob) ∧ ∃ t c u, h'.get? e = some { cls := .type "AttributeError", data := .fields #[t, .none, c, .none, .bool false, .none, .str name u, o] }
section
variable {α : Type} {prog : Program} {w : World} {A : Around} {E : Value → Shared → Prop} {s : Shared}
theorem raise_attr {o : Value} {name msg : Str} {Q : α → Shared → Prop} (q : Quiet A s.heap) (h : ∀ h' tk e, AttrMade s.heap h' e o name → E (.ref e) { s with heap := h', toks := tk }) (hm : msg.length ≤ sizeLine := by size_fits) :
    wpAny (model prog w) A (raiseAttrError o name msg : Sem α) Q E s := by
  unfold raiseAttrError
  refine wpAny_bind (wpAny_mkStr (wpAny_bind ?_) hm)
  unfold newExc newTuple
  refine wpAny_bind (wpAny_newObj_type ?_ (by size_fits))
  refine wpAny_bind (m := firstArgMember _ _) (wpAny_of_eq (a := Value.none) (by simp only [firstArgMember, attrError_no_first]; rfl) ?_)
  rw [ownMembersOf_AttributeError]
  refine wpAny_newObj_type ?_ (by size_fits)
  obtain ⟨hp, g, d, tk, os⟩ := s
  have f1 := sub_AttributeError
  repeat (any_goals (first | assumption | wp_step))
  have keep : ∀ b ob, hp.get? b = some ob → ∀ (f : Obj → Obj) (o1 o2 : Obj), (((hp.push o1).push o2).update (hp.push o1).objs.size f).get? b = some ob := fun b ob hb f o1 o2 =>
    (Heap.get?_update_other _ _ (Nat.ne_of_gt (Nat.lt_of_lt_of_le (Heap.lt_size hb) (by rw [Heap.size_push]; exact Nat.le_succ _)))).trans (Heap.get?_push_of_some _ (Heap.get?_push_of_some _ hb))
  rcases q with q | ⟨x1, hot⟩
  · unfold raiseNew
    refine wpAny_bind (wpAny_handled ?_)
    rw [q]
    first
      | refine wpAny_throw ?_
      | refine wpAny_bind (wpAny_pure (wpAny_throw ?_))
    dsimp only
    exact h _ _ _ ⟨fun b ob hb => keep b ob hb _ _ _, _, _, _, Heap.get?_update_self _ (Heap.get?_push_size _ rfl) rfl⟩
  · have hx1 : ∃ o, hp.get? x1 = some o := by
      obtain ⟨_, o, _, e, _⟩ := id hot
      exact ⟨o, e⟩
    obtain ⟨ox, ex⟩ := hx1
    have ne : x1 ≠ (hp.push { cls := .type "tuple", data := .seq #[.str msg tk] }).objs.size := Nat.ne_of_lt (Nat.lt_of_lt_of_le (Heap.lt_size ex) (by rw [Heap.size_push]; exact Nat.le_succ _))
    refine raiseNew_hot (hot_keep hot fun o e => keep x1 o e _ _ _) ne (Heap.get?_update_self _ (Heap.get?_push_size _ rfl) rfl) rfl (by simp [Obj.mapFields]) ?_
    dsimp only
    refine h _ _ _ ⟨fun b ob hb => ?_, _, _, _, Heap.get?_update_self _ (Heap.get?_update_self _ (Heap.get?_push_size _ rfl) rfl) rfl⟩
    rw [Heap.get?_update_other _ _ (Nat.ne_of_gt (Nat.lt_of_lt_of_le (Heap.lt_size hb) (by rw [Heap.size_push]; exact Nat.le_succ _)))]
    exact keep b ob hb _ _ _
end
theorem meets_miss (a : Addr) (xs : Array Value) (k : Nat) (sl : Array (Option Value)) (name : Str) (u : Tok) (hmiss : typeLookup (.type "tuple") name = pure none) (hname : (["__module__", "__name__", "__qualname__", "__doc__", "__annotations__"] : List Str).contains name = false) (hsz : name.length + 100 ≤ sizeLine := by size_fits) :
    Meets (Builtin.«object.__getattribute__» ⟨[.ref a, .str name u], []⟩) (fun A R s => s.heap.get? a = some { cls := .type "tuple", dict := none, data := .seq xs k, slots := sl } ∧ Quiet A s.heap ∧ ∀ h' tk e, AttrMade s.heap h' e (.ref a) name → R (.error (.ref e)) { s with heap := h', toks := tk }) :=
  Meets.of_wp fun prog w A R s hs => by
    obtain ⟨hp, g, d, tk, os⟩ := s
    obtain ⟨hx, hs⟩ := hs
    have hT : (⟨hp, g, d, tk, os⟩ : Shared).TypeIs (.ref a) "tuple" := ⟨_, hx, rfl⟩
    unfold Builtin.«object.__getattribute__»
    repeat (any_goals (first | assumption | wp_step))
    simp only [hname, Bool.false_eq_true, if_false]
    repeat (any_goals (first | assumption | wp_step))
    exact raise_attr hs.1 hs.2 (attrMsg_fits (by decide +kernel) hsz)
section
variable {prog : Program} {w : World} {A : Around} {E : Value → Shared → Prop} {s : Shared}
theorem no_keys {a : Addr} {o : Obj} {xs : Array Value} {k : Nat} {Q : Option Value → Shared → Prop} (q : Quiet A s.heap) (hx : s.heap.get? a = some o) (hc : o.cls = .type "tuple") (hdat : o.data = .seq xs k) (hd : o.dict = none)
    (h : ∀ h' tk, (∀ b o, s.heap.get? b = some o → h'.get? b = some o) → Q none { s with heap := h', toks := tk }) : wpAny (model prog w) A (getAttr? (.ref a) "keys") Q E s := by
  obtain ⟨c, dct, dat, sl⟩ := o
  simp only at hc hdat hd
  subst hc hdat hd
  obtain ⟨hp, g, d, tk, os⟩ := s
  have hT : ∀ tk', (⟨hp, g, d, tk', os⟩ : Shared).TypeIs (.ref a) "tuple" := fun _ => ⟨_, hx, rfl⟩
  have hmiss := tuple_no_keys
  have hname : (["__module__", "__name__", "__qualname__", "__doc__", "__annotations__"] : List Str).contains "keys" = false := by decide +kernel
  have hsz : ("keys" : Str).length + 100 ≤ sizeLine := by first | size_fits | decide +kernel
  have f1 := sub_AttributeError
  have f3 := PySem.F.slot_tuple_getattribute.lookup
  have f4 := PySem.F.slot_tuple_getattribute.bind (.ref a)
  have f5 := am_tuple_getattr_none
  unfold getAttr? getAttrBy? getAttrBy
  repeat (any_goals (first | assumption | exact hT _ | ((with_reducible show wpAny _ _ (call (Value.builtin "tuple.__getattribute__") _ _) _ _ _); refine call_meets PySem.F.slot_tuple_getattribute (hT _) am_entry_tuple_getattribute (PySem.F.args_tuple_getattribute_2 _ _) (meets_miss a xs k sl "keys" _ hmiss hname hsz) ⟨hx, q, fun h' tk' e hx' => ?_⟩) | wp_step))
  obtain ⟨hk, t', c', u', he⟩ := hx'
  show wpAny _ _ (getattributeRaised _ _ _ _ _ _ _) _ _ _
  unfold getattributeRaised
  repeat (any_goals (first | assumption | wp_step))
  all_goals first | exact h _ _ hk | (dsimp only; repeat (any_goals (first | assumption | exact h _ _ hk | wp_step)))
/-- dict(t) of a tuple of pairs -/
theorem dict_pairs {a : Addr} {items : Array Value} {Ts : Nat → Addr} {ps : List (Value × Value)} {prs : List (Key × Value)} {Q : Value → Shared → Prop} (q : Quiet A s.heap) (hp : PlainSeq "tuple" s.heap a items) (hi : PairItems s.heap items Ts ps) (hc : PairsHave (mixKind prog w) ps.length (PairRel ps) prs) (hsz : ps.length ≤ sizeLine)
    (h : ∀ h' tk, h'.DictOf (mixKind prog w) s.heap.objs.size (merged [] prs) → (∀ b o, s.heap.get? b = some o → h'.get? b = some o) → Q (.ref s.heap.objs.size) { s with heap := h', toks := tk }) :
    wpAny (model prog w) A (call (.type "dict") [.ref a]) Q E s := by
  refine call_dict_arg (PairArg.tuple a items Ts ps) ⟨hp, hi⟩ fun s₁ hs₁ hdf ok₁ => ?_
  subst hs₁
  obtain ⟨⟨o, n, ho, hcl, hd, hdat⟩, hi1⟩ := ok₁
  unfold Builtin.Dict.updateFrom
  refine wpAny_bind (wpAny_typeOf (T := "tuple") ⟨o, ho, hcl⟩ ?_)
  rw [if_pos (by decide)]
  have k0 : ∀ b o, s.heap.get? b = some o → (s.heap.push { cls := .type "dict", data := .dict #[] }).get? b = some o := fun b o e => Heap.get?_push_of_some _ e
  refine wpAny_bind (no_keys (A := A.in1.in1) (q.keeps k0) ho hcl hdat hd fun h1 tk1 hk1 => ?_)
  simp only [Option.isNone_none, if_true]
  refine wpAny_bind (wpAny_rule ?_)
  have q1 : Quiet A h1 := (q.keeps k0).keeps hk1
  have hL : h1.IsTuple a items := ⟨o, hk1 _ _ ho, hcl, n, hdat⟩
  have hi2 : PairItems h1 items Ts ps := hi1.at fun j _ o e => hk1 _ _ e
  have hD : h1.get? s.heap.objs.size = some { cls := .type "dict", data := .dict #[] } := hk1 _ _ (Heap.get?_push_size _ rfl)
  have hDlt : s.heap.objs.size < h1.objs.size := Heap.lt_size hD
  have hne : ∀ b ob, h1.get? b = some ob → b ≠ h1.objs.size := fun b ob e => Nat.ne_of_lt (Heap.lt_size e)
  have hda : a ≠ s.heap.objs.size := fun e => hdf (by rw [← e]; exact List.mem_cons_self)
  have hdT : ∀ j, j < ps.length → Ts j ≠ s.heap.objs.size := fun j hj e => hdf (List.mem_cons_of_mem _ (List.mem_map.mpr ⟨j, List.mem_range.mpr hj, e⟩))
  have hTI : ∀ j, j < ps.length → Ts j ≠ h1.objs.size := fun j hj => by
    obtain ⟨ob, e⟩ := hi2.there hj
    exact hne _ ob e
  refine wpAny_bind (wpAny_pyIter_tuple hL ?_)
  have k2 : ∀ b o, h1.get? b = some o → (h1.push { cls := .type "tuple_iterator", data := .fields #[.ref a, .int 0 0] }).get? b = some o := fun b o e => Heap.get?_push_of_some _ e
  have src : ∃ St : Nat → Heap → Prop, PairSrc prog w A.in1.in1 h1.objs.size s.heap.objs.size [h1.objs.size] ps.length (PairRel ps) St ∧ St 0 (h1.push { cls := .type "tuple_iterator", data := .fields #[.ref a, .int 0 0] }) := by
    rcases q1 with c | ⟨x1, hot⟩
    · refine ⟨fun i h => h.IsTupleIter h1.objs.size a i ∧ h.IsTuple a items ∧ PairItems h items Ts ps, ⟨fun hm => Nat.ne_of_lt hDlt (List.mem_singleton.mp hm), ?_, ?_, ?_⟩, ⟨_, Heap.get?_push_size _ rfl, rfl, rfl⟩, hL.push _, hi2.at fun j _ o e => k2 _ _ e⟩
      · exact fun i h₁ h₂ st hk => ⟨st.1.at fun o e => hk _ o (Nat.ne_of_gt hDlt) e, st.2.1.at fun o e => hk _ o hda e, st.2.2.at fun j hj o e => hk _ o (hdT j hj) e⟩
      · intro i s₁ Q₁ E₁ hi st _ hQ
        obtain ⟨⟨k, v⟩, hkv⟩ : ∃ p, ps[i]? = some p := ⟨ps[i], List.getElem?_eq_getElem hi⟩
        refine wpAny_pyNext_tuple_item st.1 st.2.1 (x := .ref (Ts i)) (st.2.2.2 i k v hkv).1 fun h' hit' hs' => ?_
        have pi : PairItems h' items Ts ps := st.2.2.at fun j hj o e => hs'.extBut (Ts j) o (hTI j hj) e
        exact hQ (Ts i) k v h' s₁.toks hkv (pi.2 i k v hkv).2 ⟨hit', st.2.1.at fun o' e => hs'.extBut a o' (hne a o (hk1 _ _ ho)) e, pi⟩ fun b o hb e => hs'.extBut b o (fun h => hb (by simp [h])) e
      · exact fun s₁ Q₁ E₁ st hQ => tuple_end (.inl c) st.1 st.2.1 (Array.getElem?_eq_none (by rw [hi2.1]; exact Nat.le_refl _)) fun h' he' => hQ h' s₁.toks fun b o hb e => he' b o (fun h => hb (by simp [h])) e
    · obtain ⟨ox, ex⟩ : ∃ o, h1.get? x1 = some o := by
        obtain ⟨_, o, _, e, _⟩ := id hot
        exact ⟨o, e⟩
      have hxd : x1 ≠ s.heap.objs.size := fun e => by
        obtain ⟨_, o1, vs1, e1, d1, _⟩ := id hot
        rw [e, hD] at e1
        cases e1
        cases d1
      have hxi : x1 ≠ h1.objs.size := hne _ _ ex
      refine ⟨fun i h => h.IsTupleIter h1.objs.size a i ∧ h.IsTuple a items ∧ PairItems h items Ts ps ∧ HotAt A x1 h, ⟨fun hm => Nat.ne_of_lt hDlt (List.mem_singleton.mp hm), ?_, ?_, ?_⟩, ⟨_, Heap.get?_push_size _ rfl, rfl, rfl⟩, hL.push _, hi2.at fun j _ o e => k2 _ _ e, hot_keep hot fun o e => k2 _ _ e⟩
      · exact fun i h₁ h₂ st hk => ⟨st.1.at fun o e => hk _ o (Nat.ne_of_gt hDlt) e, st.2.1.at fun o e => hk _ o hda e, st.2.2.1.at fun j hj o e => hk _ o (hdT j hj) e, hot_keep st.2.2.2 fun o e => hk _ o hxd e⟩
      · intro i s₁ Q₁ E₁ hi st _ hQ
        obtain ⟨⟨k, v⟩, hkv⟩ : ∃ p, ps[i]? = some p := ⟨ps[i], List.getElem?_eq_getElem hi⟩
        refine wpAny_pyNext_tuple_item st.1 st.2.1 (x := .ref (Ts i)) (st.2.2.1.2 i k v hkv).1 fun h' hit' hs' => ?_
        have pi : PairItems h' items Ts ps := st.2.2.1.at fun j hj o e => hs'.extBut (Ts j) o (hTI j hj) e
        exact hQ (Ts i) k v h' s₁.toks hkv (pi.2 i k v hkv).2 ⟨hit', st.2.1.at fun o' e => hs'.extBut a o' (hne a o (hk1 _ _ ho)) e, pi, hot_keep st.2.2.2 fun o e => hs'.extBut x1 o hxi e⟩ fun b o hb e => hs'.extBut b o (fun h => hb (by simp [h])) e
      · exact fun s₁ Q₁ E₁ st hQ => tuple_end (.inr ⟨x1, st.2.2.2⟩) st.1 st.2.1 (Array.getElem?_eq_none (by rw [hi2.1]; exact Nat.le_refl _)) fun h' he' => hQ h' s₁.toks fun b o hb e => he' b o (fun h => hb (by simp [h])) e
  obtain ⟨St, S, st⟩ := src
  refine wpAny_pure ⟨plainId_quiet plain_update_loop _, ?_⟩
  have hlen : prs.length = ps.length := hc.1
  refine update_loop (A := A.in1) (s := { s with heap := h1.push { cls := .type "tuple_iterator", data := .fields #[.ref a, .int 0 0] }, toks := tk1 }) (h₀ := h1.push { cls := .type "tuple_iterator", data := .fields #[.ref a, .int 0 0] }) (Tab := fun i h => h.DictOf (mixKind prog w) s.heap.objs.size (merged [] (prs.take i))) S .none
    (fun _ _ tb => tb.lt_size) (fun i h h' tb hk => tb.at' fun o e => hk _ o S.off e) ?_ ?_ ps.length 0 0 _ tk1 (Nat.sub_zero _) (Nat.zero_le _) st ?_ (fun b o _ _ e => e)
  · intro i key v s' Q' E' hi hrel tb _ hQ
    obtain ⟨k, hk, his⟩ := hc.2 i key v hrel
    refine wpAny_dictSet_pairs (hsz := by have := merged_length ([] : List (Key × Value)) (prs.take i); rw [List.length_take, List.length_nil] at this; omega) his tb fun h' hm' hs => ?_
    exact hQ h' _ (by rw [merged_take_succ [] prs i (k, v) hk]; exact hm') hs
  · intro h' tk' tb hk
    have e : prs.take ps.length = prs := List.take_of_length_le (Nat.le_of_eq hlen)
    rw [e] at tb
    refine ⟨rfl, h h' tk' tb fun b o e => ?_⟩
    have b1 := hk1 _ _ (k0 _ _ e)
    refine hk b o (Nat.ne_of_lt (Heap.lt_size e)) (fun hm => hne _ _ b1 (List.mem_singleton.mp hm)) (k2 _ _ b1)
  · have hnew : (s.heap.push { cls := .type "dict", data := .dict #[] }).DictOf (mixKind prog w) s.heap.objs.size [] := Heap.DictOf.new s.heap
    exact (hnew.at' fun o e => hk1 _ _ e).at' fun o e => k2 _ _ e
end
section
variable {X : Cx} {pins : List (Addr × Obj)} {σ : St} {H : Hp} {s : Shared}
theorem pair_items (I : Inv X pins σ H s) : ∀ {ps : List Addr} {kvs : List (Key × V)}, Paired (fun p kv => SqT X.K H p [kV kv.1, kv.2]) ps kvs →
    ∃ (prs : List (Key × Value)) (vls : List (Value × Value)), KV kvs prs ∧ vls.length = ps.length ∧ prs.length = ps.length ∧
      ∀ (j : Nat) (c : Value × Value), vls[j]? = some c → ∃ (b : Addr) (k : Key), ps[j]? = some b ∧ IsTup s.heap b #[c.1, c.2] ∧ prs[j]? = some (k, c.2) ∧ keyIs k c.1 = true
  | _, _, .nil => ⟨[], [], .nil, rfl, rfl, fun j c e => by simp at e⟩
  | _, _, .cons (a := p) (b := kv) h t => by
    obtain ⟨prs, vls, r, l1, l2, hp⟩ := pair_items I t
    obtain ⟨its, rv, ht, _⟩ := I.tuple h
    obtain ⟨u, y, rfl, ru, ry⟩ := vals2 rv
    refine ⟨(kv.1, y) :: prs, (u, y) :: vls, .cons ⟨rfl, ry⟩ r, by rw [List.length_cons, List.length_cons, l1], by rw [List.length_cons, List.length_cons, l2], fun j c e => ?_⟩
    cases j with
    | zero =>
      have e' : (u, y) = c := Option.some.inj e
      subst e'
      exact ⟨p, kv.1, rfl, ht, rfl, kV_is (P := X.prog) (w := X.w) ru⟩
    | succ j => exact hp j c e
/-- a tuple whose own object is known to bear no dict -/
def TupF (H : Hp) (a : Addr) (xs : List V) : Prop := ∃ o : Obj, H a = some (.frz o (.tup xs)) ∧ o.dict = none
theorem cq_dict (fx : Fine X) : CallR X (.type "dict") (fun xs H Q => ∃ (a : Addr) (ps : List Addr) (kvs : List (Key × V)), xs = [.ref a] ∧ TupF H a (ps.map V.ref) ∧ Paired (fun p kv => SqT X.K H p [kV kv.1, kv.2]) ps kvs ∧
    ∀ p, H p = none → Q (.ref p) (upd H p (.dK (mergeK [] kvs)))) := by
  rintro pins s σ H xs us Q I r ⟨a, ps, kvs, rfl, ⟨o, hq, hdn⟩, hp, q⟩
  obtain ⟨u, rfl, rx⟩ := vals1 r
  cases rx
  obtain ⟨ho, hz, its, rv, ht⟩ := I.hok a _ hq
  have ei := refs_at rv
  subst ei
  rw [List.length_map] at hz
  obtain ⟨prs, vls, rel, l1, l2, hpr⟩ := pair_items I hp
  obtain ⟨o', ho', hc, n, hd⟩ := ht
  rw [ho] at ho'
  cases ho'
  refine dict_pairs (items := (ps.map Value.ref).toArray) (Ts := fun j => ps.getD j 0) (ps := vls) (prs := prs) (fx.quiet I) ⟨o, n, ho, hc, hdn, hd⟩ ⟨by simp [l1], fun j k v e => ?_⟩ ⟨by rw [l2, l1], fun i key v e => ?_⟩ (by rw [l1]; exact hz) fun h' tk hd' k => ?_
  · obtain ⟨b, k', e1, e2, _, _⟩ := hpr j (k, v) e
    refine ⟨by simp [List.getD_eq_getElem?_getD, e1], .inl ?_⟩
    show s.heap.IsTuple (ps.getD j 0) #[k, v]
    rw [List.getD_eq_getElem?_getD, e1]
    exact e2
  · obtain ⟨b, k', _, _, e3, e4⟩ := hpr i (key, v) e
    exact ⟨k', e3, e4⟩
  · have hm : (s.heap.objs.size == sysModules) = false := beq_eq_false_iff_ne.mpr (Nat.ne_of_gt I.big)
    have hlen : (mergeK [] kvs).length ≤ sizeLine := by
      refine Nat.le_trans (length_mergeK kvs []) ?_
      rw [List.length_nil, Nat.zero_add, rel.length, l2]
      exact hz
    exact ⟨.ref s.heap.objs.size, upd H s.heap.objs.size (.dK (mergeK [] kvs)), I.laid (t' := tk) k (Nat.le_refl _) (show ObjOk X.prog X.w _ _ _ (.dK (mergeK [] kvs)) from ⟨hlen, hm, merged [] prs, KV.merge rel .nil, hd'⟩), rfl, q _ (I.hok.fresh (Nat.le_refl _))⟩
/-- tuple(a list), the new object known -/
theorem cq_tupF : CallR X (.type "tuple") (fun xs H Q => ∃ p ys, xs = [.ref p] ∧ SqL X.K H p ys ∧ ∀ l o, H l = none → o.dict = none → Q (.ref l) (upd H l (.frz o (.tup ys)))) := by
  rintro pins s σ H xs us Q I r ⟨p, ys, rfl, hq, q⟩
  obtain ⟨u, rfl, rx⟩ := vals1 r
  cases rx
  obtain ⟨its, r', pl, hz⟩ := I.list hq
  have hlen := r'.length
  refine call_tuple_list pl.isList (fun h' kp => ?_) (by simp only [List.size_toArray] <;> omega)
  have I1 : Inv X pins σ H { s with heap := h' } := I.kept (t' := s.toks) kp
  refine ⟨.ref h'.objs.size, _, I1.laid (t' := s.toks) (fun b o e => Heap.get?_push_of_some _ e) (Nat.le_refl _) (show ObjOk X.prog X.w _ _ _ (.frz { cls := .type "tuple", data := .seq its.toArray } (.tup ys)) from ⟨Heap.get?_push_size _ rfl, hz, its, r', IsTup.new _ _⟩), rfl, q _ _ (I1.hok.fresh (Nat.le_refl _)) rfl⟩
end
end FH

set_option Elab.async false
set_option linter.all false
set_option maxRecDepth 100000
set_option maxHeartbeats 4000000
/-! sorted(a dict of ints) where the context is fine. -/
namespace FH
open PySem PySem.Spec PyProof.Rows HotX L2 L2H
section
variable {prog : Program} {w : World} {A : Around} {E : Value → Shared → Prop} {s : Shared} {K : Type} [DecidableEq K] {knd : KeyKind prog w K} {kvs : List (K × Value)} {d ep : Nat}
theorem keys_end {it : Addr} {i : Nat} {Q : Option Value → Shared → Prop} (q : Quiet A s.heap) (hit : s.heap.IsKeyIter it d i kvs.length ep)
    (hm : s.heap.DictAt knd d kvs ep) (hx : kvs[i]? = none)
    (hQ : ∀ h', Heap.ExtBut it s.heap h' → Q none { s with heap := h' }) : wpAny (model prog w) A (pyNext (.ref it)) Q E s := by
  rcases q with q | ⟨x1, hot⟩
  · exact wpAny_pyNext_dict_end q hit hm hx hQ
  obtain ⟨o, ho, hc, hd⟩ := id hit
  obtain ⟨od, es, hod, hcd, hdd, hk, hp, hn⟩ := id hm
  have hne : x1 ≠ it := hot_ne hot ho hd (by simp)
  unfold pyNext
  refine wpAny_bind (wpAny_attempt (wpAny_callSpecial?_slot (name := Str.ofString "__next__") hit.typeIs F.slot_dict_keyiterator_next
    (wpAny_call_entry F.slot_dict_keyiterator_next hit.typeIs F.entry_dict_keyiterator_next ?_ (F.args_dict_keyiterator_next_1 _))))
  refine wpAny_bind (wpAny_pure ?_)
  refine wpAny_bind ?_
  refine wpAny_bind ?_
  first | refine wpAny_bind (wpAny_typeNameOfWhole_keyiter hit.typeIs (wpAny_pure ?_)) | refine wpAny_bind (wpAny_typeNameOf_keyiter hit.typeIs (wpAny_pure ?_))
  refine wpAny_bind (wpAny_fieldsOf ho hd ?_)
  have hown : Builtin.Dict_items.ownsTuple "dict_keyiterator" = false := by decide
  simp only [hown, Bool.false_eq_true, if_false]
  show wpAny _ _ (if (Value.ref d == Value.none) = true then _ else _) _ _ s
  rw [if_neg (show ¬ ((Value.ref d == Value.none) = true) from Bool.false_ne_true)]
  refine wpAny_bind (wpAny_pure ?_)
  refine wpAny_bind (wpAny_dictEntries hod hdd ?_)
  have hsz : es.size = kvs.length := by rw [← hp.length]; simp
  rw [if_neg (by rw [hsz]; simp)]
  refine wpAny_bind (wpAny_pure ?_)
  refine wpAny_bind (wpAny_dictEpoch hod hdd ?_)
  rw [if_neg (by simp)]
  refine wpAny_pure ?_
  have hge : es.size ≤ i := by rw [hsz]; simpa using hx
  simp only [show ¬ ((i : Int) < 0) from by omega, if_false, Int.toNat_natCast, Array.getElem?_eq_none hge]
  refine wpAny_bind ?_
  first | refine wpAny_bind (wpAny_typeNameOfWhole_keyiter hit.typeIs (wpAny_pure ?_)) | refine wpAny_bind (wpAny_typeNameOf_keyiter hit.typeIs (wpAny_pure ?_))
  show wpAny _ _ (setField (.ref it) 0 .none >>= _) _ _ s
  refine wpAny_bind (wpAny_setField ho hd (by simp) ?_)
  have up : ∀ b o', b ≠ it → s.heap.get? b = some o' → (s.heap.update it (Obj.mapFields (·.setIfInBounds 0 .none))).get? b = some o' := fun b o' hb e => by
    rw [Heap.get?_update_other _ _ (Ne.symm hb)]
    exact e
  refine made_stop (.inr ⟨x1, hot_keep hot fun o' e => up x1 o' hne e⟩) fun h' e k te => ?_
  refine wpAny_bind (wpAny_isInstance (T := "StopIteration") (b := true) te isSubtype_stop ?_)
  exact wpAny_pure (hQ _ fun b o' hb e' => k b o' (up b o' hb e'))
theorem walks_keys {h : Heap} {I : Addr} (q : Quiet A h) (hI : h.IsKeyIter I d 0 kvs.length ep) (hm : h.DictAt knd d kvs ep) (hne : d ≠ I) :
    ∃ fp St, Walks prog w A I fp [I] kvs.length (fun i v => ∃ k x, kvs[i]? = some (k, x) ∧ knd.is k v = true) St ∧ St 0 h ∧ ∀ b ∈ fp, b ≠ I → b = d ∨ ∃ vs : Array Value, ∃ o, h.get? b = some o ∧ o.data = .fields vs := by
  rcases q with q | ⟨x1, hot⟩
  · refine ⟨_, _, Walks.dictKeys q I d hne kvs ep, ⟨hI, hm⟩, fun b hb hi => ?_⟩
    rcases List.mem_cons.mp hb with e | hb
    · exact absurd e hi
    · exact .inl (List.mem_singleton.mp hb)
  · obtain ⟨oI, eI, cI, dI⟩ := id hI
    have hx : x1 ≠ I := hot_ne hot eI dI (by simp)
    refine ⟨[I, d, x1], fun i h => h.IsKeyIter I d i kvs.length ep ∧ h.DictAt knd d kvs ep ∧ HotAt A x1 h, ?_, ⟨hI, hm, hot⟩, fun b hb hi => ?_⟩
    · refine ⟨fun b hb => by rw [List.mem_singleton.mp hb]; exact List.mem_cons_self, fun _ _ _ st hk => ⟨st.1.at fun o e => hk I (by simp) o e, st.2.1.at' fun o e => hk d (by simp) o e, hot_keep st.2.2 fun o e => hk x1 (by simp) o e⟩, ?_, ?_, fun _ _ _ _ st hQ => wpAny_pyIter_keyiter st.1 hQ⟩
      · intro i s Q E hi st hQ
        obtain ⟨⟨k, x⟩, hx'⟩ : ∃ p, kvs[i]? = some p := ⟨kvs[i], by simp [hi]⟩
        refine wpAny_pyNext_dict_item st.1 st.2.1 hx' fun key h' hkey hit' hs' => ?_
        exact hQ key h' s.toks ⟨k, x, hx', hkey⟩ ⟨hit', st.2.1.extBut hs'.extBut hne, hot_keep st.2.2 fun o e => hs'.extBut x1 o hx e⟩ fun b o hb e => hs'.extBut b o (fun h => hb (by simp [h])) e
      · intro s Q E st hQ
        exact keys_end (.inr ⟨x1, st.2.2⟩) st.1 st.2.1 (by simp) fun h' he' => hQ h' s.toks fun b o hb e => he' b o (fun h => hb (by simp [h])) e
    · rcases List.mem_cons.mp hb with e | hb
      · exact absurd e hi
      · rcases List.mem_cons.mp hb with e | hb
        · exact .inl e
        · rw [List.mem_singleton.mp hb]
          obtain ⟨_, o, vs, e, f, _⟩ := id hot
          exact .inr ⟨vs, o, e, f⟩
/-- the keys of a dict, put into a new list -/
theorem extend_keys {R : Result → Shared → Prop} (lo : (d == sysModules) = false) (q : Quiet A s.heap) (hm : s.heap.DictAt knd d kvs ep) (S : Addr) (hSd : S ≠ d) (res : Value) (c₀ : Nat) (hS : s.heap.get? S = some { cls := .type "list", data := .seq #[] c₀ })
    (hR : ∀ h' tk acc' c', (∀ b o, b ≠ S → s.heap.get? b = some o → h'.get? b = some o) → h'.get? S = some { cls := .type "list", dict := none, data := .seq acc' c', slots := #[] } → ItemsOf (fun i v => ∃ k x, kvs[i]? = some (k, x) ∧ knd.is k v = true) acc' kvs.length → R (.ok (.ret res)) { s with heap := h', toks := tk }) (hn : kvs.length ≤ sizeLine) :
    wpAny (model prog w) A.in1 (Builtin.List.listExtendWith (.ref S) (.ref d) res)
      (fun fin s' => match fin with | .done f => R (.ok f) s' | .again c' => c'.quiet = true ∧ codeAny (model prog w) A c' R s') (fun e s' => R (.error e) s') s := by
  have hdlt : d < s.heap.objs.size := hm.lt_size
  have hSlt : S < s.heap.objs.size := Heap.lt_size hS
  obtain ⟨fp, St, W, st, off⟩ := walks_keys (prog := prog) (w := w) (A := A.in1) (knd := knd) (kvs := kvs) (ep := ep) (d := d) (I := s.heap.objs.size) (h := s.heap.push { cls := .type "dict_keyiterator", data := .fields #[.ref d, .int 0 0, .int kvs.length 0, .int ep 0] })
    (q.keeps fun b o e => Heap.get?_push_of_some _ e) ⟨_, Heap.get?_push_size _ rfl, rfl, rfl⟩ (hm.push _) (Nat.ne_of_lt hdlt)
  have hSf : S ∉ fp := fun hb => by
    rcases off S hb (Nat.ne_of_lt hSlt) with e | ⟨vs, o, e, f⟩
    · exact hSd e
    · rw [Heap.get?_push_of_some _ hS] at e
      cases e
      cases f
  have key : ∀ (h : Heap) (c₁ tk : Nat), St 0 h → (∀ b o, b ≠ S → s.heap.get? b = some o → h.get? b = some o) →
      h.get? S = some { cls := .type "list", data := .seq #[] c₁ } → codeAny (model prog w) A (.builtin "list.extend.loop" ⟨[.ref S, .ref s.heap.objs.size, res], []⟩) R { s with heap := h, toks := tk } := by
    intro h c₁ tk hst hk hS₁
    refine codeAny_extend_loopS W.toS hn S hSf res kvs.length 0 _ #[] c₁ rfl (Nat.zero_le _) hst hS₁ (ItemsOf.nil _) fun s' acc' c' hmv hS' hacc => ?_
    rw [Moved.eq_with hmv]
    refine hR s'.heap s'.toks acc' c' (fun b o hb e => hmv.heap b o (fun hmem => ?_) (hk b o hb e)) hS' hacc
    rcases List.mem_cons.mp hmem with e' | hmem
    · exact hb e'
    · rw [List.mem_singleton.mp hmem, Heap.get?_none_of_le (Nat.le_refl _)] at e
      cases e
  have hT : s.TypeIs (.ref d) "dict" := by
    obtain ⟨o, _, ho, hc, _⟩ := hm
    exact ⟨o, ho, hc.1⟩
  unfold Builtin.List.listExtendWith
  refine wpAny_bind (wpAny_typeOf (T := "dict") hT ?_)
  have h1 : Builtin.List.listSameRef (.ref S) (.ref d) = false := by simp [Builtin.List.listSameRef, hSd]
  have h2 : (Value.type "dict" == Value.type "list") = false := by decide
  have h3 : (Value.type "dict" == Value.type "tuple") = false := by decide
  simp only [h1, h2, h3, Bool.or_false, Bool.false_eq_true, if_false]
  refine wpAny_bind (wpAny_pyIter_dict lo hm ?_)
  have hS₁ := Heap.get?_push_of_some { cls := .type "dict_keyiterator", data := .fields #[.ref d, .int 0 0, .int kvs.length 0, .int ep 0] } hS
  have hT1 : Shared.TypeIs { s with heap := s.heap.push { cls := .type "dict_keyiterator", data := .fields #[.ref d, .int 0 0, .int kvs.length 0, .int ep 0] } } (.ref d) "dict" := by
    obtain ⟨o, ho, hc⟩ := hT
    exact ⟨o, Heap.get?_push_of_some _ ho, hc⟩
  refine wpAny_bind (wpAny_holding (PySem.W.kdl_hint_dict hT1 ?_))
  refine wpAny_ite_split (fun _ => ?_) (fun _ => wpAny_pure ⟨plainId_quiet PySem.F.plain_extend_loop _, key _ c₀ _ st (fun b o _ e => Heap.get?_push_of_some _ e) hS₁⟩)
  refine wpAny_bind (wpAny_rule ?_)
  refine wpAny_bind ?_
  show wpAny _ _ (updateSeq S (·.push .none) >>= fun _ => updateSeq S (·.pop)) _ _ _
  refine wpAny_bind (wpAny_updateSeq hS₁ rfl ?_)
  have hS₂ := Heap.get?_update_self (Obj.mapSeq (·.push Value.none)) hS₁ rfl
  refine wpAny_updateSeq (hz := by seq_fits) hS₂ rfl ?_
  have hS₃ := Heap.get?_update_self (Obj.mapSeq (·.pop)) hS₂ rfl
  have other : ∀ b o, b ≠ S → (s.heap.push { cls := .type "dict_keyiterator", data := .fields #[.ref d, .int 0 0, .int kvs.length 0, .int ep 0] }).get? b = some o →
      (((s.heap.push { cls := .type "dict_keyiterator", data := .fields #[.ref d, .int 0 0, .int kvs.length 0, .int ep 0] }).update S (Obj.mapSeq (·.push Value.none))).update S (Obj.mapSeq (·.pop))).get? b = some o := fun b o hb e => by
    rw [Heap.get?_update_other _ _ (Ne.symm hb), Heap.get?_update_other _ _ (Ne.symm hb)]
    exact e
  exact wpAny_pure ⟨plainId_quiet PySem.F.plain_extend_loop _, key _ _ _ (W.frame 0 _ _ st fun b hb o e => other b o (fun h => hSf (h ▸ hb)) e) (fun b o hb e => other b o hb (Heap.get?_push_of_some _ e)) hS₃⟩
theorem collect_keys {R : List Value → Shared → Prop} (lo : (d == sysModules) = false) (q : Quiet A s.heap) (hm : s.heap.DictAt knd d kvs ep) (hn : kvs.length ≤ sizeLine)
    (h : ∀ (h' : Heap) (tk : Nat) (acc : Array Value), (∀ b o, s.heap.get? b = some o → h'.get? b = some o) → ItemsOf (fun i v => ∃ k x, kvs[i]? = some (k, x) ∧ knd.is k v = true) acc kvs.length → R acc.toList { s with heap := h', toks := tk }) :
    wpAny (model prog w) A (collect (.ref d)) R E s := by
  have hdlt : d < s.heap.objs.size := hm.lt_size
  unfold collect
  refine wpAny_bind (wpAny_runValue (codeAny_builtin entry_proto_collect' ?_))
  rw [Around.under_plainId PySem.F.plain_proto_collect _]
  show wpAny _ A.in1 (newList [] >>= fun l => again (.builtin "list.__iadd__" ⟨[l, .ref d], []⟩)) _ _ s
  refine wpAny_bind (wpAny_newObj_type ?_)
  refine wpAny_pure ⟨plainId_quiet PySem.F.plain_list_iadd _, codeAny_builtin entry_list_iadd' ?_⟩
  rw [Around.under_plainId PySem.F.plain_list_iadd _]
  have hS₁ : (s.heap.push { cls := .type "list", data := .seq ([] : List Value).toArray }).get? s.heap.objs.size = some { cls := .type "list", data := .seq #[] } := Heap.get?_push_size _ rfl
  show wpAny _ A.in1 (Builtin.List.listExtendWith (.ref s.heap.objs.size) (.ref d) (.ref s.heap.objs.size)) _ _ _
  have run := extend_keys (A := A) (s := { s with heap := s.heap.push { cls := .type "list", data := .seq ([] : List Value).toArray } })
    (R := fun (r : Result) (s' : Shared) => ∃ (h' : Heap) (tk : Nat) (acc' : Array Value) (c' : Nat), r = .ok (.ret (.ref s.heap.objs.size)) ∧ s' = { s with heap := h', toks := tk } ∧
      (∀ b o, s.heap.get? b = some o → h'.get? b = some o) ∧ h'.get? s.heap.objs.size = some { cls := .type "list", dict := none, data := .seq acc' c', slots := #[] } ∧ ItemsOf (fun i v => ∃ k x, kvs[i]? = some (k, x) ∧ knd.is k v = true) acc' kvs.length)
    lo (q.keeps fun b o e => Heap.get?_push_of_some _ e) (hm.push _) s.heap.objs.size (Nat.ne_of_gt hdlt) (.ref s.heap.objs.size) 0 hS₁
    (fun h' tk acc' c' hk hS' hacc => ⟨h', tk, acc', c', rfl, rfl, fun b o e => hk b o (Nat.ne_of_lt (Heap.lt_size e)) (Heap.get?_push_of_some _ e), hS', hacc⟩) hn
  refine wpAny_mono run (fun fin s' x => ?_) fun e s' x => ?_
  · cases fin with
    | done f =>
      obtain ⟨h', tk, acc', c', e, rfl, hk, hS', hacc⟩ := x
      cases e
      show wpAny _ A (load s.heap.objs.size >>= _) _ _ _
      exact wpAny_bind (wpAny_load hS' (wpAny_pure (h h' tk acc' hk hacc)))
    | again c₁ =>
      refine ⟨x.1, codeAny_mono x.2 fun r s₂ y => ?_⟩
      obtain ⟨h', tk, acc', c', rfl, rfl, hk, hS', hacc⟩ := y
      show wpAny _ A (load s.heap.objs.size >>= _) _ _ _
      exact wpAny_bind (wpAny_load hS' (wpAny_pure (h h' tk acc' hk hacc)))
  · obtain ⟨_, _, _, _, e', _⟩ := x
    cases e'
end
section
variable {X : Cx}
theorem cq_sortedD (fx : Fine X) : CallR X (.builtin "sorted") (fun xs H Q => ∃ (a : Addr) (kvs : List (Key × V)) (ks : List Int), xs = [.ref a] ∧ Rd H a (.dK kvs) ∧ kvs.map (·.1) = ks.map Sum.inl ∧ ks.length < 64 ∧
    ∀ (ys : List Int) (p : Addr), ys.Perm ks → ys.Pairwise (· ≤ ·) → H p = none → Q (.ref p) (upd H p (.lst (ys.map V.int)))) := by
  rintro pins s σ H xs us Q I r ⟨a, kvs, ks, rfl, hd, hks, h64, q⟩
  obtain ⟨u, rfl, rx⟩ := vals1 r
  cases rx
  obtain ⟨z, lo, vs, rel, dd⟩ := dk_rd I.hok hd
  obtain ⟨ep, hat⟩ := dd.dictAt
  have hkeys : vs.map (·.1) = ks.map Sum.inl := rel.keys.symm.trans hks
  have hl : vs.length = ks.length := by
    have e := congrArg List.length hkeys
    rw [List.length_map, List.length_map] at e
    exact e
  have h16 : vs.length ≤ sizeLine := by rw [hl, sizeLine_eq]; omega
  refine Calls.call_function_entry PyProof.Rows.kind_sorted PyProof.Rows.plain_sorted PyProof.Rows.entry_sorted (PyProof.Rows.args_sorted1 _) ?_
  unfold Builtin.«sorted»
  refine wpAny_bind (m := checkCount "sorted" 1 1 _) (wpAny_pure ?_)
  refine wpAny_bind (collect_keys (A := X.A.in1) (knd := mixKind X.prog X.w) (kvs := vs) (ep := ep) lo (fx.quiet I) hat h16 fun h' tk acc hk hacc => ?_)
  have hal : acc.toList.length = ks.length := by rw [Array.length_toList, hacc.1, hl]
  have hS : IntsAre acc.toList ks := ints_each hal fun j v e => by
    obtain ⟨k, x, e1, e2⟩ := hacc.2 j v (by rw [← Array.getElem?_toList]; exact e)
    have e3 : (vs.map (·.1))[j]? = some k := by rw [List.getElem?_map, e1]; rfl
    rw [hkeys, List.getElem?_map] at e3
    obtain ⟨y, e4, e5⟩ := Option.map_eq_some_iff.mp e3
    subst e5
    rcases keyIs_shape (show keyIs (Sum.inl y) v = true from e2) with ⟨i, t, ek, ev⟩ | ⟨z, t, ek, ev⟩
    · cases ek
      exact ⟨y, t, e4, ev⟩
    · cases ek
  have I1 : Inv X pins σ H { s with heap := h', toks := tk } := I.kept hk
  refine wpAny_bind (wpAny_newList ?_ (by rw [hal, sizeLine_eq]; omega))
  have hoL : (h'.push (seqObj "list" acc.toList.toArray 0)).get? h'.objs.size = some (seqObj "list" acc.toList.toArray 0) := Heap.get?_push_size _ rfl
  show wpAny _ _ _ _ _ { s with heap := h'.push (seqObj "list" acc.toList.toArray 0), toks := tk }
  refine wpAny_bind (wpAny_holding (wpAny_call_entry PyProof.Rows.slot_list_sort ⟨_, hoL, rfl⟩ PyProof.Rows.entry_list_sort
    (PyProof.Rows.list_sort_tree (s := { s with heap := h'.push (seqObj "list" acc.toList.toArray 0), toks := tk }) hoL hS (by rw [hal]; exact h64) fun out ys g1 g2 g3 => ⟨_, rfl, ?_⟩) (PyProof.Rows.args_list_sort _)))
  obtain ⟨e', he'⟩ := PyProof.Rows.sortedHeap_at (vs := acc.toList) (out := out) hoL
  have hlen : (ys.map V.int).length ≤ sizeLine := by
    rw [List.length_map, g2.length_eq]
    exact Nat.le_trans (Nat.le_of_lt h64) (by decide)
  refine wpAny_pure ⟨_, rfl, .ref h'.objs.size, upd H h'.objs.size (.lst (ys.map V.int)), I1.laid (t' := tk) (fun b u e => ?_) (Nat.le_refl _)
    (show ObjOk X.prog X.w _ _ _ (.lst (ys.map V.int)) from ⟨hlen, out.toList, e', vals_of_ints g1, by rw [Array.toArray_toList]; exact he'⟩), rfl, q ys _ g2 g3 (I1.hok.fresh (Nat.le_refl _))⟩
  have hb : b < h'.objs.size := Heap.lt_size e
  rw [PyProof.Rows.sortedHeap_old (Nat.ne_of_lt hb) (by rw [size_push']; exact Nat.lt_succ_of_lt hb)]
  exact Heap.get?_push_of_some _ e
end
end FH

set_option Elab.async false
set_option linter.all false
set_option maxRecDepth 100000
set_option maxHeartbeats 4000000
/-! The text by places, the names of each def. -/
namespace FW
open PySem L2 L2H FH
def topS (i : Nat) : Stmt := PySem.Challenge.pw_finecloud_k53_whole_progress.main.body.getD i (.Pass ⟨0, 0, 0, 0⟩)
abbrev t_isw : Stmt := topS 7
abbrev n_isw : List Str := ["thing", "low", "high"]
abbrev p_isw : List Str := ["thing", "low", "high"]
theorem sc_isw : FnScope n_isw p_isw (defScope t_isw) := ⟨rfl, rfl, rfl, by decide +kernel, rfl, by decide +kernel, by decide +kernel⟩
abbrev t_pow : Stmt := topS 8
abbrev n_pow : List Str := ["times", "found", "turn"]
abbrev p_pow : List Str := ["times"]
theorem sc_pow : FnScope n_pow p_pow (defScope t_pow) := ⟨rfl, rfl, rfl, by decide +kernel, rfl, by decide +kernel, by decide +kernel⟩
abbrev t_cho : Stmt := topS 9
abbrev n_cho : List Str := ["many", "some", "found", "turn"]
abbrev p_cho : List Str := ["many", "some"]
theorem sc_cho : FnScope n_cho p_cho (defScope t_cho) := ⟨rfl, rfl, rfl, by decide +kernel, rfl, by decide +kernel, by decide +kernel⟩
abbrev t_bof : Stmt := topS 10
abbrev n_bof : List Str := ["number", "many", "found", "turn"]
abbrev p_bof : List Str := ["number", "many"]
theorem sc_bof : FnScope n_bof p_bof (defScope t_bof) := ⟨rfl, rfl, rfl, by decide +kernel, rfl, by decide +kernel, by decide +kernel⟩
abbrev t_nof : Stmt := topS 11
abbrev n_nof : List Str := ["bits", "found", "bit"]
abbrev p_nof : List Str := ["bits"]
theorem sc_nof : FnScope n_nof p_nof (defScope t_nof) := ⟨rfl, rfl, rfl, by decide +kernel, rfl, by decide +kernel, by decide +kernel⟩
abbrev t_cin : Stmt := inClass (topS 14) 0
abbrev n_cin : List Str := ["self", "space", "points", "known", "point", "number"]
abbrev p_cin : List Str := ["self", "space", "points"]
theorem sc_cin : FnScope n_cin p_cin (defScope t_cin) := ⟨rfl, rfl, rfl, by decide +kernel, rfl, by decide +kernel, by decide +kernel⟩
abbrev t_cmy : Stmt := inClass (topS 14) 3
abbrev n_cmy : List Str := ["self"]
abbrev p_cmy : List Str := ["self"]
theorem sc_cmy : FnScope n_cmy p_cmy (defScope t_cmy) := ⟨rfl, rfl, rfl, by decide +kernel, rfl, by decide +kernel, by decide +kernel⟩
abbrev t_cvw : Stmt := inClass (topS 14) 6
abbrev n_cvw : List Str := ["self", "fineness", "found", "room", "number"]
abbrev p_cvw : List Str := ["self", "fineness"]
theorem sc_cvw : FnScope n_cvw p_cvw (defScope t_cvw) := ⟨rfl, rfl, rfl, by decide +kernel, rfl, by decide +kernel, by decide +kernel⟩
abbrev t_cof : Stmt := topS 15
abbrev n_cof : List Str := ["space", "numbers", "number"]
abbrev p_cof : List Str := ["space", "numbers"]
theorem sc_cof : FnScope n_cof p_cof (defScope t_cof) := ⟨rfl, rfl, rfl, by decide +kernel, rfl, by decide +kernel, by decide +kernel⟩
abbrev t_cmp : Stmt := topS 17
abbrev n_cmp : List Str := ["space", "fineness", "view", "found", "size", "number", "count"]
abbrev p_cmp : List Str := ["space", "fineness", "view"]
theorem sc_cmp : FnScope n_cmp p_cmp (defScope t_cmp) := ⟨rfl, rfl, rfl, by decide +kernel, rfl, by decide +kernel, by decide +kernel⟩
abbrev t_alc : Stmt := topS 18
abbrev n_alc : List Str := ["space", "many"]
abbrev p_alc : List Str := ["space", "many"]
theorem sc_alc : FnScope n_alc p_alc (defScope t_alc) := ⟨rfl, rfl, rfl, by decide +kernel, rfl, by decide +kernel, by decide +kernel⟩
abbrev t_hal : Stmt := topS 19
abbrev n_hal : List Str := ["view", "finer", "known", "number", "count"]
abbrev p_hal : List Str := ["view", "finer"]
theorem sc_hal : FnScope n_hal p_hal (defScope t_hal) := ⟨rfl, rfl, rfl, by decide +kernel, rfl, by decide +kernel, by decide +kernel⟩
abbrev t_sah : Stmt := topS 20
abbrev n_sah : List Str := ["half", "count", "first", "less"]
abbrev p_sah : List Str := ["half", "count", "first"]
theorem sc_sah : FnScope n_sah p_sah (defScope t_sah) := ⟨rfl, rfl, rfl, by decide +kernel, rfl, by decide +kernel, by decide +kernel⟩
abbrev t_nar : Stmt := topS 21
abbrev n_nar : List Str := ["space", "fineness", "view", "finer", "whole", "half", "low", "share", "number", "count", "first", "rest"]
abbrev p_nar : List Str := ["space", "fineness", "view", "finer"]
theorem sc_nar : FnScope n_nar p_nar (defScope t_nar) := ⟨rfl, rfl, rfl, by decide +kernel, rfl, by decide +kernel, by decide +kernel⟩
abbrev t_fha : Stmt := topS 22
abbrev n_fha : List Str := ["half", "count", "rest", "left", "first"]
abbrev p_fha : List Str := ["half", "count", "rest", "left"]
theorem sc_fha : FnScope n_fha p_fha (defScope t_fha) := ⟨rfl, rfl, rfl, by decide +kernel, rfl, by decide +kernel, by decide +kernel⟩
abbrev t_fby : Stmt := topS 23
abbrev n_fby : List Str := ["space", "fineness", "view", "number", "half", "share", "found", "cell", "count", "rest", "first", "at", "part"]
abbrev p_fby : List Str := ["space", "fineness", "view", "number"]
theorem sc_fby : FnScope n_fby p_fby (defScope t_fby) := ⟨rfl, rfl, rfl, by decide +kernel, rfl, by decide +kernel, by decide +kernel⟩
abbrev t_sho : Stmt := topS 25
abbrev n_sho : List Str := ["low", "share", "whole", "many", "room", "first"]
abbrev p_sho : List Str := ["low", "share", "whole"]
theorem sc_sho : FnScope n_sho p_sho (defScope t_sho) := ⟨rfl, rfl, rfl, by decide +kernel, rfl, by decide +kernel, by decide +kernel⟩
abbrev t_lco : Stmt := topS 26
abbrev n_lco : List Str := ["cloud", "fineness", "low", "share", "whole"]
abbrev p_lco : List Str := ["cloud", "fineness"]
theorem sc_lco : FnScope n_lco p_lco (defScope t_lco) := ⟨rfl, rfl, rfl, by decide +kernel, rfl, by decide +kernel, by decide +kernel⟩
abbrev t_cod : Stmt := topS 27
abbrev n_cod : List Str := ["cloud", "fineness"]
abbrev p_cod : List Str := ["cloud"]
theorem sc_cod : FnScope n_cod p_cod (defScope t_cod) := ⟨rfl, rfl, rfl, by decide +kernel, rfl, by decide +kernel, by decide +kernel⟩
abbrev t_bgn : Stmt := topS 28
abbrev n_bgn : List Str := ["cloud", "fineness", "level", "bit"]
abbrev p_bgn : List Str := ["cloud", "fineness"]
theorem sc_bgn : FnScope n_bgn p_bgn (defScope t_bgn) := ⟨rfl, rfl, rfl, by decide +kernel, rfl, by decide +kernel, by decide +kernel⟩
abbrev t_lrd : Stmt := topS 29
abbrev n_lrd : List Str := ["space", "fineness", "view", "bits", "whole", "many", "first", "room", "number", "finer", "rest", "share", "low"]
abbrev p_lrd : List Str := ["space", "fineness", "view", "bits"]
theorem sc_lrd : FnScope n_lrd p_lrd (defScope t_lrd) := ⟨rfl, rfl, rfl, by decide +kernel, rfl, by decide +kernel, by decide +kernel⟩
abbrev t_rdc : Stmt := topS 30
abbrev n_rdc : List Str := ["space", "many", "bits", "fineness", "view", "used", "told"]
abbrev p_rdc : List Str := ["space", "many", "bits"]
theorem sc_rdc : FnScope n_rdc p_rdc (defScope t_rdc) := ⟨rfl, rfl, rfl, by decide +kernel, rfl, by decide +kernel, by decide +kernel⟩
abbrev t_cwh : Stmt := topS 31
abbrev n_cwh : List Str := ["space", "many", "bits", "fineness", "view", "used", "number", "count"]
abbrev p_cwh : List Str := ["space", "many", "bits"]
theorem sc_cwh : FnScope n_cwh p_cwh (defScope t_cwh) := ⟨rfl, rfl, rfl, by decide +kernel, rfl, by decide +kernel, by decide +kernel⟩
abbrev t_sin : Stmt := inClass (topS 35) 0
abbrev n_sin : List Str := ["self", "dimensions", "bits"]
abbrev p_sin : List Str := ["self", "dimensions", "bits"]
theorem sc_sin : FnScope n_sin p_sin (defScope t_sin) := ⟨rfl, rfl, rfl, by decide +kernel, rfl, by decide +kernel, by decide +kernel⟩
abbrev t_spt : Stmt := inClass (topS 35) 2
abbrev n_spt : List Str := ["self", "thing", "number"]
abbrev p_spt : List Str := ["self", "thing"]
theorem sc_spt : FnScope n_spt p_spt (defScope t_spt) := ⟨rfl, rfl, rfl, by decide +kernel, rfl, by decide +kernel, by decide +kernel⟩
abbrev t_sck : Stmt := inClass (topS 35) 3
abbrev n_sck : List Str := ["self", "thing"]
abbrev p_sck : List Str := ["self", "thing"]
theorem sc_sck : FnScope n_sck p_sck (defScope t_sck) := ⟨rfl, rfl, rfl, by decide +kernel, rfl, by decide +kernel, by decide +kernel⟩
abbrev t_swv : Stmt := inClass (topS 35) 4
abbrev n_swv : List Str := ["self", "point", "found", "half", "turn", "number"]
abbrev p_swv : List Str := ["self", "point"]
theorem sc_swv : FnScope n_swv p_swv (defScope t_swv) := ⟨rfl, rfl, rfl, by decide +kernel, rfl, by decide +kernel, by decide +kernel⟩
abbrev t_spo : Stmt := inClass (topS 35) 5
abbrev n_spo : List Str := ["self", "number", "found", "room", "turn", "axis"]
abbrev p_spo : List Str := ["self", "number"]
theorem sc_spo : FnScope n_spo p_spo (defScope t_spo) := ⟨rfl, rfl, rfl, by decide +kernel, rfl, by decide +kernel, by decide +kernel⟩
abbrev t_lnu : Stmt := topS 38
abbrev n_lnu : List Str := ["_law_script", "_law_index", "_law_cell", "_law_blend"]
abbrev p_lnu : List Str := ["_law_script", "_law_index"]
theorem sc_lnu : FnScope n_lnu p_lnu (defScope t_lnu) := ⟨rfl, rfl, rfl, by decide +kernel, rfl, by decide +kernel, by decide +kernel⟩
abbrev t_lta : Stmt := topS 39
abbrev n_lta : List Str := ["_law_draw", "_law_many"]
abbrev p_lta : List Str := ["_law_draw", "_law_many"]
theorem sc_lta : FnScope n_lta p_lta (defScope t_lta) := ⟨rfl, rfl, rfl, by decide +kernel, rfl, by decide +kernel, by decide +kernel⟩
abbrev t_lpi : Stmt := topS 40
abbrev n_lpi : List Str := ["_law_draw", "_law_items"]
abbrev p_lpi : List Str := ["_law_draw", "_law_items"]
theorem sc_lpi : FnScope n_lpi p_lpi (defScope t_lpi) := ⟨rfl, rfl, rfl, by decide +kernel, rfl, by decide +kernel, by decide +kernel⟩
abbrev t_lpw : Stmt := topS 42
abbrev n_lpw : List Str := ["_law_times", "_law_found", "_law_turn"]
abbrev p_lpw : List Str := ["_law_times"]
theorem sc_lpw : FnScope n_lpw p_lpw (defScope t_lpw) := ⟨rfl, rfl, rfl, by decide +kernel, rfl, by decide +kernel, by decide +kernel⟩
abbrev t_lsp : Stmt := topS 43
abbrev n_lsp : List Str := ["_law_draw", "_law_most", "_law_bits", "_law_found", "_law_dimensions"]
abbrev p_lsp : List Str := ["_law_draw", "_law_most"]
theorem sc_lsp : FnScope n_lsp p_lsp (defScope t_lsp) := ⟨rfl, rfl, rfl, by decide +kernel, rfl, by decide +kernel, by decide +kernel⟩
abbrev t_lpt : Stmt := topS 44
abbrev n_lpt : List Str := ["_law_draw", "_law_space_here", "_law_axis"]
abbrev p_lpt : List Str := ["_law_draw", "_law_space_here"]
theorem sc_lpt : FnScope n_lpt p_lpt (defScope t_lpt) := ⟨rfl, rfl, rfl, by decide +kernel, rfl, by decide +kernel, by decide +kernel⟩
abbrev t_lps : Stmt := topS 45
abbrev n_lps : List Str := ["_law_draw", "_law_space_here", "_law_most", "_law_found", "_law_turn", "_law_point_here"]
abbrev p_lps : List Str := ["_law_draw", "_law_space_here", "_law_most"]
theorem sc_lps : FnScope n_lps p_lps (defScope t_lps) := ⟨rfl, rfl, rfl, by decide +kernel, rfl, by decide +kernel, by decide +kernel⟩
abbrev t_lcl : Stmt := topS 46
abbrev n_lcl : List Str := ["_law_draw", "_law_space_here", "_law_most"]
abbrev p_lcl : List Str := ["_law_draw", "_law_space_here", "_law_most"]
theorem sc_lcl : FnScope n_lcl p_lcl (defScope t_lcl) := ⟨rfl, rfl, rfl, by decide +kernel, rfl, by decide +kernel, by decide +kernel⟩
abbrev t_lca : Stmt := topS 49
abbrev n_lca : List Str := ["_law_view", "_law_levels", "_law_found", "_law_size", "_law_cell", "_law_count"]
abbrev p_lca : List Str := ["_law_view", "_law_levels"]
theorem sc_lca : FnScope n_lca p_lca (defScope t_lca) := ⟨rfl, rfl, rfl, by decide +kernel, rfl, by decide +kernel, by decide +kernel⟩
abbrev t_lit : Stmt := topS 50
abbrev n_lit : List Str := ["_law_draw", "_law_cloud_here", "_law_code", "_law_fineness", "_law_space_here", "_law_bits", "_law_behind", "_law_read", "_law_late", "_law_view", "_law_used", "_law_whole", "_law_early", "_law_turn"]
abbrev p_lit : List Str := ["_law_draw", "_law_cloud_here", "_law_code", "_law_fineness"]
theorem sc_lit : FnScope n_lit p_lit (defScope t_lit) := ⟨rfl, rfl, rfl, by decide +kernel, rfl, by decide +kernel, by decide +kernel⟩
abbrev t_lio : Stmt := topS 51
abbrev n_lio : List Str := ["_law_space_here", "_law_many", "_law_bits", "_law_fineness", "_law_view", "_law_used", "_law_found", "bad"]
abbrev p_lio : List Str := ["_law_space_here", "_law_many", "_law_bits"]
theorem sc_lio : FnScope n_lio p_lio (defScope t_lio) := ⟨rfl, rfl, rfl, by decide +kernel, rfl, by decide +kernel, by decide +kernel⟩
abbrev t_lco2 : Stmt := topS 52
abbrev n_lco2 : List Str := ["_law_space_here", "_law_view", "_law_number_here", "_law_count"]
abbrev p_lco2 : List Str := ["_law_space_here", "_law_view"]
theorem sc_lco2 : FnScope n_lco2 p_lco2 (defScope t_lco2) := ⟨rfl, rfl, rfl, by decide +kernel, rfl, by decide +kernel, by decide +kernel⟩
abbrev t_law : Stmt := topS 53
abbrev n_law : List Str := ["_law_script", "_law_draw", "_law_turn", "_law_space_here", "_law_cloud_here", "_law_code", "_law_fineness", "_law_bits", "_law_joined", "_law_level", "_law_one", "_law_other", "_law_same", "_law_turned", "_law_wrong", "bad", "_law_at", "_law_bit"]
abbrev p_law : List Str := ["_law_script"]
theorem sc_law : FnScope n_law p_law (defScope t_law) := ⟨rfl, rfl, rfl, by decide +kernel, rfl, by decide +kernel, by decide +kernel⟩
/-- the built-in names that no def of the text takes -/
structure Bl (mg : Str → Option Value) : Prop where
  n_isinstance : mg "isinstance" = none
  n_int : mg "int" = none
  n_bool : mg "bool" = none
  n_range : mg "range" = none
  n_min : mg "min" = none
  n_max : mg "max" = none
  n_tuple : mg "tuple" = none
  n_sorted : mg "sorted" = none
  n_dict : mg "dict" = none
  n_sum : mg "sum" = none
  n_len : mg "len" = none
  n_all : mg "all" = none
  n_abs : mg "abs" = none
  n_enumerate : mg "enumerate" = none
end FW

set_option Elab.async false
set_option linter.all false
set_option maxRecDepth 100000
set_option maxHeartbeats 4000000
/-! is_whole, power, choices, bits_of, number_of. -/
namespace FW
open PySem L2 L2H FH FC
/-- a whole number that is not negative -/
abbrev iN (n : Nat) : V := .int (n : Int)
abbrev iL (l : List Nat) : List V := l.map iN
theorem nn_sub {a b : Nat} (h : b ≤ a) : ((a : Int) - (b : Int)) = ((a - b : Nat) : Int) := (Int.ofNat_sub h).symm
theorem lt62 {n : Nat} (h : n ≤ 1000000) : -(2 ^ 62) ≤ (n : Int) ∧ (n : Int) < 2 ^ 62 := by
  have e : (2 : Int) ^ 62 = 4611686018427387904 := by decide +kernel
  rw [e]
  omega
theorem lt64 {n : Nat} (h : n ≤ 1000000) : -(2 ^ 64) < (n : Int) ∧ (n : Int) < 2 ^ 64 := by
  have e : (2 : Int) ^ 64 = 18446744073709551616 := by decide +kernel
  rw [e]
  omega
section
variable {P : Program} {w : World} {K : PySem.W.Frag} {mg : Str → Option Value} {base : Heap}
def spIsw : Sp := fun vs H Q _ => ∃ i lo hi : Int, vs = [.int i, .int lo, .int hi] ∧ Q (.bl (decide (lo ≤ i ∧ i ≤ hi))) H
theorem q_isw {f : Addr} {fd : FuncData} (F : Fun K "is_whole" "is_whole" t_isw f fd) (B : Bl mg) : FnQ P w K mg base 1 f fd p_isw spIsw := by
  refine FnQ.of F sc_isw (fun vs H Q E h => ?_) (fun c cdv A outer s H vs Q E fx hr h => ?_)
  · obtain ⟨i, lo, hi, rfl, _⟩ := h
    rfl
  obtain ⟨i, lo, hi, rfl, q⟩ := h
  refine ⟨_, pss_one (ps_ret (pe_and (pe_callB call_isi (by rfl) B.n_isinstance (by decide +kernel) (pa_cons (pv 0) (pa_cons (pe_bltn (v := .ty "int") (by rfl) B.n_int (by decide +kernel) rfl) pa_nil)))
    (pe_and (pe_not (pe_callB call_isi (by rfl) B.n_isinstance (by decide +kernel) (pa_cons (pv 0) (pa_cons (pe_bltn (v := .ty "bool") (by rfl) B.n_bool (by decide +kernel) rfl) pa_nil)))) (pe_one (pe_chain op_le op_le (pv 1) (pv 0) (pv 2)))))), ?_⟩
  refine ⟨_, rfl, _, _, _, _, _, rfl, .ty _, .base (.int _), kit_ty (by decide +kernel), true, rfl, iteT ?_⟩
  refine ⟨_, rfl, _, _, _, _, _, rfl, .ty _, .base (.int _), kit_ty (r := false) (by decide +kernel), false, rfl, true, rfl, iteT ?_⟩
  refine ⟨_, rfl, _, rfl, _, _, rfl, rfl, _, rfl, ite2 (fun e => ?_) (fun e => ?_)⟩
  · have e1 : lo ≤ i := of_decide_eq_true e
    refine ⟨_, rfl, _, _, rfl, rfl, ?_⟩
    rw [show decide (lo ≤ i ∧ i ≤ hi) = decide (i ≤ hi) by simp [e1]] at q
    exact q
  · have e1 : ¬ lo ≤ i := fun z => e (decide_eq_true z)
    rw [show decide (lo ≤ i ∧ i ≤ hi) = false by simp [e1]] at q
    exact q
def spPow : Sp := fun vs H Q _ => ∃ n : Nat, vs = [iN n] ∧ n ≤ 1000000 ∧ Q (iN (2 ^ n)) H
theorem q_pow {f : Addr} {fd : FuncData} (F : Fun K "power" "power" t_pow f fd) (B : Bl mg) : FnQ P w K mg base 1 f fd p_pow spPow := by
  refine FnQ.of F sc_pow (fun vs H Q E h => ?_) (fun c cdv A outer s H vs Q E fx hr h => ?_)
  · obtain ⟨n, rfl, _⟩ := h
    rfl
  obtain ⟨n, rfl, hn, q⟩ := h
  refine ⟨_, pss_cons (ps_set (i := 1) sc_pow.nd rfl (.inl rfl) pe_int)
    (pss_cons (qs_for PassesOwn.never fx.nox (qi_range1 (by rfl) B.n_range (pa_cons (pv 0) pa_nil)) (pg_name (i := 2) sc_pow.nd rfl (.inl rfl)) (pss_one (ps_set (i := 1) sc_pow.nd rfl (.inl rfl) (pe_op op_mul (pv 1) pe_int))))
    (pss_one (ps_ret (pv 1)))), ?_⟩
  refine ⟨_, rfl, _, rfl, (lt62 hn).1, (lt62 hn).2, for_range (lo := 0) (fun i σ H1 => H1 = H ∧ ∃ y, σ = [some (iN n), some (iN (2 ^ i)), y]) ⟨rfl, _, rfl⟩ ?_ ?_⟩
  · rintro i σ H1 hi ⟨rfl, y, rfl⟩
    refine ⟨_, rfl, _, _, rfl, rfl, .inr (by decide), rfl, some (.int (0 + (i : Int))), ?_⟩
    rfl
  · rintro σ H1 ⟨rfl, y, rfl⟩
    exact ⟨_, rfl, q⟩
/-- the same of the law's own power -/
theorem q_lpw {f : Addr} {fd : FuncData} (F : Fun K "_law_power" "_law_power" t_lpw f fd) (B : Bl mg) : FnQ P w K mg base 1 f fd p_lpw spPow := by
  refine FnQ.of F sc_lpw (fun vs H Q E h => ?_) (fun c cdv A outer s H vs Q E fx hr h => ?_)
  · obtain ⟨n, rfl, _⟩ := h
    rfl
  obtain ⟨n, rfl, hn, q⟩ := h
  refine ⟨_, pss_cons (ps_set (i := 1) sc_lpw.nd rfl (.inl rfl) pe_int)
    (pss_cons (qs_for PassesOwn.never fx.nox (qi_range1 (by rfl) B.n_range (pa_cons (pv 0) pa_nil)) (pg_name (i := 2) sc_lpw.nd rfl (.inl rfl)) (pss_one (ps_set (i := 1) sc_lpw.nd rfl (.inl rfl) (pe_op op_mul (pv 1) pe_int))))
    (pss_one (ps_ret (pv 1)))), ?_⟩
  refine ⟨_, rfl, _, rfl, (lt62 hn).1, (lt62 hn).2, for_range (lo := 0) (fun i σ H1 => H1 = H ∧ ∃ y, σ = [some (iN n), some (iN (2 ^ i)), y]) ⟨rfl, _, rfl⟩ ?_ ?_⟩
  · rintro i σ H1 hi ⟨rfl, y, rfl⟩
    refine ⟨_, rfl, _, _, rfl, rfl, .inr (by decide), rfl, some (.int (0 + (i : Int))), ?_⟩
    rfl
  · rintro σ H1 ⟨rfl, y, rfl⟩
    exact ⟨_, rfl, q⟩
def spCho : Sp := fun vs H Q _ => ∃ n k : Nat, vs = [iN n, iN k] ∧ n ≤ 1000000 ∧ Q (iN (ch n k)) H
theorem q_cho {f : Addr} {fd : FuncData} (F : Fun K "choices" "choices" t_cho f fd) (B : Bl mg) : FnQ P w K mg base 1 f fd p_cho spCho := by
  refine FnQ.of F sc_cho (fun vs H Q E h => ?_) (fun c cdv A outer s H vs Q E fx hr h => ?_)
  · obtain ⟨n, k, rfl, _⟩ := h
    rfl
  obtain ⟨n, k, rfl, hn, q⟩ := h
  refine ⟨_, pss_cons (ps_if (pt_not (pt_chain op_le op_le pe_int (pv 1) (pv 0))) (pss_one (ps_ret pe_int)) pss_nil)
    (pss_cons (ps_set (i := 2) sc_cho.nd rfl (.inl rfl) pe_int)
    (pss_cons (qs_for PassesOwn.never fx.nox (qi_range1 (by rfl) B.n_range (pa_cons (pe_callB (cq_min2 fx.nox) (by rfl) B.n_min (by decide +kernel) (pa_cons (pv 1) (pa_cons (pe_op op_sub (pv 0) (pv 1)) pa_nil))) pa_nil)) (pg_name (i := 3) sc_cho.nd rfl (.inl rfl))
      (pss_one (ps_set (i := 2) sc_cho.nd rfl (.inl rfl) (pe_op op_fdivW (pe_op op_mul (pv 2) (pe_op op_sub (pv 0) (pv 3))) (pe_op op_add (pv 3) pe_int)))))
    (pss_one (ps_ret (pv 2))))), ?_⟩
  have back : ∀ {σ : L2.St} {H1 : Hp}, k ≤ n → H1 = H → ∀ y, σ = [some (iN n), some (iN k), some (iN (ch n (min k (n - k)))), y] → (tRet (tVar 2)) { nx := fun _ H' => Q .non H', rt := Q } σ H1 := by
    rintro σ H1 hk rfl y rfl
    refine ⟨_, rfl, ?_⟩
    rw [ch_min n k hk]
    exact q
  refine ⟨_, rfl, _, _, rfl, rfl, true, congrArg V.bl (decide_eq_true (Int.natCast_nonneg k)), iteT ⟨_, rfl, _, _, rfl, rfl, _, rfl, ?_⟩⟩
  by_cases hk : k ≤ n
  · rw [decide_eq_true (Int.ofNat_le.mpr hk)]
    refine iteF ⟨_, rfl, _, rfl, _, rfl, _, _, rfl, rfl, _, _, rfl, _, rfl, ?_⟩
    have e : (if (n : Int) - (k : Int) < (k : Int) then (n : Int) - (k : Int) else (k : Int)) = ((min k (n - k) : Nat) : Int) := by
      split <;> omega
    rw [e]
    have hm := Nat.min_le_right k (n - k)
    refine ⟨(lt62 (by omega)).1, (lt62 (by omega)).2, for_range (lo := 0) (fun i σ H1 => H1 = H ∧ ∃ y, σ = [some (iN n), some (iN k), some (iN (ch n i)), y]) ⟨rfl, none, ?_⟩ ?_ ?_⟩
    · rw [ch_zero]
      rfl
    · rintro i σ H1 hi ⟨rfl, y, rfl⟩
      have hi' : i < min k (n - k) := hi
      refine ⟨_, rfl, _, rfl, _, rfl, _, _, rfl, rfl, ((ch n i : Nat) : Int), ((n - i : Nat) : Int), rfl, congrArg V.int (by omega), .inr (lt64 (by omega)), _, rfl, _, _, rfl, rfl,
        ((ch n i * (n - i) : Nat) : Int), ((i + 1 : Nat) : Int), rfl, congrArg V.int (by omega), wide_div (b := 40) (by omega) (by show (i + 1) < 2 ^ 40; rw [show 2 ^ 40 = 1099511627776 by decide]; omega) (by decide) (by decide), rfl, some (.int (0 + (i : Int))), ?_⟩
      rw [← ch_turn n i]
      rfl
    · rintro σ H1 ⟨rfl, y, rfl⟩
      exact back hk rfl y rfl
  · rw [decide_eq_false (fun z => hk (Int.ofNat_le.mp z))]
    rw [ch_big n k (by omega)] at q
    exact iteT q
end
end FW

set_option Elab.async false
set_option linter.all false
set_option maxRecDepth 100000
set_option maxHeartbeats 4000000
/-! Heaps: views, spaces, clouds as objects; the walk of a view. -/
namespace FW
open PySem L2 L2H FH FC
theorem Same.tp {K : PySem.W.Frag} {H H' : Hp} {a : Addr} {xs : List V} (e : Same H H') (h : SqT K H a xs) : SqT K H' a xs := by
  rcases h with (h | ⟨o, h⟩) | h
  · exact .inl (.inl (e _ _ h))
  · exact .inl (.inr ⟨o, e _ _ h⟩)
  · exact .inr h
theorem same_new {H : Hp} {p : Addr} {o : HO} (h : H p = none) : Same H (upd H p o) := fun b x e => by
  rw [upd_ne (ne_of_none e h)]
  exact e
theorem same_at {H H1 : Hp} {p : Addr} {o : HO} (s : Same H H1) (h : H p = none) : Same H (upd H1 p o) := fun b x e => by
  rw [upd_ne (ne_of_none e h)]
  exact s _ _ e
/-- a tuple that knows its object -/
theorem TupF.sq {K : PySem.W.Frag} {H : Hp} {a : Addr} {xs : List V} (h : TupF H a xs) : SqT K H a xs := by
  obtain ⟨o, e, _⟩ := h
  exact .inl (.inr ⟨o, e⟩)
theorem TupF.same {H H' : Hp} {a : Addr} {xs : List V} (s : Same H H') (h : TupF H a xs) : TupF H' a xs := by
  obtain ⟨o, e, d⟩ := h
  exact ⟨o, s _ _ e, d⟩
/-- a tuple stands while a list is changed -/
theorem SqT.off {K : PySem.W.Frag} {H : Hp} {p D : Addr} {xs acc : List V} {o : HO} (e : H D = some (.lst acc)) (h : SqT K H p xs) : SqT K (upd H D o) p xs := by
  rcases h with (h | ⟨o', h⟩) | h
  · refine .inl (.inl ?_)
    rw [upd_ne]
    · exact h
    · rintro rfl
      rw [h] at e
      cases e
  · refine .inl (.inr ⟨o', ?_⟩)
    rw [upd_ne]
    · exact h
    · rintro rfl
      rw [h] at e
      cases e
  · exact .inr h
/-- the pairs of a view -/
abbrev Prs (K : PySem.W.Frag) (H : Hp) (ps : List Addr) (v : View) : Prop := PySem.Paired (fun p (e : Nat × Nat) => SqT K H p [iN e.1, iN e.2]) ps v
theorem Prs.same {K : PySem.W.Frag} {H H' : Hp} {ps : List Addr} {v : View} (s : Same H H') (h : Prs K H ps v) : Prs K H' ps v := L2.Paired.mapP h fun _ _ x => Same.tp s x
theorem prs_len {K : PySem.W.Frag} {H : Hp} : ∀ {ps : List Addr} {v : View}, Prs K H ps v → ps.length = v.length
  | _, _, .nil => rfl
  | _, _, .cons _ r => congrArg (· + 1) (prs_len r)
theorem prs_snoc {K : PySem.W.Frag} {H : Hp} {p : Addr} {e : Nat × Nat} (hp : SqT K H p [iN e.1, iN e.2]) : ∀ {ps : List Addr} {v : View}, Prs K H ps v → Prs K H (ps ++ [p]) (v ++ [e])
  | _, _, .nil => .cons hp .nil
  | _, _, .cons x r => .cons x (prs_snoc hp r)
/-- a view stands at a -/
def VwAt (K : PySem.W.Frag) (H : Hp) (a : Addr) (v : View) : Prop := ∃ ps : List Addr, SqT K H a (ps.map V.ref) ∧ Prs K H ps v
/-- a view that knows its object -/
def VwF (K : PySem.W.Frag) (H : Hp) (a : Addr) (v : View) : Prop := ∃ ps : List Addr, TupF H a (ps.map V.ref) ∧ Prs K H ps v
theorem VwF.at_ {K : PySem.W.Frag} {H : Hp} {a : Addr} {v : View} (h : VwF K H a v) : VwAt K H a v := by
  obtain ⟨ps, t, p⟩ := h
  exact ⟨ps, TupF.sq t, p⟩
theorem VwAt.same {K : PySem.W.Frag} {H H' : Hp} {a : Addr} {v : View} (s : Same H H') (h : VwAt K H a v) : VwAt K H' a v := by
  obtain ⟨ps, t, p⟩ := h
  exact ⟨ps, Same.tp s t, p.same s⟩
theorem VwF.same {K : PySem.W.Frag} {H H' : Hp} {a : Addr} {v : View} (s : Same H H') (h : VwF K H a v) : VwF K H' a v := by
  obtain ⟨ps, t, p⟩ := h
  exact ⟨ps, TupF.same s t, p.same s⟩
theorem prs_get {K : PySem.W.Frag} {H : Hp} : ∀ {ps : List Addr} {v : View}, Prs K H ps v → ∀ {i : Nat} {x : V}, (ps.map V.ref)[i]? = some x → ∃ p e, x = .ref p ∧ v[i]? = some e ∧ SqT K H p [iN e.1, iN e.2]
  | _, _, .nil, i, x, h => by cases h
  | _, _, .cons (a := p) (b := e) hp r, 0, x, h => ⟨p, e, (Option.some.inj h).symm, rfl, hp⟩
  | _, _, .cons _ r, i + 1, x, h => prs_get r (i := i) h
/-! ### the walk of a view -/
theorem VwAt.sq {K : PySem.W.Frag} {H : Hp} {a : Addr} {v : View} (h : VwAt K H a v) : ∃ xs, SqT K H a xs := by
  obtain ⟨ps, t, _⟩ := h
  exact ⟨_, t⟩
/-- for a, b in view -/
theorem for_view {K : PySem.W.Frag} {a : Addr} {v : View} {ja jb : Nat} {tb : TS} {D : Ends} {σ : L2.St} {H H0 : Hp} (hv : VwAt K H0 a v) (Pv : Nat → L2.St → Hp → Prop) (h0 : Pv 0 σ H) (hl : ∀ i σ H', Pv i σ H' → Same H0 H')
    (hs : ∀ (i : Nat) (e : Nat × Nat) (σ : L2.St) (H' : Hp), v[i]? = some e → Pv i σ H' → tb { nx := Pv (i + 1), rt := D.rt, bk := D.nx, ct := Pv (i + 1) } ((σ.set ja (some (iN e.1))).set jb (some (iN e.2))) H')
    (hd : ∀ σ H', Pv v.length σ H' → D.nx σ H') : ∃ W : Nat → Nat → L2.St → Hp → Prop, (∃ m, W 0 m σ H) ∧ ∀ (i m : Nat) (σ : L2.St) (H : Hp), W i m σ H → (Itt K a).stop i H ∧ D.nx σ H ∨ (Itt K a).go i H ∧ ∃ N : L2.St → Hp → Prop, (∀ (σ' : L2.St) (H' : Hp), N σ' H' → ∃ m', m' < m ∧ W (i + 1) m' σ' H') ∧
      ∀ (x : V) (H' : Hp), (Itt K a).yld i H x H' → gTup K 2 (gCons (gName ja) (gCons (gName jb) gNil)) x σ H' fun σ2 H2 => tb { nx := N, rt := D.rt, bk := D.nx, ct := N } σ2 H2 := by
  obtain ⟨ps, ht, hp⟩ := id hv
  refine for_tup (xs := ps.map V.ref) Pv h0 (fun i σ H' _ h => Same.tp (hl _ _ _ h) ht) (fun i x σ H' hi h => ?_) (fun σ H' h => ?_)
  · obtain ⟨p, e, rfl, ev, he⟩ := prs_get (hp.same (hl _ _ _ h)) hi
    exact ⟨p, _, rfl, he, rfl, _, _, rfl, _, _, rfl, rfl, hs i e σ H' ev h⟩
  · rw [List.length_map, prs_len hp] at h
    exact hd _ _ h
/-- [.. for a, b in view] -/
theorem lc_view {K : PySem.W.Frag} {a : Addr} {v : View} {ja jb : Nat} {te : TE} {vs : List Nat} {σ : L2.St} {H1 H0 : Hp} {D : Addr} {Qd : Hp → Prop} (hv : VwAt K H0 a v) (nD : H1 D = none) (Pv : Nat → Hp → Prop) (hw : ∀ x y : V, wipe (((wipe σ vs).set ja (some x)).set jb (some y)) vs = wipe σ vs)
    (h0 : Pv 0 (upd H1 D (.lst []))) (hl : ∀ i H', Pv i H' → Same H0 H')
    (hs : ∀ (i : Nat) (e : Nat × Nat) (H' : Hp), v[i]? = some e → Pv i H' → te (((wipe σ vs).set ja (some (iN e.1))).set jb (some (iN e.2))) H' fun y H4 => ∃ acc, H4 D = some (.lst acc) ∧ acc.length < sizeLine ∧ Pv (i + 1) (upd H4 D (.lst (acc ++ [y]))))
    (hd : ∀ H', Pv v.length H' → Qd H') : ∃ W : Nat → Nat → Hp → Prop, (∃ m, W 0 m (upd H1 D (.lst []))) ∧ ∀ (i m : Nat) (H : Hp), W i m H → (Itt K a).stop i H ∧ Qd H ∨ (Itt K a).go i H ∧ ∃ Nx : Hp → Prop, (∀ (H' : Hp), Nx H' → ∃ m', m' < m ∧ W (i + 1) m' H') ∧
      ∀ (x : V) (H' : Hp), (Itt K a).yld i H x H' → gTup K 2 (gCons (gName ja) (gCons (gName jb) gNil)) x (wipe σ vs) H' fun σ2 H2 => wipe σ2 vs = wipe σ vs ∧ tYes σ2 H2 fun b H3 => if b = true then te σ2 H3 fun y H4 => ∃ acc, H4 D = some (.lst acc) ∧ acc.length < sizeLine ∧ Nx (upd H4 D (.lst (acc ++ [y]))) else Nx H3 := by
  obtain ⟨ps, ht, hp⟩ := id hv
  refine lc_tup (xs := ps.map V.ref) Pv h0 (fun i H' _ h => Same.tp (hl _ _ h) ht) (fun i x H' hi h => ?_) (fun H' h => ?_)
  · obtain ⟨p, e, rfl, ev, he⟩ := prs_get (hp.same (hl _ _ h)) hi
    refine ⟨p, _, rfl, he, rfl, _, _, rfl, _, _, rfl, rfl, hw _ _, ?_⟩
    exact hs i e H' ev h
  · rw [List.length_map, prs_len hp] at h
    exact hd _ h
/-- [.. for a, b in view if t] -/
theorem lc_viewT {K : PySem.W.Frag} {a : Addr} {v : View} {ja jb : Nat} {tt : TT} {te : TE} {vs : List Nat} {σ : L2.St} {H1 H0 : Hp} {D : Addr} {Qd : Hp → Prop} (hv : VwAt K H0 a v) (nD : H1 D = none) (Pv : Nat → Hp → Prop) (hw : ∀ x y : V, wipe (((wipe σ vs).set ja (some x)).set jb (some y)) vs = wipe σ vs)
    (h0 : Pv 0 (upd H1 D (.lst []))) (hl : ∀ i H', Pv i H' → Same H0 H')
    (hs : ∀ (i : Nat) (e : Nat × Nat) (H' : Hp), v[i]? = some e → Pv i H' → tt (((wipe σ vs).set ja (some (iN e.1))).set jb (some (iN e.2))) H' fun b H3 => if b = true then te (((wipe σ vs).set ja (some (iN e.1))).set jb (some (iN e.2))) H3 fun y H4 => ∃ acc, H4 D = some (.lst acc) ∧ acc.length < sizeLine ∧ Pv (i + 1) (upd H4 D (.lst (acc ++ [y]))) else Pv (i + 1) H3)
    (hd : ∀ H', Pv v.length H' → Qd H') : ∃ W : Nat → Nat → Hp → Prop, (∃ m, W 0 m (upd H1 D (.lst []))) ∧ ∀ (i m : Nat) (H : Hp), W i m H → (Itt K a).stop i H ∧ Qd H ∨ (Itt K a).go i H ∧ ∃ Nx : Hp → Prop, (∀ (H' : Hp), Nx H' → ∃ m', m' < m ∧ W (i + 1) m' H') ∧
      ∀ (x : V) (H' : Hp), (Itt K a).yld i H x H' → gTup K 2 (gCons (gName ja) (gCons (gName jb) gNil)) x (wipe σ vs) H' fun σ2 H2 => wipe σ2 vs = wipe σ vs ∧ tt σ2 H2 fun b H3 => if b = true then te σ2 H3 fun y H4 => ∃ acc, H4 D = some (.lst acc) ∧ acc.length < sizeLine ∧ Nx (upd H4 D (.lst (acc ++ [y]))) else Nx H3 := by
  obtain ⟨ps, ht, hp⟩ := id hv
  refine lc_tup (xs := ps.map V.ref) Pv h0 (fun i H' _ h => Same.tp (hl _ _ h) ht) (fun i x H' hi h => ?_) (fun H' h => ?_)
  · obtain ⟨p, e, rfl, ev, he⟩ := prs_get (hp.same (hl _ _ h)) hi
    refine ⟨p, _, rfl, he, rfl, _, _, rfl, _, _, rfl, rfl, hw _ _, ?_⟩
    exact hs i e H' ev h
  · rw [List.length_map, prs_len hp] at h
    exact hd _ h
/-- an attribute, where the written part is named -/
theorem pe_fldK {X : Cx} {e : Expr} {f : Str} {pos : Pos} {ta : TE} {K : PySem.W.Frag} (hK : X.K = K) (ha : PE X e ta) (hb : attributeBase e f X.env (eval e X.env) = eval e X.env) : PE X (.Attribute e f pos) (tFld K ta f) := by
  subst hK
  exact pe_fld ha hb
theorem pe_ixT {X : Cx} {a b : Expr} {ta tb : TE} {pos : Pos} {K : PySem.W.Frag} (hK : X.K = K) (ha : PE X a ta) (hb : PE X b tb) (hp : PlainIx b) : PE X (.Subscript a b pos) (tOp (rIxT K) ta tb) := by
  subst hK
  exact pe_ix ix_tup ha hb hp
theorem pe_ixL {X : Cx} {a b : Expr} {ta tb : TE} {pos : Pos} {K : PySem.W.Frag} (hK : X.K = K) (ha : PE X a ta) (hb : PE X b tb) (hp : PlainIx b) : PE X (.Subscript a b pos) (tOp (rIxL K) ta tb) := by
  subst hK
  exact pe_ix ix_list ha hb hp
end FW

set_option Elab.async false
set_option linter.all false
set_option maxRecDepth 100000
set_option maxHeartbeats 4000000
/-! bits_of, number_of, completions, all_clouds, share_ahead. -/
namespace FW
open PySem L2 L2H FH FC
theorem bitsOf_front : ∀ (i n : Nat), bitsOf n (i + 1) = (n / 2 ^ i % 2) :: bitsOf n i
  | 0, n => by simp [bitsOf]
  | i + 1, n => by
    show bitsOf (n / 2) (i + 1) ++ [n % 2] = _
    rw [bitsOf_front i (n / 2), Nat.div_div_eq_div_mul, Nat.mul_comm 2, ← Nat.pow_succ]
    rfl
theorem W_take_succ {s : Nat} {v : View} {i : Nat} {e : Nat × Nat} (h : v[i]? = some e) : W s (v.take (i + 1)) = W s (v.take i) * ch s e.2 := by
  rw [List.take_add_one, h, W_append]
  show W s (v.take i) * (ch s e.2 * 1) = _
  rw [Nat.mul_one]
theorem tot_take (v : View) (i : Nat) : tot (v.take i) ≤ tot v := by
  have := tot_append (v.take i) (v.drop i)
  rw [List.take_append_drop] at this
  omega
theorem tot_get {v : View} {i : Nat} {e : Nat × Nat} (h : v[i]? = some e) : e.2 ≤ tot v := by
  have a := tot_take v (i + 1)
  rw [List.take_add_one, h, tot_append] at a
  have : tot (some e).toList = e.2 := by show e.2 + 0 = e.2; omega
  omega
theorem pow_lt81 {s t : Nat} (hs : s ≤ 1024) (ht : t ≤ 8) : s ^ t < 2 ^ 81 := by
  have a : s ^ t ≤ 1024 ^ t := Nat.pow_le_pow_left hs t
  have b : 1024 ^ t ≤ 1024 ^ 8 := Nat.pow_le_pow_right (by decide) ht
  have c : (1024 : Nat) ^ 8 < 2 ^ 81 := by decide +kernel
  omega
theorem W_lt81 {s : Nat} {v : View} (hs : s ≤ 1024) (ht : tot v ≤ 8) : W s v < 2 ^ 81 := Nat.lt_of_le_of_lt (W_le s v) (pow_lt81 hs ht)
theorem ch_lt81 {n k : Nat} (hs : n ≤ 1024) (ht : k ≤ 8) : ch n k < 2 ^ 81 := Nat.lt_of_le_of_lt (ch_pow n k) (pow_lt81 hs ht)
theorem pow_le1024 {d : Nat} (h : d ≤ 10) : 2 ^ d ≤ 1024 := Nat.pow_le_pow_right (n := 2) (by decide) h
theorem sum_sa (h c : Nat) : ∀ t : Nat, (((List.range t).map fun l => ((ch h l * ch h (c - l) : Nat) : Int))).sum = ((sa h c t : Nat) : Int)
  | 0 => rfl
  | t + 1 => by
    rw [List.range_succ, List.map_append, List.sum_append, sum_sa h c t, sa_succ]
    simp
/-! ### objects -/
/-- a space's attributes -/
def fldsS (dm B : Nat) : List (Str × V) := [("dimensions", iN dm), ("bits", iN B), ("depth", iN (dm * B)), ("side", iN (2 ^ B))]
def SpAt (CS : Addr) (H : Hp) (p : Addr) (dm B : Nat) : Prop := ∃ dx, H p = some (.ins CS dx (fldsS dm B))
theorem SpAt.same {CS : Addr} {H H' : Hp} {p : Addr} {dm B : Nat} (s : Same H H') (h : SpAt CS H p dm B) : SpAt CS H' p dm B := by
  obtain ⟨dx, e⟩ := h
  exact ⟨dx, s _ _ e⟩
theorem fS_depth (dm B : Nat) : (fldsS dm B).lookup ("depth" : Str) = some (iN (dm * B)) := rfl
theorem fS_dim (dm B : Nat) : (fldsS dm B).lookup ("dimensions" : Str) = some (iN dm) := rfl
theorem fS_bits (dm B : Nat) : (fldsS dm B).lookup ("bits" : Str) = some (iN B) := rfl
theorem fS_side (dm B : Nat) : (fldsS dm B).lookup ("side" : Str) = some (iN (2 ^ B)) := rfl
/-- a cloud's attributes -/
def fldsC (sp ra : Addr) : List (Str × V) := [("space", .ref sp), ("row", .ref ra)]
theorem fC_space (sp ra : Addr) : (fldsC sp ra).lookup ("space" : Str) = some (.ref sp) := rfl
theorem fC_row (sp ra : Addr) : (fldsC sp ra).lookup ("row" : Str) = some (.ref ra) := rfl
structure TxS (K : PySem.W.Frag) (CS : Addr) : Prop where
  cl : Cls K CS
  nDim : NoAttr K CS "dimensions"
  nBits : NoAttr K CS "bits"
  nDepth : NoAttr K CS "depth"
  nSide : NoAttr K CS "side"
structure TxC (K : PySem.W.Frag) (CC : Addr) : Prop where
  cl : Cls K CC
  nSp : NoAttr K CC "space"
  nRow : NoAttr K CC "row"
section
variable {P : Program} {w : World} {K : PySem.W.Frag} {mg : Str → Option Value} {base : Heap} {CS CC : Addr}
def spBof : Sp := fun vs H Q _ => ∃ n m : Nat, vs = [iN n, iN m] ∧ m ≤ 1000 ∧ ∀ H' p, Same H H' → H' p = some (.tup (iL (bitsOf n m))) → Q (.ref p) H'
theorem q_bof {f : Addr} {fd : FuncData} (F : Fun K "bits_of" "bits_of" t_bof f fd) (B : Bl mg) : FnQ P w K mg base 1 f fd p_bof spBof := by
  refine FnQ.of F sc_bof (fun vs H Q E h => ?_) (fun c cdv A outer s H vs Q E fx hr h => ?_)
  · obtain ⟨n, m, rfl, _⟩ := h
    rfl
  obtain ⟨n, m, rfl, hm, q⟩ := h
  refine ⟨_, pss_cons (ps_set (i := 2) sc_bof.nd rfl (.inl rfl) (pe_lst pa_nil))
    (pss_cons (qs_for PassesOwn.never fx.nox (qi_range1 (by rfl) B.n_range (pa_cons (pv 1) pa_nil)) (pg_name (i := 3) sc_bof.nd rfl (.inl rfl))
      (pss_cons (ps_expr (pe_bm PySem.F.plainAttrs_list PySem.F.slot_list_append PySem.F.type_list_append mt_append (pv 2) (pa_cons (pe_op op_mod (pe_callTy call_int1 (by rfl) B.n_int (by decide +kernel) (pa_cons (pv 0) pa_nil)) pe_int) pa_nil)))
      (pss_one (ps_set (i := 0) sc_bof.nd rfl (.inl rfl) (pe_op op_fdiv (pv 0) pe_int)))))
    (pss_one (ps_ret (pe_callTy call_tuple_of (by rfl) B.n_tuple (by decide +kernel) (pa_cons (pe_revL (pv 2)) pa_nil))))), ?_⟩
  refine ⟨Nat.zero_le _, fun o no => ?_⟩
  refine ⟨_, rfl, _, rfl, (lt62 (by omega)).1, (lt62 (by omega)).2, for_range (lo := 0) (fun i σ H1 => Same H H1 ∧ H1 o = some (.lst (iL (bitsOf n i).reverse)) ∧ ∃ y, σ = [some (iN (n / 2 ^ i)), some (iN m), some (.ref o), y])
    ⟨same_new no, upd_same, none, ?_⟩ ?_ ?_⟩
  · rw [Nat.pow_zero, Nat.div_one]
    rfl
  · rintro i σ H1 hi ⟨s1, e1, y, rfl⟩
    have hi' : i < m := hi
    refine ⟨.ref o, rfl, .inl ⟨rfl, _, SqL.of e1⟩, _, rfl, .inl ⟨_, rfl, _, _, rfl, rfl, (by show (0 : Int) < 2; decide), o, _, _, rfl, rfl, e1, ?_, ?_⟩⟩
    · rw [List.length_map, List.length_reverse, bitsOf_len]
      exact small1000 (by omega)
    · refine ⟨_, rfl, _, _, rfl, rfl, ⟨by decide, by decide⟩, same_at s1 no, ?_, some (.int (0 + (i : Int))), ?_⟩
      · rw [upd_same, bitsOf_front, List.reverse_cons]
        unfold iL
        rw [List.map_append]
        rfl
      · rw [Nat.pow_succ, ← Nat.div_div_eq_div_mul]
        rfl
  · rintro σ H1 ⟨s1, e1, y, rfl⟩
    refine ⟨.ref o, rfl, o, _, rfl, SqL.of e1, fun r nr => ⟨r, _, rfl, .inl ⟨SqL.of upd_same, fun l nl => ?_⟩⟩⟩
    have e : (iL (bitsOf n (m : Int).toNat).reverse).reverse = iL (bitsOf n m) := by
      unfold iL
      rw [List.map_reverse, List.reverse_reverse]
      rfl
    refine q _ l (same_at (same_at s1 (s1.free nr)) ((same_at (o := .lst _) s1 (s1.free nr)).free nl)) ?_
    rw [upd_same, e]
def spNof (K : PySem.W.Frag) : Sp := fun vs H Q _ => ∃ (a : Addr) (l : List Nat), vs = [.ref a] ∧ SqT K H a (iL l) ∧ Q (iN (numOf l)) H
theorem q_nof {f : Addr} {fd : FuncData} (F : Fun K "number_of" "number_of" t_nof f fd) (B : Bl mg) : FnQ P w K mg base 1 f fd p_nof (spNof K) := by
  refine FnQ.of F sc_nof (fun vs H Q E h => ?_) (fun c cdv A outer s H vs Q E fx hr h => ?_)
  · obtain ⟨a, l, rfl, _⟩ := h
    rfl
  obtain ⟨a, l, rfl, ha, q⟩ := h
  refine ⟨_, pss_cons (ps_set (i := 1) sc_nof.nd rfl (.inl rfl) pe_int)
    (pss_cons (qs_for PassesOwn.never fx.nox (qi_tup (pv 0)) (pg_name (i := 2) sc_nof.nd rfl (.inl rfl)) (pss_one (ps_set (i := 1) sc_nof.nd rfl (.inl rfl) (pe_op op_add (pe_op op_mul (pv 1) pe_int) (pv 2)))))
    (pss_one (ps_ret (pv 1)))), ?_⟩
  refine ⟨_, rfl, a, rfl, ⟨_, ha⟩, for_tup (xs := iL l) (fun i σ H1 => H1 = H ∧ ∃ y, σ = [some (.ref a), some (iN (numOf (l.take i))), y]) ⟨rfl, none, rfl⟩ (fun i σ H1 _ h => h.1 ▸ ha) ?_ ?_⟩
  · rintro i x σ H1 hi ⟨rfl, y, rfl⟩
    rw [List.getElem?_map] at hi
    obtain ⟨b, hb, rfl⟩ : ∃ b, l[i]? = some b ∧ x = iN b := by
      cases e : l[i]? with
      | none => rw [e] at hi; cases hi
      | some b => rw [e] at hi; exact ⟨b, rfl, (Option.some.inj hi).symm⟩
    refine ⟨_, rfl, _, _, rfl, rfl, .inr (by decide), _, rfl, _, _, rfl, rfl, rfl, some (iN b), ?_⟩
    rw [List.take_add_one, hb]
    show _ = [some (V.ref a), some (iN (numOf (l.take i ++ [b]))), some (iN b)]
    rw [numOf_snoc]
    rfl
  · rintro σ H1 ⟨rfl, y, rfl⟩
    refine ⟨_, rfl, ?_⟩
    rw [List.length_map, List.take_length]
    exact q

def spCmp (K : PySem.W.Frag) (CS : Addr) : Sp := fun vs H Q _ => ∃ (p : Addr) (dm B f : Nat) (a : Addr) (v : View), vs = [.ref p, iN f, .ref a] ∧ SpAt CS H p dm B ∧ dm * B ≤ 10 ∧ f ≤ dm * B ∧ VwAt K H a v ∧ tot v ≤ 8 ∧ Q (iN (W (2 ^ (dm * B - f)) v)) H
theorem q_cmp {f fP fH : Addr} {fd fdP fdH : FuncData} (F : Fun K "completions" "completions" t_cmp f fd) (TS : TxS K CS)
    (GP : FnQ P w K mg base 1 fP fdP p_pow spPow) (gP : mg "power" = some (.ref fP)) (kP : PySem.W.keepIn K (.ref fP) = true) (bP : Binds K fdP p_pow [])
    (GH : FnQ P w K mg base 1 fH fdH p_cho spCho) (gH : mg "choices" = some (.ref fH)) (kH : PySem.W.keepIn K (.ref fH) = true) (bH : Binds K fdH p_cho []) : FnQ P w K mg base 2 f fd p_cmp (spCmp K CS) := by
  refine FnQ.of F sc_cmp (fun vs H Q E h => ?_) (fun c cdv A outer s H vs Q E fx hr h => ?_)
  · obtain ⟨p, dm, B, f, a, v, rfl, _⟩ := h
    rfl
  obtain ⟨p, dm, B, f, a, v, rfl, hp, hD, hf, hv, ht, q⟩ := h
  refine ⟨_, pss_cons (qs_par (i := 3) (j := 4) fx.nox sc_cmp.nd rfl rfl (by decide) rfl rfl (pa_cons pe_int (pa_cons (qe_call GP hr fx.nox (by rfl) gP kP bP (pa_cons (pe_op op_sub (pe_fld (pv 0) rfl) (pv 1)) pa_nil)) pa_nil)) (by rfl))
    (pss_cons (qs_for PassesOwn.never fx.nox (qi_tup (pv 2)) (qg_tup fx.nox (pgs_cons (pg_name (i := 5) sc_cmp.nd rfl (.inl rfl)) (pgs_cons (pg_name (i := 6) sc_cmp.nd rfl (.inl rfl)) pgs_nil)))
      (pss_one (ps_set (i := 3) sc_cmp.nd rfl (.inl rfl) (pe_op op_mulW (pv 3) (qe_call GH hr fx.nox (by rfl) gH kH bH (pa_cons (pv 4) (pa_cons (pv 6) pa_nil)))))))
    (pss_one (ps_ret (pv 3)))), ?_⟩
  obtain ⟨dx, ep⟩ := id hp
  have hs := pow_le1024 (show dm * B - f ≤ 10 by omega)
  refine ⟨_, rfl, p, CS, dx, _, _, rfl, ep, TS.cl, TS.nDepth, fS_depth _ _, _, rfl, _, _, rfl, rfl, dm * B - f, ?_, by omega, _, _, rfl, ?_⟩
  · exact congrArg (fun z => [V.int z]) (nn_sub hf)
  refine ⟨_, rfl, a, rfl, hv.sq, for_view (ja := 5) (jb := 6) hv (fun i σ H1 => H1 = H ∧ ∃ y z, σ = [some (.ref p), some (iN f), some (.ref a), some (iN (W (2 ^ (dm * B - f)) (v.take i))), some (iN (2 ^ (dm * B - f))), y, z]) ⟨rfl, none, none, rfl⟩ (fun i σ H' h => h.1 ▸ Same.refl _) ?_ ?_⟩
  · rintro i e σ H1 hi ⟨rfl, y, z, rfl⟩
    refine ⟨_, rfl, _, rfl, _, rfl, _, _, rfl, by omega, _, _, rfl, rfl, wide_mul (a := 81) (b := 81) (W_lt81 hs (Nat.le_trans (tot_take v i) ht)) (ch_lt81 hs (Nat.le_trans (tot_get hi) ht)) (by decide) (by decide) (by decide), rfl, some (iN e.1), some (iN e.2), ?_⟩
    rw [W_take_succ hi]
    rfl
  · rintro σ H1 ⟨rfl, y, z, rfl⟩
    refine ⟨_, rfl, ?_⟩
    rw [List.take_length]
    exact q
def spAlc (CS : Addr) : Sp := fun vs H Q _ => ∃ (p : Addr) (dm B m : Nat), vs = [.ref p, iN m] ∧ SpAt CS H p dm B ∧ dm * B ≤ 10 ∧ Q (iN (ch (2 ^ (dm * B)) m)) H
theorem q_alc {f fP fH : Addr} {fd fdP fdH : FuncData} (F : Fun K "all_clouds" "all_clouds" t_alc f fd) (TS : TxS K CS)
    (GP : FnQ P w K mg base 1 fP fdP p_pow spPow) (gP : mg "power" = some (.ref fP)) (kP : PySem.W.keepIn K (.ref fP) = true) (bP : Binds K fdP p_pow [])
    (GH : FnQ P w K mg base 1 fH fdH p_cho spCho) (gH : mg "choices" = some (.ref fH)) (kH : PySem.W.keepIn K (.ref fH) = true) (bH : Binds K fdH p_cho []) : FnQ P w K mg base 2 f fd p_alc (spAlc CS) := by
  refine FnQ.of F sc_alc (fun vs H Q E h => ?_) (fun c cdv A outer s H vs Q E fx hr h => ?_)
  · obtain ⟨p, dm, B, m, rfl, _⟩ := h
    rfl
  obtain ⟨p, dm, B, m, rfl, hp, hD, q⟩ := h
  refine ⟨_, pss_one (ps_ret (qe_call GH hr fx.nox (by rfl) gH kH bH (pa_cons (qe_call GP hr fx.nox (by rfl) gP kP bP (pa_cons (pe_fld (pv 0) rfl) pa_nil)) (pa_cons (pv 1) pa_nil)))), ?_⟩
  obtain ⟨dx, ep⟩ := id hp
  have hs := pow_le1024 hD
  exact ⟨_, rfl, p, CS, dx, _, _, rfl, ep, TS.cl, TS.nDepth, fS_depth _ _, _, rfl, by omega, _, rfl, _, _, rfl, by omega, q⟩
def spSah : Sp := fun vs H Q _ => ∃ h c t : Nat, vs = [iN h, iN c, iN t] ∧ h ≤ 1024 ∧ c ≤ 8 ∧ t ≤ c ∧ ∀ H', Same H H' → Q (iN (sa h c t)) H'
theorem q_sah {f fH : Addr} {fd fdH : FuncData} (F : Fun K "share_ahead" "share_ahead" t_sah f fd) (B : Bl mg)
    (GH : FnQ P w K mg base 1 fH fdH p_cho spCho) (gH : mg "choices" = some (.ref fH)) (kH : PySem.W.keepIn K (.ref fH) = true) (bH : Binds K fdH p_cho []) : FnQ P w K mg base 2 f fd p_sah spSah := by
  refine FnQ.of F sc_sah (fun vs H Q E h => ?_) (fun c cdv A outer s H vs Q E fx hr h => ?_)
  · obtain ⟨h, c, t, rfl, _⟩ := h
    rfl
  obtain ⟨h, c, t, rfl, hh, hc, ht, q⟩ := h
  refine ⟨_, pss_one (ps_ret (pe_callB (cq_sum fx.nox) (by rfl) B.n_sum (by decide +kernel) (pa_cons
    (qe_lc (own := [("less", 3)]) (g := gName 3) (tt := tYes) fx.nox sc_sah.nd (qi_range1 (by rfl) B.n_range (pa_cons (pv 2) pa_nil)) (blkOk_by (N := n_sah) (sc := defScope t_sah) (by decide +kernel)) (fun _ _ _ _ _ => pg_name (i := 3) sc_sah.nd rfl (.inl rfl)) (fun _ _ _ _ _ => pts_nil)
      (fun _ _ _ _ _ => pe_op op_mulW (qe_call GH hr fx.nox.blk (by rfl) gH kH bH (pa_cons (pv 0) (pa_cons (pv 3) pa_nil))) (qe_call GH hr fx.nox.blk (by rfl) gH kH bH (pa_cons (pv 0) (pa_cons (pe_op op_sub (pv 1) (pv 3)) pa_nil))))) pa_nil))), ?_⟩
  refine ⟨_, rfl, _, rfl, (lt62 (by omega)).1, (lt62 (by omega)).2, fun D nD => lc_range (lo := 0) (fun i H1 => Same H H1 ∧ H1 D = some (.lst (iL ((List.range i).map fun l => ch h l * ch h (c - l))))) ⟨same_new nD, upd_same⟩ ?_ ?_⟩
  · rintro i H1 hi ⟨s1, e1⟩
    have hi' : i < t := hi
    refine ⟨rfl, _, rfl, _, rfl, h, i, ?_, by omega, _, rfl, _, rfl, _, rfl, _, _, rfl, rfl, h, c - i, ?_, by omega, _, _, rfl, rfl, wide_mul (a := 81) (b := 81) (ch_lt81 hh (by omega)) (ch_lt81 hh (by omega)) (by decide) (by decide) (by decide), _, e1, ?_, same_at s1 nD, ?_⟩
    · exact congrArg (fun z => [iN h, V.int z]) (by omega)
    · exact congrArg (fun z => [iN h, V.int z]) (by omega)
    · rw [List.length_map, List.length_map, List.length_range]
      exact small1000 (by omega)
    · rw [upd_same, List.range_succ, List.map_append]
      unfold iL
      rw [List.map_append]
      rfl
  · rintro H1 ⟨s1, e1⟩
    refine ⟨D, ((List.range t).map fun l => ((ch h l * ch h (c - l) : Nat) : Int)), rfl, SqL.of ?_, ?_⟩
    · refine Eq.trans e1 ?_
      unfold iL
      rw [List.map_map, List.map_map]
      rfl
    · rw [sum_sa]
      exact q H1 s1
end
end FW

set_option Elab.async false
set_option linter.all false
set_option maxRecDepth 100000
set_option maxHeartbeats 4000000
/-! halved, narrowed. -/
namespace FW
open PySem L2 L2H FH FC
theorem hu1 {A : Around} {k : Nat} (hr : RoomH k A) : A.units + 1 < cLine := by have := hr.un; omega
theorem hu65 {A : Around} {k : Nat} (hr : RoomH k A) : A.units + 65 < cLine := by have := hr.un; omega
theorem hu64 {A : Around} {k : Nat} (hr : RoomH k A) : A.units + 64 < cLine := by have := hr.un; omega
/-! ### a dict of a view -/
abbrev kN (n : Nat) : Key := Sum.inl (n : Int)
def kvs (v : View) : List (Key × V) := v.map fun e => (kN e.1, iN e.2)
theorem kN_inj {a b : Nat} (h : kN a = kN b) : a = b := Int.ofNat.inj (Sum.inl.inj h)
theorem kvs_any (v : View) (k : Nat) : (kvs v).any (fun kv => decide (kv.1 = kN k)) = v.any fun e => decide (e.1 = k) := by
  unfold kvs
  rw [List.any_map]
  congr 1
  funext e
  show decide (kN e.1 = kN k) = decide (e.1 = k)
  by_cases h : e.1 = k
  · rw [h]
    simp
  · rw [decide_eq_false h, decide_eq_false fun z => h (kN_inj z)]
theorem putK_new' {v : View} {k c : Nat} (h : ∀ e ∈ v, e.1 ≠ k) : putK (kvs v) (kN k) (iN c) = kvs (v ++ [(k, c)]) := by
  unfold putK
  rw [kvs_any, if_neg]
  · unfold kvs
    rw [List.map_append]
    rfl
  · rw [List.any_eq_true]
    rintro ⟨e, he, q⟩
    exact h e he (of_decide_eq_true q)
theorem merge_asc : ∀ {w v : View} {lo N : Nat}, Asc lo N w → (∀ e ∈ v, e.1 < lo) → mergeK (kvs v) (kvs w) = kvs (v ++ w)
  | [], v, lo, N, _, _ => by
    rw [List.append_nil]
    rfl
  | e :: w, v, lo, N, h, hv => by
    obtain ⟨h1, h2, h3, h4⟩ := h
    show mergeK (putK (kvs v) (kN e.1) (iN e.2)) (kvs w) = _
    rw [putK_new' fun x hx => by have := hv x hx; omega, merge_asc h4 fun x hx => ?_, List.append_assoc]
    · rfl
    · rcases List.mem_append.mp hx with m | m
      · have := hv x m
        omega
      · rw [List.mem_singleton.mp m]
        omega
theorem val_kvs : ∀ {w : View} {lo N : Nat} (k : Nat), Asc lo N w → (valV (kvs w) (kN k)).getD (.int 0) = iN (cf w k)
  | [], lo, N, k, _ => rfl
  | e :: w, lo, N, k, h => by
    obtain ⟨h1, h2, h3, h4⟩ := id h
    unfold valV kvs
    rw [List.map_cons, List.find?_cons]
    by_cases q : e.1 = k
    · rw [q, decide_eq_true (show kN k = kN k from rfl)]
      have c := cf_head h
      rw [q] at c
      rw [c]
      rfl
    · rw [decide_eq_false fun z => q (kN_inj z)]
      have r := val_kvs k h4
      show (valV (kvs w) (kN k)).getD (.int 0) = iN ((if e.1 = k then e.2 else 0) + cf w k)
      rw [r, if_neg q, Nat.zero_add]
theorem paired_kvs {K : PySem.W.Frag} {H : Hp} : ∀ {ps : List Addr} {v : View}, Prs K H ps v → PySem.Paired (fun p (kv : Key × V) => SqT K H p [kV kv.1, kv.2]) ps (kvs v)
  | _, _, .nil => .nil
  | _, _, .cons h r => .cons h (paired_kvs r)
/-- the triples of a view and the counts of its first halves -/
abbrev Trs (K : PySem.W.Frag) (H : Hp) (ts : List Addr) (w v : View) : Prop := PySem.Paired (fun p (e : Nat × Nat) => SqT K H p [iN e.1, iN e.2, iN (cf w (2 * e.1))]) ts v
theorem Trs.same {K : PySem.W.Frag} {H H' : Hp} {ts : List Addr} {w v : View} (s : Same H H') (h : Trs K H ts w v) : Trs K H' ts w v := L2.Paired.mapP h fun _ _ x => Same.tp s x
theorem Trs.off {K : PySem.W.Frag} {H : Hp} {ts : List Addr} {w v : View} {D : Addr} {acc : List V} {o : HO} (h : Trs K H ts w v) (e : H D = some (.lst acc)) : Trs K (upd H D o) ts w v := L2.Paired.mapP h fun _ _ x => SqT.off e x
theorem trs_get {K : PySem.W.Frag} {H : Hp} {w : View} : ∀ {ts : List Addr} {v : View}, Trs K H ts w v → ∀ {i : Nat} {x : V}, (ts.map V.ref)[i]? = some x → ∃ p e, x = .ref p ∧ v[i]? = some e ∧ SqT K H p [iN e.1, iN e.2, iN (cf w (2 * e.1))]
  | _, _, .nil, i, x, h => by cases h
  | _, _, .cons (a := p) (b := e) hp r, 0, x, h => ⟨p, e, (Option.some.inj h).symm, rfl, hp⟩
  | _, _, .cons _ r, i + 1, x, h => trs_get r (i := i) h
section
variable {P : Program} {w : World} {K : PySem.W.Frag} {mg : Str → Option Value} {base : Heap} {CS CC : Addr}
def spHal (K : PySem.W.Frag) : Sp := fun vs H Q _ => ∃ (a b : Addr) (v u : View) (N : Nat), vs = [.ref a, .ref b] ∧ VwAt K H a v ∧ VwF K H b u ∧ Asc 0 N u ∧ v.length ≤ 8 ∧
  ∀ H' p ts, Same H H' → H' p = some (.lst (ts.map V.ref)) → Trs K H' ts u v → Q (.ref p) H'
theorem q_hal {f : Addr} {fd : FuncData} (F : Fun K "halved" "halved" t_hal f fd) (B : Bl mg) : FnQ P w K mg base 1 f fd p_hal (spHal K) := by
  refine FnQ.of F sc_hal (fun vs H Q E h => ?_) (fun c cdv A outer s H vs Q E fx hr h => ?_)
  · obtain ⟨a, b, v, u, N, rfl, _⟩ := h
    rfl
  obtain ⟨a, b, v, u, N, rfl, hv, hu, ha, hl, q⟩ := h
  refine ⟨_, pss_cons (ps_set (i := 2) sc_hal.nd rfl (.inr rfl) (pe_callTy (cq_dict fx.nox) (by rfl) B.n_dict (by decide +kernel) (pa_cons (pv 1) pa_nil)))
    (pss_one (ps_ret (qe_lc (own := [("number", 3), ("count", 4)]) (g := gTup K 2 (gCons (gName 3) (gCons (gName 4) gNil))) (tt := tYes) fx.nox sc_hal.nd (qi_tup (pv 0)) (blkOk_by (N := n_hal) (sc := defScope t_hal) (by decide +kernel))
      (fun _ _ _ _ _ => qg_tup fx.nox.blk (pgs_cons (pg_name (i := 3) sc_hal.nd rfl (.inl rfl)) (pgs_cons (pg_name (i := 4) sc_hal.nd rfl (.inl rfl)) pgs_nil))) (fun _ _ _ _ _ => pts_nil)
      (fun _ _ _ _ _ => pe_tup (pa_cons (pv 3) (pa_cons (pv 4) (pa_cons (pe_dget2 (hu1 hr) (pv 2) (pe_op op_mul pe_int (pv 3)) pe_int ⟨rfl, rfl, rfl, rfl⟩) pa_nil))))))), ?_⟩
  obtain ⟨us, tu, pu⟩ := id hu
  refine ⟨_, rfl, b, us, kvs u, rfl, tu, paired_kvs pu, fun d nd => ?_⟩
  rw [show mergeK [] (kvs u) = kvs u from merge_asc (v := []) ha fun e he => by cases he]
  have s1 := same_new (o := .dK (kvs u)) nd
  have hv1 := hv.same s1
  refine ⟨.ref a, rfl, a, rfl, hv1.sq, fun D nD => lc_view hv1 nD (fun i H1 => Same (upd H d (.dK (kvs u))) H1 ∧ ∃ ts, H1 D = some (.lst (ts.map V.ref)) ∧ Trs K H1 ts u (v.take i)) (fun _ _ => rfl) ⟨same_new nD, [], upd_same, .nil⟩ (fun i H' h => h.1) ?_ ?_⟩
  · rintro i e H1 hi ⟨s2, ts, e1, t1⟩
    refine ⟨_, rfl, _, rfl, .ref d, rfl, d, rfl, .inl ⟨_, .inl (s2 _ _ upd_same)⟩, _, rfl, _, _, rfl, rfl, .inl (by decide), _, DGet.k (k := kN (2 * e.1)) (s2 _ _ upd_same), (by show 3 ≤ sizeLine; decide), fun t nt => ?_⟩
    rw [val_kvs (2 * e.1) ha]
    have lt : ts.length ≤ 8 := by
      have z := PySem.Paired.length t1
      rw [List.length_take] at z
      omega
    have nDt : D ≠ t := ne_of_none e1 nt
    refine ⟨_, (upd_ne nDt).trans e1, by rw [List.length_map]; exact small1000 (by omega), same_at (s2.trans (same_new nt)) nD, ts ++ [t], ?_, ?_⟩
    · rw [upd_same, List.map_append]
      rfl
    · rw [List.take_add_one, hi]
      exact Paired.snoc ((t1.same (same_new nt)).off ((upd_ne nDt).trans e1)) (SqT.of (by rw [upd_ne nDt.symm, upd_same]))
  · rintro H1 ⟨s2, ts, e1, t1⟩
    rw [List.take_length] at t1
    exact q H1 D ts (s1.trans s2) e1 t1
end
end FW

set_option Elab.async false
set_option linter.all false
set_option maxRecDepth 100000
set_option maxHeartbeats 4000000
/-! narrowed. -/
namespace FW
open PySem L2 L2H FH FC
/-- the loop of narrowed: S = share, l = low, at place i -/
structure NarI (h : Nat) (v : View) (as : List Nat) (i l S : Nat) : Prop where
  ex : ∃ P, S = P * W (2 * h) (v.drop i) ∧ l + FC.low h P (v.drop i) (as.drop i) = FC.low h 1 v as ∧ P * shr h (v.drop i) (as.drop i) = shr h v as
  le : S ≤ W (2 * h) v
theorem nar_zero (h : Nat) (v : View) (as : List Nat) : NarI h v as 0 0 (W (2 * h) v) := ⟨⟨1, by simp, by simp, by simp⟩, Nat.le_refl _⟩
theorem fits_get : ∀ {v : View} {as : List Nat} {i : Nat} {e : Nat × Nat}, Fits v as → v[i]? = some e → ∃ a, as[i]? = some a ∧ a ≤ e.2
  | [], as, i, e, f, h => by cases h
  | e :: v, [], i, _, f, h => f.elim
  | e :: v, a :: as, 0, e', f, h => ⟨a, rfl, by cases h; exact f.1⟩
  | e :: v, a :: as, i + 1, e', f, h => fits_get (i := i) f.2 h
theorem drop_get {α : Type} {l : List α} {i : Nat} {a : α} (h : l[i]? = some a) : l.drop i = a :: l.drop (i + 1) := by
  obtain ⟨hi, e⟩ := List.getElem?_eq_some_iff.mp h
  rw [List.drop_eq_getElem_cons hi, e]
theorem nar_step {h : Nat} {v : View} {as : List Nat} {i l S : Nat} {e : Nat × Nat} {a : Nat} (I : NarI h v as i l S) (he : v[i]? = some e) (ha : as[i]? = some a) (hle : a ≤ e.2) (hc : e.2 ≤ 2 * h) :
    0 < ch (2 * h) e.2 ∧ S / ch (2 * h) e.2 * ch (2 * h) e.2 = S ∧ NarI h v as (i + 1) (l + S / ch (2 * h) e.2 * sa h e.2 a) (S / ch (2 * h) e.2 * ch h a * ch h (e.2 - a)) := by
  obtain ⟨⟨P, e1, e2, e3⟩, le⟩ := I
  have pos := ch_pos (2 * h) e.2 hc
  rw [drop_get he] at e1 e2 e3
  rw [drop_get ha] at e2 e3
  have e1' : S = P * W (2 * h) (v.drop (i + 1)) * ch (2 * h) e.2 := by
    rw [e1]
    show P * (ch (2 * h) e.2 * W (2 * h) (v.drop (i + 1))) = _
    rw [Nat.mul_comm (ch _ _), Nat.mul_assoc]
  have q : S / ch (2 * h) e.2 = P * W (2 * h) (v.drop (i + 1)) := by
    rw [e1', Nat.mul_div_cancel _ pos]
  rw [q]
  refine ⟨pos, e1'.symm, ⟨P * (ch h a * ch h (e.2 - a)), ?_, ?_, ?_⟩, ?_⟩
  · simp only [Nat.mul_assoc, Nat.mul_comm, Nat.mul_left_comm]
  · rw [← e2]
    show _ = l + (P * W (2 * h) (v.drop (i + 1)) * sa h e.2 a + FC.low h (P * (ch h a * ch h (e.2 - a))) (v.drop (i + 1)) (as.drop (i + 1)))
    omega
  · rw [← e3]
    show _ = P * (ch h a * ch h (e.2 - a) * shr h (v.drop (i + 1)) (as.drop (i + 1)))
    rw [Nat.mul_assoc]
  · refine Nat.le_trans ?_ le
    rw [e1', Nat.mul_assoc]
    refine Nat.mul_le_mul_left _ ?_
    have := sa_le h e.2 a hle
    omega
theorem nar_end {h : Nat} {v : View} {as : List Nat} {l S : Nat} (f : Fits v as) (I : NarI h v as v.length l S) : l = FC.low h 1 v as ∧ S = shr h v as := by
  obtain ⟨⟨P, e1, e2, e3⟩, le⟩ := I
  have hl : as.length = v.length := by
    clear e1 e2 e3 le
    induction v generalizing as with
    | nil => cases as with
      | nil => rfl
      | cons _ _ => exact f.elim
    | cons e v ih => cases as with
      | nil => exact f.elim
      | cons a as => exact congrArg (· + 1) (ih f.2)
  rw [List.drop_length, List.drop_of_length_le (by omega)] at e2 e3
  rw [List.drop_length] at e1
  have e1 : S = P * 1 := e1
  have e2 : l + 0 = FC.low h 1 v as := e2
  have e3 : P * 1 = shr h v as := e3
  omega
section
variable {P : Program} {w : World} {K : PySem.W.Frag} {mg : Str → Option Value} {base : Heap} {CS CC : Addr}
def spNar (K : PySem.W.Frag) (CS : Addr) : Sp := fun vs H Q _ => ∃ (p : Addr) (dm B f : Nat) (a b : Addr) (v u : View) (N : Nat), vs = [.ref p, iN f, .ref a, .ref b] ∧ SpAt CS H p dm B ∧ dm * B ≤ 10 ∧ f < dm * B ∧
  VwAt K H a v ∧ VwF K H b u ∧ Asc 0 N u ∧ v.length ≤ 8 ∧ tot v ≤ 8 ∧ Fits v (asOf v u) ∧ (∀ e ∈ v, e.2 ≤ 2 ^ (dm * B - f)) ∧
  ∀ H' t, Same H H' → H' t = some (.tup [iN (FC.low (2 ^ (dm * B - f - 1)) 1 v (asOf v u)), iN (shr (2 ^ (dm * B - f - 1)) v (asOf v u)), iN (W (2 ^ (dm * B - f)) v)]) → Q (.ref t) H'
theorem q_nar {f fP fH fC fL fA : Addr} {fd fdP fdH fdC fdL fdA : FuncData} (F : Fun K "narrowed" "narrowed" t_nar f fd) (TS : TxS K CS)
    (GP : FnQ P w K mg base 1 fP fdP p_pow spPow) (gP : mg "power" = some (.ref fP)) (kP : PySem.W.keepIn K (.ref fP) = true) (bP : Binds K fdP p_pow [])
    (GH : FnQ P w K mg base 1 fH fdH p_cho spCho) (gH : mg "choices" = some (.ref fH)) (kH : PySem.W.keepIn K (.ref fH) = true) (bH : Binds K fdH p_cho [])
    (GC : FnQ P w K mg base 2 fC fdC p_cmp (spCmp K CS)) (gC : mg "completions" = some (.ref fC)) (kC : PySem.W.keepIn K (.ref fC) = true) (bC : Binds K fdC p_cmp [])
    (GL : FnQ P w K mg base 1 fL fdL p_hal (spHal K)) (gL : mg "halved" = some (.ref fL)) (kL : PySem.W.keepIn K (.ref fL) = true) (bL : Binds K fdL p_hal [])
    (GA : FnQ P w K mg base 2 fA fdA p_sah spSah) (gA : mg "share_ahead" = some (.ref fA)) (kA : PySem.W.keepIn K (.ref fA) = true) (bA : Binds K fdA p_sah []) : FnQ P w K mg base 3 f fd p_nar (spNar K CS) := by
  refine FnQ.of F sc_nar (fun vs H Q E h => ?_) (fun c cdv A outer s H vs Q E fx hr h => ?_)
  · obtain ⟨p, dm, B, f, a, b, v, u, N, rfl, _⟩ := h
    rfl
  obtain ⟨p, dm, B, f, a, b, v, u, N, rfl, hp, hD, hf, hv, hu, hasc, hlen, ht, fits, cells, q⟩ := h
  have nd := sc_nar.nd
  refine ⟨_, pss_cons (ps_set (i := 4) nd rfl (.inl rfl) (qe_call GC hr fx.nox (by rfl) gC kC bC (pa_cons (pv 0) (pa_cons (pv 1) (pa_cons (pv 2) pa_nil)))))
    (pss_cons (qs_par3 (i := 5) (j := 6) (l := 7) fx.nox nd rfl rfl rfl (by decide) (by decide) (by decide) rfl rfl rfl (pa_cons (qe_call GP (hr.mono (by decide)) fx.nox (by rfl) gP kP bP (pa_cons (pe_op op_sub (pe_op op_sub (pe_fld (pv 0) rfl) (pv 1)) pe_int) pa_nil)) (pa_cons pe_int (pa_cons (pv 4) pa_nil))) (by rfl))
    (pss_cons (qs_for PassesOwn.never fx.nox (qi_list (qe_call GL (hr.mono (by decide)) fx.nox (by rfl) gL kL bL (pa_cons (pv 2) (pa_cons (pv 3) pa_nil)))) (qg_tup fx.nox (pgs_cons (pg_name (i := 8) nd rfl (.inl rfl)) (pgs_cons (pg_name (i := 9) nd rfl (.inl rfl)) (pgs_cons (pg_name (i := 10) nd rfl (.inl rfl)) pgs_nil))))
      (pss_cons (ps_set (i := 11) nd rfl (.inl rfl) (pe_op op_fdivW (pv 7) (qe_call GH (hr.mono (by decide)) fx.nox (by rfl) gH kH bH (pa_cons (pe_op op_mul pe_int (pv 5)) (pa_cons (pv 9) pa_nil)))))
      (pss_cons (ps_set (i := 6) nd rfl (.inl rfl) (pe_op op_add (pv 6) (pe_op op_mulW (pv 11) (qe_call GA (hr.mono (by decide)) fx.nox (by rfl) gA kA bA (pa_cons (pv 5) (pa_cons (pv 9) (pa_cons (pv 10) pa_nil)))))))
      (pss_one (ps_set (i := 7) nd rfl (.inl rfl) (pe_op op_mulW (pe_op op_mulW (pv 11) (qe_call GH (hr.mono (by decide)) fx.nox (by rfl) gH kH bH (pa_cons (pv 5) (pa_cons (pv 10) pa_nil)))) (qe_call GH (hr.mono (by decide)) fx.nox (by rfl) gH kH bH (pa_cons (pv 5) (pa_cons (pe_op op_sub (pv 9) (pv 10)) pa_nil)))))))))
    (pss_one (ps_ret (pe_tup (pa_cons (pv 6) (pa_cons (pv 7) (pa_cons (pv 4) pa_nil)))))))), ?_⟩
  obtain ⟨dx, ep⟩ := id hp
  have hs := pow_le1024 (show dm * B - f ≤ 10 by omega)
  have h2 : 2 * 2 ^ (dm * B - f - 1) = 2 ^ (dm * B - f) := two_half hf
  have hs1 : 2 ^ (dm * B - f - 1) ≤ 1024 := pow_le1024 (by omega)
  rw [← h2] at cells
  have WL : W (2 * 2 ^ (dm * B - f - 1)) v < 2 ^ 81 := by rw [h2]; exact W_lt81 hs ht
  refine ⟨_, rfl, _, rfl, _, rfl, p, dm, B, f, a, v, rfl, hp, hD, by omega, hv, ht, ?_⟩
  rw [← h2] at q ⊢
  -- half, low, share
  refine ⟨_, rfl, p, CS, dx, _, _, rfl, ep, TS.cl, TS.nDepth, fS_depth _ _, _, rfl, _, _, rfl, rfl, _, _, rfl, rfl, dm * B - f - 1, congrArg (fun z => [V.int z]) (by omega), by omega, _, rfl, _, _, _, rfl, ?_⟩
  -- halved
  refine ⟨_, rfl, _, rfl, a, b, v, u, N, rfl, hv, hu, hasc, hlen, fun H1 l ts s1 el tr => ⟨l, rfl, ⟨_, SqL.of el⟩, ?_⟩⟩
  generalize hh : 2 ^ (dm * B - f - 1) = h at *
  refine for_list (xs := ts.map V.ref) (fun i σ H2 => Same H1 H2 ∧ ∃ (lo S : Nat) (x8 x9 x10 x11 : Option V), NarI h v (asOf v u) i lo S ∧ σ = [some (.ref p), some (iN f), some (.ref a), some (.ref b), some (iN (W (2 * h) v)), some (iN h), some (iN lo), some (iN S), x8, x9, x10, x11])
    ⟨Same.refl _, 0, _, none, none, none, none, nar_zero h v _, rfl⟩ (fun i σ H2 _ x => x.1.seq (SqL.of el)) ?_ ?_
  · rintro i x σ H2 hi ⟨s2, lo, S, x8, x9, x10, x11, I, rfl⟩
    obtain ⟨t, e, rfl, he, te⟩ := trs_get (tr.same s2) hi
    have hm := List.mem_of_getElem? he
    obtain ⟨ai, ha, hle⟩ := fits_get fits he
    have hai : ai = cf u (2 * e.1) := by
      unfold asOf at ha
      rw [List.getElem?_map, he] at ha
      exact (Option.some.inj ha).symm
    rw [← hai] at te
    have he8 : e.2 ≤ 8 := Nat.le_trans (tot_get he) ht
    obtain ⟨pos, hdiv, I'⟩ := nar_step I he ha hle (cells e hm)
    have hSle : S < 2 ^ 81 := Nat.lt_of_le_of_lt I.le WL
    have hR : S / ch (2 * h) e.2 < 2 ^ 81 := Nat.lt_of_le_of_lt (Nat.div_le_self _ _) hSle
    have c1 := ch_lt81 (n := 2 * h) (k := e.2) (by omega) he8
    have c2 := ch_lt81 (n := h) (k := ai) (by omega) (by omega)
    have c3 := ch_lt81 (n := h) (k := e.2 - ai) (by omega) (by omega)
    have c4 : sa h e.2 ai < 2 ^ 81 := by
      have := sa_le h e.2 ai hle
      omega
    refine ⟨t, _, rfl, te, rfl, _, _, rfl, _, _, rfl, _, _, rfl, rfl, ?_⟩
    -- rest
    refine ⟨_, rfl, _, rfl, _, _, rfl, rfl, .inl (by decide), _, rfl, 2 * h, e.2, rfl, by omega, _, _, rfl, rfl, wide_div (b := 81) (Int.ofNat_lt.mpr pos) c1 (by decide) (by decide), ?_⟩
    -- low
    refine ⟨_, rfl, iN (S / ch (2 * h) e.2), rfl, _, rfl, _, rfl, _, rfl, h, e.2, ai, rfl, by omega, he8, hle, fun H3 s3 => ⟨_, _, rfl, rfl, wide_mul (a := 81) (b := 81) hR c4 (by decide) (by decide) (by decide), _, _, rfl, rfl, ?_⟩⟩
    -- share
    refine ⟨iN (S / ch (2 * h) e.2), rfl, _, rfl, _, rfl, h, ai, rfl, by omega, _, _, rfl, rfl, wide_mul (a := 81) (b := 81) hR c2 (by decide) (by decide) (by decide),
      _, rfl, _, rfl, _, rfl, _, _, rfl, rfl, h, e.2 - ai, congrArg (fun z => [iN h, V.int z]) (nn_sub hle), by omega, _, _, rfl, rfl, wide_mul (a := 162) (b := 81) (wide_lt (i := ((S / ch (2 * h) e.2 : Nat) : Int)) (j := ((ch h ai : Nat) : Int)) hR c2) c3 (by decide) (by decide) (by decide), s2.trans s3, _, _, _, _, _, _, I', rfl⟩
  · rintro σ H2 ⟨s2, lo, S, x8, x9, x10, x11, I, rfl⟩
    rw [List.length_map, PySem.Paired.length tr] at I
    obtain ⟨e1, e2⟩ := nar_end fits I
    refine ⟨_, rfl, _, rfl, _, rfl, by show 3 ≤ sizeLine; decide, fun t nt => q _ t ((s1.trans s2).trans (same_new nt)) ?_⟩
    rw [upd_same, e1, e2]
end
end FW

set_option Elab.async false
set_option linter.all false
set_option maxRecDepth 100000
set_option maxHeartbeats 4000000
/-! shortest, first_half. -/
namespace FW
open PySem L2 L2H FH FC
theorem slen_lt {lo sh wh : Nat} (hs : 0 < sh) (hw : 0 < wh) (hl : lo + sh ≤ wh) (hb : wh < 2 ^ 81) : slen lo sh wh < 83 := by
  have a := slen_le hs hw hl
  apply Classical.byContradiction
  intro c
  have b : 2 ^ 83 ≤ 2 ^ slen lo sh wh := Nat.pow_le_pow_right (by decide) (by omega)
  have d : 2 ^ slen lo sh wh * 1 ≤ 2 ^ slen lo sh wh * sh := Nat.mul_le_mul_left _ hs
  have e : (2 : Nat) ^ 83 = 4 * 2 ^ 81 := by decide +kernel
  omega
section
variable {P : Program} {w : World} {K : PySem.W.Frag} {mg : Str → Option Value} {base : Heap} {CS CC : Addr}
def spSho : Sp := fun vs H Q _ => ∃ lo sh wh : Nat, vs = [iN lo, iN sh, iN wh] ∧ 0 < sh ∧ 0 < wh ∧ lo + sh ≤ wh ∧ wh < 2 ^ 81 ∧ ∀ H' p, Same H H' → H' p = some (.tup (iL (FC.code lo sh wh))) → Q (.ref p) H'
theorem q_sho {f fP fB : Addr} {fd fdP fdB : FuncData} (F : Fun K "shortest" "shortest" t_sho f fd)
    (GP : FnQ P w K mg base 1 fP fdP p_pow spPow) (gP : mg "power" = some (.ref fP)) (kP : PySem.W.keepIn K (.ref fP) = true) (bP : Binds K fdP p_pow [])
    (GB : FnQ P w K mg base 1 fB fdB p_bof spBof) (gB : mg "bits_of" = some (.ref fB)) (kB : PySem.W.keepIn K (.ref fB) = true) (bB : Binds K fdB p_bof []) : FnQ P w K mg base 2 f fd p_sho spSho := by
  refine FnQ.of F sc_sho (fun vs H Q E h => ?_) (fun c cdv A outer s H vs Q E fx hr h => ?_)
  · obtain ⟨lo, sh, wh, rfl, _⟩ := h
    rfl
  obtain ⟨lo, sh, wh, rfl, hs, hw, hl, hb, q⟩ := h
  have nd := sc_sho.nd
  refine ⟨_, pss_cons (ps_set (i := 3) nd rfl (.inl rfl) pe_int)
    (pss_one (ps_while PassesOwn.never (pt_val pe_bl)
      (pss_cons (ps_set (i := 4) nd rfl (.inl rfl) (qe_call GP hr fx.nox (by rfl) gP kP bP (pa_cons (pv 3) pa_nil)))
      (pss_cons (ps_set (i := 5) nd rfl (.inl rfl) (pe_op op_fdivW (pe_op op_sub (pe_op op_add (pe_op op_mulW (pv 0) (pv 4)) (pv 2)) pe_int) (pv 2)))
      (pss_cons (ps_if (pt_cmpR op_le (pe_op op_mulW (pv 2) (pe_op op_add (pv 5) pe_int)) (pe_op op_mulW (pe_op op_add (pv 0) (pv 1)) (pv 4)) (nomark _))
        (pss_one (ps_ret (qe_call GB hr fx.nox (by rfl) gB kB bB (pa_cons (pv 5) (pa_cons (pv 3) pa_nil))))) pss_nil)
      (pss_one (ps_set (i := 3) nd rfl (.inl rfl) (pe_op op_add (pv 3) pe_int)))))))), ?_⟩
  have h83 := slen_lt hs hw hl hb
  obtain ⟨okT, okF⟩ := slen_ok (lo := lo) hs hw
  refine ⟨fun k σ H1 => H1 = H ∧ ∃ (m : Nat) (x4 x5 : Option V), m + k = slen lo sh wh ∧ σ = [some (iN lo), some (iN sh), some (iN wh), some (iN m), x4, x5], ⟨_, rfl, 0, none, none, Nat.zero_add _, rfl⟩, ?_⟩
  · rintro k σ H1 ⟨rfl, m, x4, x5, hm, rfl⟩
    refine ⟨true, rfl, ?_⟩
    refine iteT ⟨_, fun _ _ z => z, ?_⟩
    have p2 : 2 ^ m < 2 ^ 84 := Nat.pow_lt_pow_right (by decide) (by omega)
    have lo81 : lo < 2 ^ 81 := by omega
    have cl : ceilN lo wh m + 1 < 2 ^ 170 := by
      have a : ceilN lo wh m ≤ 2 ^ m := ceil_min hw (Nat.mul_le_mul_right _ (by omega : lo ≤ wh))
      have b : (2 : Nat) ^ 84 + 1 < 2 ^ 170 := by decide +kernel
      omega
    have two : 1 ≤ lo * 2 ^ m + wh := by omega
    refine ⟨_, rfl, m, rfl, by omega, ?_⟩
    refine ⟨_, rfl, _, rfl, _, _, rfl, rfl, wide_mul (a := 81) (b := 84) lo81 p2 (by decide) (by decide) (by decide), _, rfl, _, _, rfl, rfl, ((lo * 2 ^ m + wh : Nat) : Int), 1, rfl, rfl, _, rfl, ((lo * 2 ^ m + wh - 1 : Nat) : Int), _, congrArg V.int (nn_sub two), rfl, wide_div (b := 81) (Int.ofNat_lt.mpr hw) hb (by decide) (by decide), ?_⟩
    have hl1 : lo + sh < 2 ^ 82 := by
      have e : (2 : Nat) ^ 82 = 2 * 2 ^ 81 := by decide +kernel
      omega
    refine ⟨_, rfl, iN (ceilN lo wh m), rfl, _, _, rfl, rfl, _, ((ceilN lo wh m + 1 : Nat) : Int), rfl, rfl, wide_mul (a := 81) (b := 170) hb cl (by decide) (by decide) (by decide),
      _, rfl, _, rfl, _, _, rfl, rfl, _, rfl, ((lo + sh : Nat) : Int), _, rfl, rfl, wide_mul (a := 82) (b := 84) hl1 p2 (by decide) (by decide) (by decide), _, _, rfl, rfl, _, rfl, ?_⟩
    by_cases ok : wh * (ceilN lo wh m + 1) ≤ (lo + sh) * 2 ^ m
    · have e : slen lo sh wh = m := by
        apply Classical.byContradiction
        intro ne
        have z := okF m (by omega)
        unfold okS at z
        rw [decide_eq_true ok] at z
        cases z
      rw [decide_eq_true (show ((wh : Int) * ((ceilN lo wh m + 1 : Nat) : Int)) ≤ ((lo + sh : Nat) : Int) * ((2 ^ m : Nat) : Int) from Int.ofNat_le.mpr ok)]
      refine iteT ⟨iN (ceilN lo wh m), rfl, _, rfl, ceilN lo wh m, m, rfl, by omega, fun H' p s1 ep => q H' p s1 ?_⟩
      rw [ep]
      unfold FC.code
      rw [e]
    · rw [decide_eq_false (show ¬ ((wh : Int) * ((ceilN lo wh m + 1 : Nat) : Int)) ≤ ((lo + sh : Nat) : Int) * ((2 ^ m : Nat) : Int) from fun z => ok (Int.ofNat_le.mp z))]
      have ne : m ≠ slen lo sh wh := fun z => by
        rw [← z] at okT
        exact ok (of_decide_eq_true okT)
      exact iteF ⟨_, rfl, _, _, rfl, rfl, k - 1, by omega, rfl, m + 1, _, _, by omega, rfl⟩
def spFha : Sp := fun vs H Q _ => ∃ h c rest n : Nat, vs = [iN h, iN c, iN rest, iN n] ∧ h ≤ 1024 ∧ c ≤ 8 ∧ rest < 2 ^ 81 ∧ n < rest * ch (2 * h) c ∧ ∀ H' p, Same H H' → H' p = some (.tup [iN (fh h c rest n).1, iN (fh h c rest n).2]) → Q (.ref p) H'
theorem q_fha {f fH : Addr} {fd fdH : FuncData} (F : Fun K "first_half" "first_half" t_fha f fd)
    (GH : FnQ P w K mg base 1 fH fdH p_cho spCho) (gH : mg "choices" = some (.ref fH)) (kH : PySem.W.keepIn K (.ref fH) = true) (bH : Binds K fdH p_cho []) : FnQ P w K mg base 2 f fd p_fha spFha := by
  refine FnQ.of F sc_fha (fun vs H Q E h => ?_) (fun cc cdv A outer s H vs Q E fx hr h => ?_)
  · obtain ⟨h, c, rest, n, rfl, _⟩ := h
    rfl
  obtain ⟨h, c, rest, n, rfl, hh, hc, hR, hn, q⟩ := h
  have nd := sc_fha.nd
  refine ⟨_, pss_cons (ps_set (i := 4) nd rfl (.inl rfl) pe_int)
    (pss_cons (ps_while PassesOwn.never (pt_cmpR op_ge (pv 3) (pe_op op_mulW (pe_op op_mulW (pv 2) (qe_call GH hr fx.nox (by rfl) gH kH bH (pa_cons (pv 0) (pa_cons (pv 4) pa_nil)))) (qe_call GH hr fx.nox (by rfl) gH kH bH (pa_cons (pv 0) (pa_cons (pe_op op_sub (pv 1) (pv 4)) pa_nil)))) (nomark _))
      (pss_cons (ps_set (i := 3) nd rfl (.inl rfl) (pe_op op_sub (pv 3) (pe_op op_mulW (pe_op op_mulW (pv 2) (qe_call GH hr fx.nox (by rfl) gH kH bH (pa_cons (pv 0) (pa_cons (pv 4) pa_nil)))) (qe_call GH hr fx.nox (by rfl) gH kH bH (pa_cons (pv 0) (pa_cons (pe_op op_sub (pv 1) (pv 4)) pa_nil))))))
      (pss_one (ps_set (i := 4) nd rfl (.inl rfl) (pe_op op_add (pv 4) pe_int)))))
    (pss_one (ps_ret (pe_tup (pa_cons (pv 4) (pa_cons (pv 3) pa_nil)))))), ?_⟩
  refine ⟨fun k σ H1 => H1 = H ∧ ∃ (a l : Nat), a + k = c ∧ n = rest * sa h c a + l ∧ σ = [some (iN h), some (iN c), some (iN rest), some (iN l), some (iN a)], ⟨_, rfl, 0, n, Nat.zero_add _, by simp [cv], rfl⟩, ?_⟩
  · rintro k σ H1 ⟨rfl, a, l, hk, hl, rfl⟩
    have ha : a ≤ c := by omega
    have c2 := ch_lt81 (n := h) (k := a) hh (by omega)
    have c3 := ch_lt81 (n := h) (k := c - a) hh (by omega)
    have e3 : [iN h, V.int ((c : Int) - (a : Int))] = [iN h, iN (c - a)] := congrArg (fun z => [iN h, V.int z]) (nn_sub ha)
    refine ⟨_, rfl, _, rfl, _, rfl, _, rfl, h, a, rfl, by omega, _, _, rfl, rfl, wide_mul (a := 81) (b := 81) hR c2 (by decide) (by decide) (by decide), _, rfl, _, rfl, _, rfl, _, _, rfl, rfl, h, c - a, e3, by omega, _, _, rfl, rfl, wide_mul (a := 162) (b := 81) (wide_lt (i := (rest : Int)) (j := ((ch h a : Nat) : Int)) hR c2) c3 (by decide) (by decide) (by decide), _, _, rfl, rfl, _, rfl, ?_⟩
    by_cases t : rest * ch h a * ch h (c - a) ≤ l
    · rw [decide_eq_true (show (rest : Int) * ((ch h a : Nat) : Int) * ((ch h (c - a) : Nat) : Int) ≤ (l : Int) from Int.ofNat_le.mpr t)]
      have en : n = rest * sa h c (a + 1) + (l - rest * ch h a * ch h (c - a)) := by
        rw [sa_succ, Nat.mul_add, ← Nat.mul_assoc]
        omega
      have lt : a < c := by
        apply Classical.byContradiction
        intro ne
        have z : a = c := by omega
        rw [z, sa_top] at en
        omega
      refine iteT ⟨_, fun _ _ z => z, _, rfl, _, rfl, _, rfl, _, rfl, h, a, rfl, by omega, _, _, rfl, rfl, wide_mul (a := 81) (b := 81) hR c2 (by decide) (by decide) (by decide), _, rfl, _, rfl, _, rfl, _, _, rfl, rfl, h, c - a, e3, by omega, _, _, rfl, rfl, wide_mul (a := 162) (b := 81) (wide_lt (i := (rest : Int)) (j := ((ch h a : Nat) : Int)) hR c2) c3 (by decide) (by decide) (by decide), _, _, rfl, rfl,
        _, rfl, _, _, rfl, rfl, k - 1, by omega, rfl, a + 1, l - rest * ch h a * ch h (c - a), by omega, en, ?_⟩
      · have e4 : (l : Int) - (rest : Int) * ((ch h a : Nat) : Int) * ((ch h (c - a) : Nat) : Int) = ((l - rest * ch h a * ch h (c - a) : Nat) : Int) := nn_sub t
        show [some (iN h), some (iN c), some (iN rest), some (V.int ((l : Int) - (rest : Int) * ((ch h a : Nat) : Int) * ((ch h (c - a) : Nat) : Int))), some (V.int ((a : Int) + 1))] = _
        rw [e4]
        rfl
    · rw [decide_eq_false (show ¬ (rest : Int) * ((ch h a : Nat) : Int) * ((ch h (c - a) : Nat) : Int) ≤ (l : Int) from fun z => t (Int.ofNat_le.mp z))]
      have hf : fh h c rest n = (a, l) := fh_of ⟨ha, hl, by rw [← Nat.mul_assoc]; omega⟩
      rw [hf] at q
      refine iteF ⟨_, rfl, _, rfl, (by show 2 ≤ sizeLine; decide), fun p np => q _ p (same_new np) upd_same⟩
end
end FW

set_option Elab.async false
set_option linter.all false
set_option maxRecDepth 100000
set_option maxHeartbeats 4000000
/-! finer_by. -/
namespace FW
open PySem L2 L2H FH FC
theorem drop_get' {α : Type} {l : List α} {i : Nat} {a : α} (h : l[i]? = some a) : l.drop i = a :: l.drop (i + 1) := by
  obtain ⟨hi, e⟩ := List.getElem?_eq_some_iff.mp h
  rw [List.drop_eq_getElem_cons hi, e]
/-- the children that have points -/
def kid (k : Nat) (l : View) : View := l.flatMap fun e => if 0 < e.2 then [(2 * k + e.1, e.2)] else []
theorem kid_two (k c a : Nat) : kid k [(0, a), (1, c - a)] = kids k c a := by
  unfold kid kids
  simp [List.flatMap]
theorem kid_succ {k : Nat} {l : View} {i : Nat} {e : Nat × Nat} (h : l[i]? = some e) : kid k (l.take (i + 1)) = kid k (l.take i) ++ if 0 < e.2 then [(2 * k + e.1, e.2)] else [] := by
  unfold kid
  rw [List.take_add_one, h, List.flatMap_append]
  simp [List.flatMap]
theorem nxt_snoc : ∀ {v : View} {as : List Nat} {e : Nat × Nat} {a : Nat}, v.length = as.length → nxt (v ++ [e]) (as ++ [a]) = nxt v as ++ kids e.1 e.2 a
  | [], [], e, a, _ => by show kids e.1 e.2 a ++ [] = _; simp [nxt]
  | x :: v, b :: as, e, a, h => by
    show kids x.1 x.2 b ++ nxt (v ++ [e]) (as ++ [a]) = (kids x.1 x.2 b ++ nxt v as) ++ kids e.1 e.2 a
    rw [nxt_snoc (Nat.succ.inj h), List.append_assoc]
/-- the loop of finer_by -/
structure FbyI (h : Nat) (v : View) (n i S m : Nat) (as : List Nat) : Prop where
  ex : ∃ P, S = P * W (2 * h) (v.drop i) ∧ dec h 1 v n = (as ++ (dec h P (v.drop i) m).1, (dec h P (v.drop i) m).2)
  lt : m < S
  len : as.length = i
  le : S ≤ W (2 * h) v
theorem fby_zero {h : Nat} {v : View} {n : Nat} (hn : n < W (2 * h) v) : FbyI h v n 0 (W (2 * h) v) n [] := ⟨⟨1, by simp, by simp⟩, hn, rfl, Nat.le_refl _⟩
theorem fby_step {h : Nat} {v : View} {n i S m : Nat} {as : List Nat} {e : Nat × Nat} (I : FbyI h v n i S m as) (he : v[i]? = some e) (hc : e.2 ≤ 2 * h) :
    0 < ch (2 * h) e.2 ∧ m < S / ch (2 * h) e.2 * ch (2 * h) e.2 ∧ (fh h e.2 (S / ch (2 * h) e.2) m).1 ≤ e.2 ∧
    FbyI h v n (i + 1) (S / ch (2 * h) e.2 * ch h (fh h e.2 (S / ch (2 * h) e.2) m).1 * ch h (e.2 - (fh h e.2 (S / ch (2 * h) e.2) m).1)) (fh h e.2 (S / ch (2 * h) e.2) m).2 (as ++ [(fh h e.2 (S / ch (2 * h) e.2) m).1]) := by
  obtain ⟨⟨P, e1, e2⟩, lt, len, le⟩ := I
  have pos := ch_pos (2 * h) e.2 hc
  rw [drop_get' he] at e1 e2
  have e1' : S = P * W (2 * h) (v.drop (i + 1)) * ch (2 * h) e.2 := by
    rw [e1]
    show P * (ch (2 * h) e.2 * W (2 * h) (v.drop (i + 1))) = _
    rw [Nat.mul_comm (ch _ _), Nat.mul_assoc]
  have q : S / ch (2 * h) e.2 = P * W (2 * h) (v.drop (i + 1)) := by
    rw [e1', Nat.mul_div_cancel _ pos]
  rw [q]
  rw [e1'] at lt
  have hf := fh_half lt
  obtain ⟨h1, h2, h3⟩ := id hf
  refine ⟨pos, lt, h1, ⟨P * (ch h (fh h e.2 (P * W (2 * h) (v.drop (i + 1))) m).1 * ch h (e.2 - (fh h e.2 (P * W (2 * h) (v.drop (i + 1))) m).1)), ?_, ?_⟩, ?_, ?_, ?_⟩
  · simp only [Nat.mul_assoc, Nat.mul_comm, Nat.mul_left_comm]
  · rw [e2]
    show (as ++ _ :: _, _) = _
    rw [List.append_assoc]
    rfl
  · rw [Nat.mul_assoc]
    exact h3
  · rw [List.length_append, len]
    rfl
  · refine Nat.le_trans ?_ le
    rw [e1', Nat.mul_assoc]
    refine Nat.mul_le_mul_left _ ?_
    have := sa_le h e.2 _ h1
    omega
theorem fby_end {h : Nat} {v : View} {n S m : Nat} {as : List Nat} (I : FbyI h v n v.length S m as) : dec h 1 v n = (as, m) := by
  obtain ⟨⟨P, e1, e2⟩, lt, len, le⟩ := I
  rw [List.drop_length] at e2
  rw [e2]
  show (as ++ [], m) = _
  rw [List.append_nil]
theorem Prs.off {K : PySem.W.Frag} {H : Hp} {ts : List Addr} {v : View} {D : Addr} {acc : List V} {o : HO} (h : Prs K H ts v) (e : H D = some (.lst acc)) : Prs K (upd H D o) ts v := L2.Paired.mapP h fun _ _ x => SqT.off e x
theorem prs_app {K : PySem.W.Frag} {H : Hp} {qs : List Addr} {w : View} (hw : Prs K H qs w) : ∀ {ps : List Addr} {v : View}, Prs K H ps v → Prs K H (ps ++ qs) (v ++ w)
  | _, _, .nil => hw
  | _, _, .cons x r => .cons x (prs_app hw r)
theorem kids_le (k c a : Nat) : (kids k c a).length ≤ 2 := by
  unfold kids
  split <;> split <;> simp
section
variable {P : Program} {w : World} {K : PySem.W.Frag} {mg : Str → Option Value} {base : Heap} {CS CC : Addr}
def spFby (K : PySem.W.Frag) (CS : Addr) : Sp := fun vs H Q _ => ∃ (p : Addr) (dm B f : Nat) (a : Addr) (v : View) (n : Nat), vs = [.ref p, iN f, .ref a, iN n] ∧ SpAt CS H p dm B ∧ dm * B ≤ 10 ∧ f < dm * B ∧
  VwAt K H a v ∧ v.length ≤ 8 ∧ tot v ≤ 8 ∧ (∀ e ∈ v, e.2 ≤ 2 ^ (dm * B - f)) ∧ n < W (2 ^ (dm * B - f)) v ∧
  ∀ H' t u, Same H H' → H' t = some (.tup [.ref u, iN (dec (2 ^ (dm * B - f - 1)) 1 v n).2]) → VwAt K H' u (nxt v (dec (2 ^ (dm * B - f - 1)) 1 v n).1) → Q (.ref t) H'
theorem q_fby {f fP fH fC fF : Addr} {fd fdP fdH fdC fdF : FuncData} (F : Fun K "finer_by" "finer_by" t_fby f fd) (TS : TxS K CS) (BB : Bl mg)
    (GP : FnQ P w K mg base 1 fP fdP p_pow spPow) (gP : mg "power" = some (.ref fP)) (kP : PySem.W.keepIn K (.ref fP) = true) (bP : Binds K fdP p_pow [])
    (GH : FnQ P w K mg base 1 fH fdH p_cho spCho) (gH : mg "choices" = some (.ref fH)) (kH : PySem.W.keepIn K (.ref fH) = true) (bH : Binds K fdH p_cho [])
    (GC : FnQ P w K mg base 2 fC fdC p_cmp (spCmp K CS)) (gC : mg "completions" = some (.ref fC)) (kC : PySem.W.keepIn K (.ref fC) = true) (bC : Binds K fdC p_cmp [])
    (GF : FnQ P w K mg base 2 fF fdF p_fha spFha) (gF : mg "first_half" = some (.ref fF)) (kF : PySem.W.keepIn K (.ref fF) = true) (bF : Binds K fdF p_fha []) : FnQ P w K mg base 3 f fd p_fby (spFby K CS) := by
  refine FnQ.of F sc_fby (fun vs H Q E h => ?_) (fun cc cdv A outer s H vs Q E fx hr h => ?_)
  · obtain ⟨p, dm, B, f, a, v, n, rfl, _⟩ := h
    rfl
  obtain ⟨p, dm, B, f, a, v, n, rfl, hp, hD, hf, hv, hlen, ht, cells, hn, q⟩ := h
  have nd := sc_fby.nd
  have hr1 := hr.mono (show 1 ≤ 2 by decide)
  refine ⟨_, pss_cons (qs_par3 (i := 4) (j := 5) (l := 6) fx.nox nd rfl rfl rfl (by decide) (by decide) (by decide) rfl rfl rfl (pa_cons (qe_call GP hr1 fx.nox (by rfl) gP kP bP (pa_cons (pe_op op_sub (pe_op op_sub (pe_fld (pv 0) rfl) (pv 1)) pe_int) pa_nil)) (pa_cons (qe_call GC hr fx.nox (by rfl) gC kC bC (pa_cons (pv 0) (pa_cons (pv 1) (pa_cons (pv 2) pa_nil)))) (pa_cons (pe_lst pa_nil) pa_nil))) (by rfl))
    (pss_cons (qs_for PassesOwn.never fx.nox (qi_tup (pv 2)) (qg_tup fx.nox (pgs_cons (pg_name (i := 7) nd rfl (.inr rfl)) (pgs_cons (pg_name (i := 8) nd rfl (.inl rfl)) pgs_nil)))
      (pss_cons (ps_set (i := 9) nd rfl (.inl rfl) (pe_op op_fdivW (pv 5) (qe_call GH hr1 fx.nox (by rfl) gH kH bH (pa_cons (pe_op op_mul pe_int (pv 4)) (pa_cons (pv 8) pa_nil)))))
      (pss_cons (ps_asg (qe_call GF hr fx.nox (by rfl) gF kF bF (pa_cons (pv 4) (pa_cons (pv 8) (pa_cons (pv 9) (pa_cons (pv 3) pa_nil))))) (qg_tup fx.nox (pgs_cons (pg_name (i := 10) nd rfl (.inl rfl)) (pgs_cons (pg_name (i := 3) nd rfl (.inl rfl)) pgs_nil))))
      (pss_cons (ps_set (i := 5) nd rfl (.inl rfl) (pe_op op_mulW (pe_op op_mulW (pv 9) (qe_call GH hr1 fx.nox (by rfl) gH kH bH (pa_cons (pv 4) (pa_cons (pv 10) pa_nil)))) (qe_call GH hr1 fx.nox (by rfl) gH kH bH (pa_cons (pv 4) (pa_cons (pe_op op_sub (pv 8) (pv 10)) pa_nil)))))
      (pss_one (ps_aug (i := 6) nd rfl (.inl rfl)
        (qe_lc (own := [("at", 11), ("part", 12)]) (g := gTup K 2 (gCons (gName 11) (gCons (gName 12) gNil))) fx.nox nd (qi_tup (pe_tup (pa_cons (pe_tup (pa_cons pe_int (pa_cons (pv 10) pa_nil))) (pa_cons (pe_tup (pa_cons pe_int (pa_cons (pe_op op_sub (pv 8) (pv 10)) pa_nil))) pa_nil)))) (blkOk_by (N := n_fby) (sc := defScope t_fby) (by decide +kernel))
          (fun _ _ _ _ _ => qg_tup fx.nox.blk (pgs_cons (pg_name (i := 11) nd rfl (.inl rfl)) (pgs_cons (pg_name (i := 12) nd rfl (.inl rfl)) pgs_nil))) (fun _ _ _ _ _ => pts_one (pt_cmpR op_gt (pv 12) pe_int (nomark _)))
          (fun _ _ _ _ _ => pe_tup (pa_cons (pe_op op_add (pe_op op_mul pe_int (pv 7)) (pv 11)) (pa_cons (pv 12) pa_nil)))) iop_ext))))))
    (pss_one (ps_ret (pe_tup (pa_cons (pe_callTy call_tuple_of (by rfl) BB.n_tuple (by decide +kernel) (pa_cons (pv 6) pa_nil)) (pa_cons (pv 3) pa_nil)))))), ?_⟩
  obtain ⟨dx, ep⟩ := id hp
  have hs := pow_le1024 (show dm * B - f ≤ 10 by omega)
  have h2 : 2 * 2 ^ (dm * B - f - 1) = 2 ^ (dm * B - f) := two_half hf
  have hs1 : 2 ^ (dm * B - f - 1) ≤ 1024 := pow_le1024 (by omega)
  rw [← h2] at cells hn
  have WL : W (2 * 2 ^ (dm * B - f - 1)) v < 2 ^ 81 := by rw [h2]; exact W_lt81 hs ht
  -- half, share, found
  refine ⟨_, rfl, p, CS, dx, _, _, rfl, ep, TS.cl, TS.nDepth, fS_depth _ _, _, rfl, _, _, rfl, rfl, _, _, rfl, rfl, dm * B - f - 1, congrArg (fun z => [V.int z]) (by omega), by omega,
    _, rfl, _, rfl, _, rfl, p, dm, B, f, a, v, rfl, hp, hD, by omega, hv, ht, Nat.zero_le _, fun o no => ⟨_, _, _, rfl, ?_⟩⟩
  rw [← h2]
  generalize hh : 2 ^ (dm * B - f - 1) = h at *
  have s0 := same_new (o := .lst []) no
  have hv0 := hv.same s0
  refine ⟨_, rfl, a, rfl, hv0.sq, for_view (ja := 7) (jb := 8) hv (fun i σ H2 => Same H H2 ∧ ∃ (S m : Nat) (as : List Nat) (ps : List Addr) (x7 x8 x9 x10 : Option V), FbyI h v n i S m as ∧ H2 o = some (.lst (ps.map V.ref)) ∧ Prs K H2 ps (nxt (v.take i) as) ∧ ps.length ≤ 2 * i ∧ σ = [some (.ref p), some (iN f), some (.ref a), some (iN m), some (iN h), some (iN S), some (.ref o), x7, x8, x9, x10, none, none])
    ⟨s0, _, n, [], [], none, none, none, none, fby_zero hn, upd_same, .nil, Nat.le_refl _, rfl⟩ (fun i σ H' h => h.1) ?_ ?_⟩
  · rintro i e σ H2 he ⟨s2, S, m, as, ps, x7, x8, x9, x10, I, eo, hps, hpl, rfl⟩
    have hm := List.mem_of_getElem? he
    have hi : i < 8 := by
      have := (List.getElem?_eq_some_iff.mp he).1
      omega
    have he8 : e.2 ≤ 8 := Nat.le_trans (tot_get he) ht
    obtain ⟨pos, hlt, hle, I'⟩ := fby_step I he (cells e hm)
    have hSle : S < 2 ^ 81 := Nat.lt_of_le_of_lt I.le WL
    have hR : S / ch (2 * h) e.2 < 2 ^ 81 := Nat.lt_of_le_of_lt (Nat.div_le_self _ _) hSle
    have hnx : nxt (v.take (i + 1)) (as ++ [(fh h e.2 (S / ch (2 * h) e.2) m).1]) = nxt (v.take i) as ++ kids e.1 e.2 (fh h e.2 (S / ch (2 * h) e.2) m).1 := by
      rw [List.take_add_one, he]
      exact nxt_snoc (by rw [I.len, List.length_take]; have := (List.getElem?_eq_some_iff.mp he).1; omega)
    obtain ⟨x1, x2, hx⟩ : ∃ x1 x2, fh h e.2 (S / ch (2 * h) e.2) m = (x1, x2) := ⟨_, _, rfl⟩
    rw [hx] at hle I' hnx
    have hle : x1 ≤ e.2 := hle
    have hnx : nxt (v.take (i + 1)) (as ++ [x1]) = nxt (v.take i) as ++ kids e.1 e.2 x1 := hnx
    have c1 := ch_lt81 (n := 2 * h) (k := e.2) (by omega) he8
    have c2 := ch_lt81 (n := h) (k := x1) (by omega) (by omega)
    have c3 := ch_lt81 (n := h) (k := e.2 - x1) (by omega) (by omega)
    -- rest
    refine ⟨_, rfl, _, rfl, _, _, rfl, rfl, .inl (by decide), _, rfl, 2 * h, e.2, rfl, by omega, _, _, rfl, rfl, wide_div (b := 81) (Int.ofNat_lt.mpr pos) c1 (by decide) (by decide), ?_⟩
    -- first, number
    refine ⟨_, rfl, _, rfl, iN (S / ch (2 * h) e.2), rfl, _, rfl, h, e.2, S / ch (2 * h) e.2, m, rfl, by omega, he8, hR, hlt, fun H3 t s3 et => ?_⟩
    rw [hx] at et
    have et : H3 t = some (.tup [iN x1, iN x2]) := et
    refine ⟨t, _, rfl, SqT.of et, rfl, _, _, rfl, _, _, rfl, rfl, ?_⟩
    -- share
    have e3 : (e.2 : Int) - (x1 : Int) = ((e.2 - x1 : Nat) : Int) := nn_sub hle
    refine ⟨iN (S / ch (2 * h) e.2), rfl, _, rfl, _, rfl, h, x1, rfl, by omega, _, _, rfl, rfl, wide_mul (a := 81) (b := 81) hR c2 (by decide) (by decide) (by decide),
      _, rfl, _, rfl, _, rfl, _, _, rfl, rfl, h, e.2 - x1, congrArg (fun z => [iN h, V.int z]) e3, by omega, _, _, rfl, rfl, wide_mul (a := 162) (b := 81) (wide_lt (i := ((S / ch (2 * h) e.2 : Nat) : Int)) (j := ((ch h x1 : Nat) : Int)) hR c2) c3 (by decide) (by decide) (by decide), ?_⟩
    -- found += [..]
    refine ⟨_, rfl, _, rfl, (by show 2 ≤ sizeLine; decide), fun t1 n1 => ⟨_, rfl, _, rfl, _, _, rfl, rfl, (by show 2 ≤ sizeLine; decide), fun t2 n2 => ⟨(by show 2 ≤ sizeLine; decide), fun t3 n3 => ⟨t3, rfl, ⟨_, SqT.of upd_same⟩, fun D nD => ?_⟩⟩⟩⟩
    obtain ⟨H5, V2, s5, s5'⟩ : ∃ H5, VwAt K H5 t3 [(0, x1), (1, e.2 - x1)] ∧ Same H2 H5 ∧ Same H5 (upd (upd (upd H3 t1 (.tup [V.int 0, iN x1])) t2 (.tup [V.int 1, V.int ((e.2 : Int) - (x1 : Int))])) t3 (.tup [V.ref t1, V.ref t2])) := by
      have sa := same_new (o := .tup [V.int 0, iN x1]) n1
      have sb := same_new (o := .tup [V.int 1, V.int ((e.2 : Int) - (x1 : Int))]) n2
      have sc := same_new (o := .tup [V.ref t1, V.ref t2]) n3
      exact ⟨_, ⟨[t1, t2], SqT.of upd_same, .cons (Same.tp (sb.trans sc) (SqT.of upd_same)) (.cons (Same.tp sc (SqT.of (upd_same.trans (congrArg (fun z => some (HO.tup [V.int 1, V.int z])) e3)))) .nil)⟩, ((s3.trans sa).trans sb).trans sc, Same.refl _⟩
    refine lc_viewT (ja := 11) (jb := 12) V2 nD (fun j H' => Same H5 H' ∧ ∃ qs : List Addr, H' D = some (.lst (qs.map V.ref)) ∧ Prs K H' qs (kid e.1 ([(0, x1), (1, e.2 - x1)].take j)) ∧ qs.length ≤ j) (fun _ _ => rfl) ⟨s5'.trans (same_new nD), [], upd_same, .nil, Nat.le_refl _⟩ (fun j H' h => h.1) ?_ ?_
    · rintro j g H' hg ⟨s6, qs, eD, hqs, hql⟩
      have hj : j < 2 := (List.getElem?_eq_some_iff.mp hg).1
      rw [kid_succ hg]
      refine ⟨_, rfl, _, _, rfl, rfl, _, rfl, ?_⟩
      by_cases pos : 0 < g.2
      · rw [decide_eq_true (show (0 : Int) < (g.2 : Int) from Int.ofNat_lt.mpr pos), if_pos pos]
        refine iteT ⟨_, rfl, _, _, rfl, rfl, .inl (by decide), _, rfl, _, _, rfl, rfl, _, rfl, (by show 2 ≤ sizeLine; decide), fun u nu => ?_⟩
        have nDu : D ≠ u := ne_of_none eD nu
        refine ⟨_, (upd_ne nDu).trans eD, by rw [List.length_map]; exact small1000 (by omega), same_at (s6.trans (same_new nu)) (s5'.free nD), qs ++ [u], ?_, ?_, ?_⟩
        · rw [upd_same, List.map_append]
          rfl
        · exact Paired.snoc ((hqs.same (same_new nu)).off ((upd_ne nDu).trans eD)) (SqT.of (by rw [upd_ne nDu.symm, upd_same]; rfl))
        · rw [List.length_append]
          show qs.length + 1 ≤ j + 1
          omega
      · rw [decide_eq_false (show ¬ (0 : Int) < (g.2 : Int) from fun z => pos (Int.ofNat_lt.mp z)), if_neg pos, List.append_nil]
        exact iteF ⟨s6, qs, eD, hqs, by omega⟩
    · rintro H' ⟨s6, qs, eD, hqs, hql⟩
      have hqs : Prs K H' qs (kid e.1 [(0, x1), (1, e.2 - x1)]) := hqs
      have hql : qs.length ≤ 2 := hql
      rw [kid_two] at hqs
      have eo5 : H' o = some (.lst (ps.map V.ref)) := s6 _ _ (s5 _ _ eo)
      have s7 : Same H2 H' := s5.trans s6
      have hz : (ps.map V.ref).length + (qs.map V.ref).length ≤ sizeLine := by
        rw [List.length_map, List.length_map]
        have : (1000 : Nat) ≤ sizeLine := by decide
        omega
      refine ⟨o, D, _, _, rfl, rfl, eo5, eD, hz, same_at (s2.trans s7) no, _, x2, as ++ [x1], ps ++ qs, _, _, _, _, I', ?_, ?_, ?_, rfl⟩
      · rw [upd_same, List.map_append]
      · rw [hnx]
        exact prs_app (hqs.off eo5) ((hps.same s7).off eo5)
      · rw [List.length_append]
        omega
  · rintro σ H2 ⟨s2, S, m, as, ps, x7, x8, x9, x10, I, eo, hps, hpl, rfl⟩
    have e1 := fby_end I
    rw [e1] at q
    refine ⟨.ref o, rfl, o, _, rfl, .inl ⟨SqL.of eo, fun l nl => ⟨_, rfl, (by show 2 ≤ sizeLine; decide), fun t nt => ?_⟩⟩⟩
    have s3 := same_new (o := .tup (ps.map V.ref)) nl
    have s4 := same_new (o := .tup [.ref l, iN m]) nt
    refine q _ t l ((s2.trans s3).trans s4) upd_same ⟨ps, ?_, ?_⟩
    · exact Same.tp s4 (SqT.of upd_same)
    · rw [List.take_length] at hps
      exact (hps.same s3).same s4
end
end FW

set_option Elab.async false
set_option linter.all false
set_option maxRecDepth 100000
set_option maxHeartbeats 4000000
/-! slices of a tuple; level_read. -/
namespace FW
open PySem L2 L2H FH FC
theorem slice_at {K : PySem.W.Frag} {H : Hp} {a : Addr} {xs : List V} {lo hi : Option Int} {Q : VK} (h : SqT K H a xs) (q : ∀ H' p, Same H H' → SqT K H' p (cutV xs lo hi) → Q (.ref p) H') : rSlA K (.ref a) lo hi H Q := by
  refine ⟨a, xs, rfl, h, fun c => q H a (Same.refl _) ?_, fun _ p np => q _ p (same_new np) (SqT.of upd_same)⟩
  unfold cutV
  rw [c.1, c.2, Nat.sub_zero, List.drop_zero, List.take_length]
  exact h
theorem cut_take (xs : List V) (m : Nat) : cutV xs none (some (m : Int)) = xs.take m := by
  unfold cutV
  rw [HT.sIx_none, HT.sIx_nat, List.drop_zero, Nat.sub_zero, ← List.take_eq_take_min]
theorem cut_drop (xs : List V) (m : Nat) (h : m ≤ xs.length) : cutV xs (some (m : Int)) none = xs.drop m := by
  unfold cutV
  rw [HT.sIx_none, HT.sIx_nat, Nat.min_eq_left h]
  exact List.take_of_length_le (by rw [List.length_drop]; omega)
theorem cut_last (xs : List V) : cutV xs none (some (-1)) = xs.dropLast := by
  unfold cutV
  rw [HT.sIx_none]
  show ((xs.drop 0).take ((-1 : Int) + (xs.length : Int)).toNat) = _
  rw [List.drop_zero, List.dropLast_eq_take]
  congr 1
  omega
section
variable {P : Program} {w : World} {K : PySem.W.Frag} {mg : Str → Option Value} {base : Heap} {CS CC : Addr}
def spLrd (K : PySem.W.Frag) (CS : Addr) : Sp := fun vs H Q _ => ∃ (p : Addr) (dm B f : Nat) (a : Addr) (v : View) (b : Addr) (bits : List Nat), vs = [.ref p, iN f, .ref a, .ref b] ∧ SpAt CS H p dm B ∧ dm * B ≤ 10 ∧ f < dm * B ∧
  VwAt K H a v ∧ v.length ≤ 8 ∧ tot v ≤ 8 ∧ (∀ e ∈ v, e.2 ≤ 2 ^ (dm * B - f)) ∧ SqT K H b (iL bits) ∧ (∀ x ∈ bits, x < 2) ∧ bits.length ≤ 1000 ∧
  (levelRead (2 ^ (dm * B - f - 1)) v bits = none → ∀ H', Same H H' → Q .non H') ∧
  (∀ u m, levelRead (2 ^ (dm * B - f - 1)) v bits = some (u, m) → ∀ H' t c, Same H H' → H' t = some (.tup [.ref c, iN m]) → VwAt K H' c u → Q (.ref t) H')
theorem q_lrd {f fP fN fC fF : Addr} {fd fdP fdN fdC fdF : FuncData} (F : Fun K "level_read" "level_read" t_lrd f fd) (TS : TxS K CS) (BB : Bl mg)
    (GP : FnQ P w K mg base 1 fP fdP p_pow spPow) (gP : mg "power" = some (.ref fP)) (kP : PySem.W.keepIn K (.ref fP) = true) (bP : Binds K fdP p_pow [])
    (GN : FnQ P w K mg base 1 fN fdN p_nof (spNof K)) (gN : mg "number_of" = some (.ref fN)) (kN : PySem.W.keepIn K (.ref fN) = true) (bN : Binds K fdN p_nof [])
    (GC : FnQ P w K mg base 2 fC fdC p_cmp (spCmp K CS)) (gC : mg "completions" = some (.ref fC)) (kC : PySem.W.keepIn K (.ref fC) = true) (bC : Binds K fdC p_cmp [])
    (GF : FnQ P w K mg base 3 fF fdF p_fby (spFby K CS)) (gF : mg "finer_by" = some (.ref fF)) (kF : PySem.W.keepIn K (.ref fF) = true) (bF : Binds K fdF p_fby []) : FnQ P w K mg base 4 f fd p_lrd (spLrd K CS) := by
  refine FnQ.of F sc_lrd (fun vs H Q E h => ?_) (fun cc cdv A outer s H vs Q E fx hr h => ?_)
  · obtain ⟨p, dm, B, f, a, v, b, bits, rfl, _⟩ := h
    rfl
  obtain ⟨p, dm, B, f, a, v, b, bits, rfl, hp, hD, hf, hv, hlen, ht, cells, hb, bt, bl, q1, q2⟩ := h
  have nd := sc_lrd.nd
  have hr1 := hr.mono (show 1 ≤ 3 by decide)
  have hr2 := hr.mono (show 2 ≤ 3 by decide)
  refine ⟨_, pss_cons (ps_set (i := 4) nd rfl (.inl rfl) (qe_call GC hr2 fx.nox (by rfl) gC kC bC (pa_cons (pv 0) (pa_cons (pv 1) (pa_cons (pv 2) pa_nil)))))
    (pss_cons (qs_for PassesOwn.never fx.nox (qi_range1 (by rfl) BB.n_range (pa_cons (pe_op op_add (pe_callB call_len_seq (by rfl) BB.n_len PySem.boot_len (pa_cons (pv 3) pa_nil)) pe_int) pa_nil)) (pg_name (i := 5) nd rfl (.inl rfl))
      (pss_cons (qs_par (i := 6) (j := 7) fx.nox nd rfl rfl (by decide) rfl rfl (pa_cons (qe_call GN hr1 fx.nox (by rfl) gN kN bN (pa_cons (pe_slice sl_tupA (pv 3) po_none (po_some (pv 5))) pa_nil)) (pa_cons (qe_call GP hr1 fx.nox (by rfl) gP kP bP (pa_cons (pv 5) pa_nil)) pa_nil)) (by rfl))
      (pss_cons (ps_set (i := 8) nd rfl (.inl rfl) (pe_op op_fdivW (pe_op op_mulW (pv 4) (pv 6)) (pv 7)))
      (pss_cons (ps_asg (qe_call GF hr fx.nox (by rfl) gF kF bF (pa_cons (pv 0) (pa_cons (pv 1) (pa_cons (pv 2) (pa_cons (pv 8) pa_nil))))) (qg_tup fx.nox (pgs_cons (pg_name (i := 9) nd rfl (.inl rfl)) (pgs_cons (pg_name (i := 10) nd rfl (.inl rfl)) pgs_nil))))
      (pss_cons (ps_set (i := 11) nd rfl (.inl rfl) (qe_call GC hr2 fx.nox (by rfl) gC kC bC (pa_cons (pv 0) (pa_cons (pe_op op_add (pv 1) pe_int) (pa_cons (pv 9) pa_nil)))))
      (pss_cons (ps_set (i := 12) nd rfl (.inl rfl) (pe_op op_sub (pv 8) (pv 10)))
      (pss_one (ps_if (PW.pt (pw_and (pt_cmpR op_le (pe_op op_mulW (pv 12) (pv 7)) (pe_op op_mulW (pv 4) (pv 6)) (nomark _)) (pw_and1 (pt_cmpR op_le (pe_op op_mulW (pv 4) (pe_op op_add (pv 6) pe_int)) (pe_op op_mulW (pe_op op_add (pv 12) (pv 11)) (pv 7)) (nomark _)))))
        (pss_one (ps_ret (pe_tup (pa_cons (pv 9) (pa_cons (pv 5) pa_nil))))) pss_nil))))))))
    (pss_one (ps_ret pe_non))), ?_⟩
  obtain ⟨dx, ep⟩ := id hp
  have hs := pow_le1024 (show dm * B - f ≤ 10 by omega)
  have h2 : 2 * 2 ^ (dm * B - f - 1) = 2 ^ (dm * B - f) := two_half hf
  have h3 : 2 ^ (dm * B - (f + 1)) = 2 ^ (dm * B - f - 1) := by rw [Nat.sub_sub]
  have hs1 : 2 ^ (dm * B - f - 1) ≤ 1024 := pow_le1024 (by omega)
  have W0 : 0 < W (2 * 2 ^ (dm * B - f - 1)) v := W_pos _ (by rw [h2]; exact cells)
  have WL : W (2 * 2 ^ (dm * B - f - 1)) v < 2 ^ 81 := by rw [h2]; exact W_lt81 hs ht
  refine ⟨_, rfl, _, rfl, _, rfl, p, dm, B, f, a, v, rfl, hp, hD, by omega, hv, ht, ?_⟩
  rw [← h2]
  refine ⟨_, rfl, b, _, rfl, .inr hb, _, _, rfl, rfl, ((bits.length + 1 : Nat) : Int), ?_, (lt62 (by omega)).1, (lt62 (by omega)).2,
    for_range (lo := 0) (fun i σ H1 => Same H H1 ∧ (∀ j, j < i → okR (2 ^ (dm * B - f - 1)) v bits j = false) ∧ ∃ (x5 x6 x7 x8 x9 x10 x11 x12 : Option V), σ = [some (.ref p), some (iN f), some (.ref a), some (.ref b), some (iN (W (2 * 2 ^ (dm * B - f - 1)) v)), x5, x6, x7, x8, x9, x10, x11, x12])
      ⟨Same.refl _, fun j hj => absurd hj (Nat.not_lt_zero _), none, none, none, none, none, none, none, none, rfl⟩ ?_ ?_⟩
  · rw [List.length_map]
    rfl
  · rintro i σ H1 hi ⟨s1, no, x5, x6, x7, x8, x9, x10, x11, x12, rfl⟩
    have hi : i ≤ bits.length := by
      have : i < ((bits.length + 1 : Nat) : Int).toNat := hi
      omega
    have num : numOf (bits.take i) < 2 ^ i := numOf_lt i _ (by rw [List.length_take]; omega) fun x hx => bt x (List.mem_of_mem_take hx)
    have pw : 2 ^ i < 2 ^ 1001 := Nat.pow_lt_pow_right (by decide) (by omega)
    have hptr := ptr_lt (bits := bits) W0 bt hi
    obtain ⟨fits, dn, dl⟩ := dec_spec (2 ^ (dm * B - f - 1)) v 1 (ptr (2 ^ (dm * B - f - 1)) v bits i) (by rw [Nat.one_mul]; exact hptr)
    have p0 : 0 < 2 ^ i := Nat.two_pow_pos i
    have one : 1 ≤ 2 ^ i := p0
    refine ⟨.ref b, rfl, V.int (0 + (i : Int)), rfl, 0 + (i : Int), rfl, slice_at (Same.tp s1 hb) fun H2 c s2 hc => ⟨c, bits.take i, rfl, ?_, V.int (0 + (i : Int)), rfl, i, congrArg (fun z => [V.int z]) (by omega), by omega, _, _, rfl, ?_⟩⟩
    · rw [show (0 : Int) + (i : Int) = (i : Int) by omega, cut_take] at hc
      unfold iL
      rw [List.map_take]
      exact hc
    have s12 := s1.trans s2
    -- number
    refine ⟨_, rfl, _, rfl, _, _, rfl, rfl, wide_mul (a := 81) (b := 1001) WL (Nat.lt_trans num pw) (by decide) (by decide) (by decide), _, rfl, _, _, rfl, rfl, wide_div (b := 1001) (Int.ofNat_lt.mpr p0) pw (by decide) (by decide), ?_⟩
    -- finer, rest
    refine ⟨_, rfl, _, rfl, _, rfl, iN (ptr (2 ^ (dm * B - f - 1)) v bits i), rfl, p, dm, B, f, a, v, ptr (2 ^ (dm * B - f - 1)) v bits i, rfl, hp.same s12, hD, hf, hv.same s12, hlen, ht, cells, by rw [← h2]; exact hptr, fun H3 t u s3 et hu => ⟨t, _, rfl, SqT.of et, rfl, _, _, rfl, _, _, rfl, rfl, ?_⟩⟩
    have s13 := s12.trans s3
    -- share
    refine ⟨_, rfl, _, rfl, _, _, rfl, rfl, _, rfl, p, dm, B, f + 1, u, _, rfl, hp.same s13, hD, hf, hu, by rw [tot_nxt _ _ fits]; exact ht, ?_⟩
    rw [h3]
    have ok : okR (2 ^ (dm * B - f - 1)) v bits i = decide ((ptr (2 ^ (dm * B - f - 1)) v bits i - (dec (2 ^ (dm * B - f - 1)) 1 v (ptr (2 ^ (dm * B - f - 1)) v bits i)).2) * 2 ^ i ≤ W (2 * 2 ^ (dm * B - f - 1)) v * numOf (bits.take i) ∧
      W (2 * 2 ^ (dm * B - f - 1)) v * (numOf (bits.take i) + 1) ≤ ((ptr (2 ^ (dm * B - f - 1)) v bits i - (dec (2 ^ (dm * B - f - 1)) 1 v (ptr (2 ^ (dm * B - f - 1)) v bits i)).2) + W (2 ^ (dm * B - f - 1)) (nxt v (dec (2 ^ (dm * B - f - 1)) 1 v (ptr (2 ^ (dm * B - f - 1)) v bits i)).1)) * 2 ^ i) := rfl
    have yes := fun h => levelRead_some (h := 2 ^ (dm * B - f - 1)) (v := v) (bits := bits) hi h no
    have SL : W (2 ^ (dm * B - f - 1)) (nxt v (dec (2 ^ (dm * B - f - 1)) 1 v (ptr (2 ^ (dm * B - f - 1)) v bits i)).1) < 2 ^ 81 := W_lt81 hs1 (by rw [tot_nxt _ _ fits]; exact ht)
    generalize dec (2 ^ (dm * B - f - 1)) 1 v (ptr (2 ^ (dm * B - f - 1)) v bits i) = d at *
    obtain ⟨as, r⟩ := d
    have SL : W (2 ^ (dm * B - f - 1)) (nxt v as) < 2 ^ 81 := SL
    generalize hpt : ptr (2 ^ (dm * B - f - 1)) v bits i = pt at *
    generalize hnum : numOf (bits.take i) = nm at *
    have hrle : r ≤ pt := by
      have dn : pt = _ + r := dn
      omega
    have e12 : (pt : Int) - (r : Int) = ((pt - r : Nat) : Int) := nn_sub hrle
    -- low
    refine ⟨iN pt, ?_, _, rfl, _, _, rfl, rfl, ?_⟩
    · rw [← hpt, ← hnum]
      rfl
    have e4 : (2 : Nat) ^ 82 = 2 * 2 ^ 81 := by decide +kernel
    have e5 : (2 : Nat) ^ 1002 = 2 * 2 ^ 1001 := by decide +kernel
    -- the test
    refine ⟨iN (pt - r), congrArg (fun z => some (some (V.int z))) e12, _, rfl, _, _, rfl, rfl, wide_mul (a := 81) (b := 1001) (by show pt - r < 2 ^ 81; omega) pw (by decide) (by decide) (by decide), _, rfl, _, rfl, _, _, rfl, rfl, wide_mul (a := 81) (b := 1001) WL (Nat.lt_trans num pw) (by decide) (by decide) (by decide), _, _, rfl, rfl, _, rfl, ?_⟩
    by_cases c1 : (pt - r) * 2 ^ i ≤ W (2 * 2 ^ (dm * B - f - 1)) v * nm
    · rw [decide_eq_true (show ((pt - r : Nat) : Int) * ((2 ^ i : Nat) : Int) ≤ ((W (2 * 2 ^ (dm * B - f - 1)) v : Nat) : Int) * (nm : Int) from Int.ofNat_le.mpr c1)]
      refine iteT ⟨_, rfl, _, rfl, _, _, rfl, rfl, _, ((nm + 1 : Nat) : Int), rfl, rfl, wide_mul (a := 81) (b := 1002) WL (by show nm + 1 < 2 ^ 1002; omega) (by decide) (by decide) (by decide), iN (pt - r), congrArg (fun z => some (some (V.int z))) e12, _, rfl, _, _, rfl, rfl, _, rfl,
        ((pt - r + W (2 ^ (dm * B - f - 1)) (nxt v as) : Nat) : Int), _, rfl, rfl, wide_mul (a := 82) (b := 1001) (by show pt - r + W (2 ^ (dm * B - f - 1)) (nxt v as) < 2 ^ 82; omega) pw (by decide) (by decide) (by decide), _, _, rfl, rfl, _, rfl, ?_⟩
      by_cases c2 : W (2 * 2 ^ (dm * B - f - 1)) v * (nm + 1) ≤ (pt - r + W (2 ^ (dm * B - f - 1)) (nxt v as)) * 2 ^ i
      · rw [decide_eq_true (show ((W (2 * 2 ^ (dm * B - f - 1)) v : Nat) : Int) * ((nm + 1 : Nat) : Int) ≤ ((pt - r + W (2 ^ (dm * B - f - 1)) (nxt v as) : Nat) : Int) * ((2 ^ i : Nat) : Int) from Int.ofNat_le.mpr c2)]
        have okT : okR (2 ^ (dm * B - f - 1)) v bits i = true := by rw [ok]; exact decide_eq_true ⟨c1, c2⟩
        refine iteT ⟨_, rfl, _, rfl, (by show 2 ≤ sizeLine; decide), fun t2 n2 => q2 _ _ (yes okT) _ t2 u (s13.trans (same_new n2)) ?_ (hu.same (same_new n2))⟩
        rw [upd_same]
        exact congrArg (fun z => some (HO.tup [V.ref u, V.int z])) (by omega)
      · rw [decide_eq_false (show ¬ ((W (2 * 2 ^ (dm * B - f - 1)) v : Nat) : Int) * ((nm + 1 : Nat) : Int) ≤ ((pt - r + W (2 ^ (dm * B - f - 1)) (nxt v as) : Nat) : Int) * ((2 ^ i : Nat) : Int) from fun z => c2 (Int.ofNat_le.mp z))]
        have okF : okR (2 ^ (dm * B - f - 1)) v bits i = false := by rw [ok]; exact decide_eq_false fun z => c2 z.2
        refine iteF ⟨s13, fun j hj => ?_, _, _, _, _, _, _, _, _, rfl⟩
        by_cases z : j < i
        · exact no j z
        · rw [show j = i by omega]
          exact okF
    · rw [decide_eq_false (show ¬ ((pt - r : Nat) : Int) * ((2 ^ i : Nat) : Int) ≤ ((W (2 * 2 ^ (dm * B - f - 1)) v : Nat) : Int) * (nm : Int) from fun z => c1 (Int.ofNat_le.mp z))]
      have okF : okR (2 ^ (dm * B - f - 1)) v bits i = false := by rw [ok]; exact decide_eq_false fun z => c1 z.1
      refine iteF (iteF ⟨s13, fun j hj => ?_, _, _, _, _, _, _, _, _, rfl⟩)
      by_cases z : j < i
      · exact no j z
      · rw [show j = i by omega]
        exact okF
  · rintro σ H1 ⟨s1, no, x5, x6, x7, x8, x9, x10, x11, x12, rfl⟩
    refine q1 (levelRead_none fun i hi => no i ?_) H1 s1
    show i < ((bits.length + 1 : Nat) : Int).toNat
    omega
end
end FW

set_option Elab.async false
set_option linter.all false
set_option maxRecDepth 100000
set_option maxHeartbeats 4000000
/-! Space: is_point, check_point, woven, point_of, __init__. -/
namespace FW
open PySem L2 L2H FH FC
theorem sq_ty {K : PySem.W.Frag} {H : Hp} {a : Addr} {xs : List V} (h : SqT K H a xs) : TyX K H (.ref a) (.type "tuple") := by
  rcases h with (h | ⟨o, h⟩) | ⟨o, its, n, hk, hc, _⟩
  · exact .base (.tup h)
  · exact .fTuple h
  · exact .kTuple hk hc
theorem ix_nat {n j : Nat} (hj : j < n) : ixN n (j : Int) = some j := by
  unfold ixN
  rw [if_pos (Int.natCast_nonneg j), if_pos (Int.ofNat_lt.mpr hj)]
  rfl
theorem il_get {l : List Nat} {i : Nat} {x : V} (h : (iL l)[i]? = some x) : ∃ b, l[i]? = some b ∧ x = iN b := by
  unfold iL at h
  rw [List.getElem?_map] at h
  cases e : l[i]? with
  | none => rw [e] at h; cases h
  | some b => rw [e] at h; exact ⟨b, rfl, (Option.some.inj h).symm⟩
theorem getD_get {l : List Nat} {i b : Nat} (h : l[i]? = some b) : l.getD i 0 = b := by
  rw [List.getD_eq_getElem?_getD, h]
  rfl
/-- room of point_of at a turn -/
def rmv (m t : Nat) : Nat := if t < m then 2 ^ (m - 1 - t) else 1
theorem rmv_next {m t : Nat} (h : t < m) : (if (((rmv m t / 2 : Nat) : Int) > 1) then ((rmv m t / 2 : Nat) : Int) else 1) = ((rmv m (t + 1) : Nat) : Int) := by
  unfold rmv
  rw [if_pos h]
  by_cases c : t + 1 < m
  · rw [if_pos c, show m - 1 - t = (m - 1 - (t + 1)) + 1 by omega, Nat.pow_succ, Nat.mul_div_cancel _ (by decide)]
    have p := Nat.two_pow_pos (m - 1 - (t + 1))
    split <;> omega
  · rw [if_neg c, show m - 1 - t = 0 by omega]
    rfl
section
variable {P : Program} {w : World} {K : PySem.W.Frag} {mg : Str → Option Value} {base : Heap} {CS CC : Addr}
def spSpt (K : PySem.W.Frag) (CS : Addr) : Sp := fun vs H Q _ => ∃ (p : Addr) (dm B : Nat) (a : Addr) (l : List Nat), vs = [.ref p, .ref a] ∧ SpAt CS H p dm B ∧ SqT K H a (iL l) ∧ Pt B dm l ∧ dm ≤ 10 ∧ ∀ H', Same H H' → Q (.bl true) H'
theorem q_spt {f fI : Addr} {fd fdI : FuncData} (F : Fun K "is_point" "Space.is_point" t_spt f fd) (TS : TxS K CS) (BB : Bl mg)
    (GI : FnQ P w K mg base 1 fI fdI p_isw spIsw) (gI : mg "is_whole" = some (.ref fI)) (kI : PySem.W.keepIn K (.ref fI) = true) (bI : Binds K fdI p_isw []) : FnQ P w K mg base 2 f fd p_spt (spSpt K CS) := by
  refine FnQ.of F sc_spt (fun vs H Q E h => ?_) (fun cc cdv A outer s H vs Q E fx hr h => ?_)
  · obtain ⟨p, dm, B, a, l, rfl, _⟩ := h
    rfl
  obtain ⟨p, dm, B, a, l, rfl, hp, ha, hl, hd, q⟩ := h
  have nd := sc_spt.nd
  refine ⟨_, pss_cons (ps_if (PW.pt (pw_or (pt_not (pt_val (pe_callB call_isi (by rfl) BB.n_isinstance (by decide +kernel) (pa_cons (pv 1) (pa_cons (pe_bltn (v := .ty "tuple") (by rfl) BB.n_tuple (by decide +kernel) rfl) pa_nil)))))
        (pw_or1 (pt_cmpR op_ne (pe_callB call_len_seq (by rfl) BB.n_len PySem.boot_len (pa_cons (pv 1) pa_nil)) (pe_fld (pv 0) rfl) (nomark _))))) (pss_one (ps_ret pe_bl)) pss_nil)
    (pss_one (ps_ret (pe_callB (cq_all fx.nox) (by rfl) BB.n_all (by decide +kernel) (pa_cons
      (qe_lc (own := [("number", 2)]) (g := gName 2) (tt := tYes) fx.nox nd (qi_tup (pv 1)) (blkOk_by (N := n_spt) (sc := defScope t_spt) (by decide +kernel)) (fun _ _ _ _ _ => pg_name (i := 2) nd rfl (.inl rfl)) (fun _ _ _ _ _ => pts_nil)
        (fun _ _ _ _ _ => qe_call GI hr fx.nox.blk (by rfl) gI kI bI (pa_cons (pv 2) (pa_cons pe_int (pa_cons (pe_op op_sub (pe_fldK (K := K) rfl (pv 0) rfl) pe_int) pa_nil))))) pa_nil)))), ?_⟩
  obtain ⟨dx, ep⟩ := id hp
  obtain ⟨ll, lb⟩ := hl
  refine ⟨_, rfl, _, _, _, _, _, rfl, .ty _, sq_ty ha, kit_ty (by decide +kernel), true, rfl, iteF ?_⟩
  refine ⟨.ref a, rfl, a, _, rfl, .inr ha, .ref p, rfl, p, CS, dx, _, _, rfl, ep, TS.cl, TS.nDim, fS_dim _ _, rfl, _, rfl, ?_⟩
  refine iteNS (by rw [List.length_map, ll]) ?_
  refine ⟨.ref a, rfl, a, rfl, ⟨_, ha⟩, fun D nD => lc_tup (xs := iL l) (fun i H1 => Same H H1 ∧ H1 D = some (.lst ((List.replicate i true).map V.bl))) ⟨same_new nD, upd_same⟩ (fun i H' _ h => Same.tp h.1 ha) ?_ ?_⟩
  · rintro i x H1 hi ⟨s1, e1⟩
    obtain ⟨b, hb, rfl⟩ := il_get hi
    have hb2 : b < 2 ^ B := lb b (List.mem_of_getElem? hb)
    have hi10 : i < 10 := by
      have := (List.getElem?_eq_some_iff.mp hb).1
      omega
    refine ⟨rfl, _, rfl, _, rfl, p, CS, dx, _, _, rfl, s1 _ _ ep, TS.cl, TS.nSide, fS_side _ _, _, _, rfl, rfl, _, _, _, rfl, _, e1, ?_, same_at s1 nD, ?_⟩
    · rw [List.length_map, List.length_replicate]
      exact small1000 (by omega)
    · rw [upd_same, decide_eq_true (show (0 : Int) ≤ (b : Int) ∧ (b : Int) ≤ ((2 ^ B : Nat) : Int) - 1 by omega), List.replicate_succ', List.map_append]
      rfl
  · rintro H1 ⟨s1, e1⟩
    refine ⟨D, List.replicate (iL l).length true, rfl, SqL.of e1, ?_⟩
    rw [show (List.replicate (iL l).length true).all id = true by simp]
    exact q H1 s1
def spSck (K : PySem.W.Frag) (CS : Addr) : Sp := fun vs H Q _ => ∃ (p : Addr) (dm B : Nat) (a : Addr) (l : List Nat), vs = [.ref p, .ref a] ∧ SpAt CS H p dm B ∧ SqT K H a (iL l) ∧ Pt B dm l ∧ dm ≤ 10 ∧ ∀ H', Same H H' → Q .non H'
theorem fS_no (dm B : Nat) {m : Str} (h : ∀ x ∈ (fldsS dm B), m ≠ x.1) : (fldsS dm B).lookup m = none := by
  have go : ∀ l : List (Str × V), (∀ x ∈ l, m ≠ x.1) → l.lookup m = none := fun l => by
    induction l with
    | nil => intro _; rfl
    | cons x l ih =>
      intro hx
      rw [show (x :: l).lookup m = if (m == x.1) = true then some x.2 else l.lookup m by
        show (match m == x.1 with | true => some x.2 | false => l.lookup m) = _
        cases m == x.1 <;> rfl]
      rw [if_neg (by rw [beq_iff_eq]; exact hx x List.mem_cons_self)]
      exact ih fun y hy => hx y (List.mem_cons_of_mem _ hy)
  exact go _ h
theorem fS_isp (dm B : Nat) : (fldsS dm B).lookup ("is_point" : Str) = none := rfl
theorem fS_chk (dm B : Nat) : (fldsS dm B).lookup ("check_point" : Str) = none := rfl
theorem fS_wov (dm B : Nat) : (fldsS dm B).lookup ("woven" : Str) = none := rfl
theorem fS_pof (dm B : Nat) : (fldsS dm B).lookup ("point_of" : Str) = none := rfl
theorem q_sck {f fI : Addr} {fd fdI : FuncData} (F : Fun K "check_point" "Space.check_point" t_sck f fd) (TS : TxS K CS)
    (GI : FnQ P w K mg base 2 fI fdI p_spt (spSpt K CS)) (mI : Meth K CS "is_point" fI) (bI : Binds K fdI p_spt []) : FnQ P w K mg base 3 f fd p_sck (spSck K CS) := by
  refine FnQ.of F sc_sck (fun vs H Q E h => ?_) (fun cc cdv A outer s H vs Q E fx hr h => ?_)
  · obtain ⟨p, dm, B, a, l, rfl, _⟩ := h
    rfl
  obtain ⟨p, dm, B, a, l, rfl, hp, ha, hl, hd, q⟩ := h
  refine ⟨_, pss_one (ps_if (pt_not (pt_val (qe_meth (pv 0) TS.cl mI GI hr fx.nox bI (pa_cons (pv 1) pa_nil)))) (pss_one ps_never) pss_nil), ?_⟩
  obtain ⟨dx, ep⟩ := id hp
  exact ⟨_, rfl, p, dx, _, rfl, ep, fS_isp _ _, _, rfl, p, dm, B, a, l, rfl, hp, ha, hl, hd, fun H' s' => ⟨true, rfl, iteF (q H' s')⟩⟩
def spSwv (K : PySem.W.Frag) (CS : Addr) : Sp := fun vs H Q _ => ∃ (p : Addr) (dm B : Nat) (a : Addr) (l : List Nat), vs = [.ref p, .ref a] ∧ SpAt CS H p dm B ∧ SqT K H a (iL l) ∧ Pt B dm l ∧ dm ≤ 10 ∧ B ≤ 10 ∧ 0 < B ∧ ∀ H', Same H H' → Q (iN (wv B dm l)) H'
theorem q_swv {f fI : Addr} {fd fdI : FuncData} (F : Fun K "woven" "Space.woven" t_swv f fd) (TS : TxS K CS) (BB : Bl mg)
    (GI : FnQ P w K mg base 3 fI fdI p_sck (spSck K CS)) (mI : Meth K CS "check_point" fI) (bI : Binds K fdI p_sck []) : FnQ P w K mg base 4 f fd p_swv (spSwv K CS) := by
  refine FnQ.of F sc_swv (fun vs H Q E h => ?_) (fun cc cdv A outer s H vs Q E fx hr h => ?_)
  · obtain ⟨p, dm, B, a, l, rfl, _⟩ := h
    rfl
  obtain ⟨p, dm, B, a, l, rfl, hp, ha, hl, hd, hB, hB0, q⟩ := h
  have nd := sc_swv.nd
  refine ⟨_, pss_cons (ps_expr (qe_meth (pv 0) TS.cl mI GI hr fx.nox bI (pa_cons (pv 1) pa_nil)))
    (pss_cons (qs_par (i := 2) (j := 3) fx.nox nd rfl rfl (by decide) rfl rfl (pa_cons pe_int (pa_cons (pe_op op_fdiv (pe_fld (pv 0) rfl) pe_int) pa_nil)) (by rfl))
    (pss_cons (qs_for PassesOwn.never fx.nox (qi_range1 (by rfl) BB.n_range (pa_cons (pe_fld (pv 0) rfl) pa_nil)) (pg_name (i := 4) nd rfl (.inl rfl))
      (pss_cons (qs_for PassesOwn.never fx.nox (qi_tup (pv 1)) (pg_name (i := 5) nd rfl (.inl rfl)) (pss_one (ps_set (i := 2) nd rfl (.inl rfl) (pe_op op_add (pe_op op_mul (pv 2) pe_int) (pe_op op_mod (pe_callTy call_int1 (by rfl) BB.n_int (by decide +kernel) (pa_cons (pe_op op_fdivW (pv 5) (pv 3)) pa_nil)) pe_int)))))
      (pss_one (ps_set (i := 3) nd rfl (.inl rfl) (pe_op op_fdiv (pv 3) pe_int)))))
    (pss_one (ps_ret (pv 2))))), ?_⟩
  obtain ⟨dx, ep⟩ := id hp
  obtain ⟨ll, lb⟩ := id hl
  refine ⟨_, rfl, p, dx, _, rfl, ep, fS_chk _ _, _, rfl, p, dm, B, a, l, rfl, hp, ha, hl, hd, fun H1 s1 => ?_⟩
  refine ⟨_, rfl, p, CS, dx, _, _, rfl, s1 _ _ ep, TS.cl, TS.nSide, fS_side _ _, _, _, rfl, rfl, ⟨by decide, by decide⟩, _, _, rfl, ?_⟩
  refine ⟨_, rfl, p, CS, dx, _, _, rfl, s1 _ _ ep, TS.cl, TS.nBits, fS_bits _ _, _, rfl, (lt62 (by omega)).1, (lt62 (by omega)).2,
    for_range (lo := 0) (fun t σ H2 => Same H H2 ∧ ∃ x4 x5 : Option V, σ = [some (.ref p), some (.ref a), some (iN (asm (dig B dm l) (t * dm))), some (iN (2 ^ B / 2 ^ (t + 1))), x4, x5]) ⟨s1, none, none, ?_⟩ ?_ ?_⟩
  · rw [Nat.zero_mul]
    rfl
  · rintro t σ H2 ht ⟨s2, x4, x5, rfl⟩
    have ht : t < B := ht
    refine ⟨.ref a, rfl, a, rfl, ⟨_, Same.tp s2 ha⟩, for_tup (xs := iL l) (fun j σ H3 => Same H H3 ∧ ∃ x4 x5 : Option V, σ = [some (.ref p), some (.ref a), some (iN (asm (dig B dm l) (t * dm + j))), some (iN (2 ^ B / 2 ^ (t + 1))), x4, x5]) ⟨s2, _, _, rfl⟩ (fun j σ H3 _ h => Same.tp h.1 ha) ?_ ?_⟩
    · rintro j x σ H3 hj ⟨s3, x4, x5, rfl⟩
      obtain ⟨b, hb, rfl⟩ := il_get hj
      have hj : j < dm := by
        have := (List.getElem?_eq_some_iff.mp hb).1
        omega
      have hp2 : 2 ^ (B - 1 - t) < 2 ^ 20 := Nat.pow_lt_pow_right (by decide) (by omega)
      have e1 := wv_step (B := B) (q := t) (p := l) hj
      rw [getD_get hb] at e1
      rw [room_half ht]
      refine ⟨_, rfl, _, _, rfl, rfl, .inr (by decide), _, rfl, _, rfl, _, _, rfl, rfl, wide_div (b := 20) (Int.ofNat_lt.mpr (Nat.two_pow_pos (B - 1 - t))) hp2 (by decide) (by decide), .inl ⟨_, rfl, _, _, rfl, rfl, (by show (0 : Int) < 2; decide), _, _, rfl, rfl, s3, x4, some (iN b), ?_⟩⟩
      rw [← Nat.add_assoc, e1]
      rfl
    · rintro σ H3 ⟨s3, x4, x5, rfl⟩
      refine ⟨_, rfl, _, _, rfl, rfl, ⟨by decide, by decide⟩, s3, x4, x5, ?_⟩
      rw [List.length_map, ll, ← room_next, Nat.succ_mul]
      rfl
  · rintro σ H2 ⟨s2, x4, x5, rfl⟩
    refine ⟨_, rfl, ?_⟩
    have e : asm (dig B dm l) ((B : Int).toNat * dm) = wv B dm l := by
      unfold wv
      rw [Nat.mul_comm dm B]
      rfl
    rw [e]
    exact q H2 s2
end
end FW

set_option Elab.async false
set_option linter.all false
set_option maxRecDepth 100000
set_option maxHeartbeats 4000000
/-! Space: point_of, __init__. -/
namespace FW
open PySem L2 L2H FH FC
theorem flat_rep : ∀ k : Nat, (List.replicate k [V.int 0]).flatten = iL (List.replicate k 0)
  | 0 => rfl
  | k + 1 => by
    rw [List.replicate_succ, List.replicate_succ, List.flatten_cons, flat_rep k]
    rfl
section
variable {P : Program} {w : World} {K : PySem.W.Frag} {mg : Str → Option Value} {base : Heap} {CS CC : Addr}
def spSpo (K : PySem.W.Frag) (CS : Addr) : Sp := fun vs H Q _ => ∃ (p : Addr) (dm B n : Nat), vs = [.ref p, iN n] ∧ SpAt CS H p dm B ∧ 0 < dm ∧ 0 < B ∧ dm * B ≤ 10 ∧ dm ≤ 10 ∧ ∀ H' t, Same H H' → H' t = some (.tup (iL (pt B dm n))) → Q (.ref t) H'
theorem q_spo {f fP : Addr} {fd fdP : FuncData} (F : Fun K "point_of" "Space.point_of" t_spo f fd) (TS : TxS K CS) (BB : Bl mg)
    (GP : FnQ P w K mg base 1 fP fdP p_pow spPow) (gP : mg "power" = some (.ref fP)) (kP : PySem.W.keepIn K (.ref fP) = true) (bP : Binds K fdP p_pow []) : FnQ P w K mg base 2 f fd p_spo (spSpo K CS) := by
  refine FnQ.of F sc_spo (fun vs H Q E h => ?_) (fun cc cdv A outer s H vs Q E fx hr h => ?_)
  · obtain ⟨p, dm, B, n, rfl, _⟩ := h
    rfl
  obtain ⟨p, dm, B, n, rfl, hp, hd0, hB0, hD, hd, q⟩ := h
  have nd := sc_spo.nd
  refine ⟨_, pss_cons (qs_par (i := 2) (j := 3) fx.nox nd rfl rfl (by decide) rfl rfl (pa_cons (pe_op op_rep (pe_lst (pa_cons pe_int pa_nil)) (pe_fld (pv 0) rfl)) (pa_cons (pe_op op_fdiv (qe_call GP hr fx.nox (by rfl) gP kP bP (pa_cons (pe_fld (pv 0) rfl) pa_nil)) pe_int) pa_nil)) (by rfl))
    (pss_cons (qs_for PassesOwn.never fx.nox (qi_range1 (by rfl) BB.n_range (pa_cons (pe_fld (pv 0) rfl) pa_nil)) (pg_name (i := 4) nd rfl (.inl rfl))
      (pss_cons (ps_set (i := 5) nd rfl (.inl rfl) (pe_op op_mod (pe_callTy call_int1 (by rfl) BB.n_int (by decide +kernel) (pa_cons (pv 4) pa_nil)) (pe_fld (pv 0) rfl)))
      (pss_cons (ps_asg (pe_op op_add (pe_op op_mul (pe_ix ix_list (pv 2) (pv 5) (fun _ _ => rfl)) pe_int) (pe_op op_mod (pe_callTy call_int1 (by rfl) BB.n_int (by decide +kernel) (pa_cons (pe_op op_fdivW (pv 1) (pv 3)) pa_nil)) pe_int)) (pg_sub (pv 2) (pv 5) set_list))
      (pss_one (ps_set (i := 3) nd rfl (.inl rfl) (pe_callB (cq_max2 fx.nox) (by rfl) BB.n_max (by decide +kernel) (pa_cons pe_int (pa_cons (pe_op op_fdiv (pv 3) pe_int) pa_nil))))))))
    (pss_one (ps_ret (pe_callTy call_tuple_of (by rfl) BB.n_tuple (by decide +kernel) (pa_cons (pv 2) pa_nil))))), ?_⟩
  obtain ⟨dx, ep⟩ := id hp
  have hm : 0 < dm * B := Nat.mul_pos hd0 hB0
  have sz : ([iN 0] : List V).length * ((dm : Nat) : Int).toNat ≤ sizeLine := by
    have : (1000 : Nat) ≤ sizeLine := by decide
    show 1 * dm ≤ sizeLine
    omega
  have l63 : -(2 ^ 63) ≤ (dm : Int) ∧ (dm : Int) < 2 ^ 63 := by
    have e : (2 : Int) ^ 63 = 9223372036854775808 := by decide +kernel
    rw [e]
    omega
  refine ⟨(by show 1 ≤ sizeLine; decide), fun o no => ?_⟩
  have nop : p ≠ o := ne_of_none ep no
  refine ⟨_, rfl, p, CS, dx, _, _, rfl, (upd_ne nop).trans ep, TS.cl, TS.nDim, fS_dim _ _, o, _, _, rfl, rfl, upd_same, l63.1, l63.2, sz, fun o2 no2 => ?_⟩
  have s1 : Same H _ := (same_new (o := .lst [V.int 0]) no).trans (same_new (o := .lst ((List.replicate ((dm : Nat) : Int).toNat [V.int 0]).flatten)) no2)
  refine ⟨_, rfl, p, CS, dx, _, _, rfl, s1 _ _ ep, TS.cl, TS.nDepth, fS_depth _ _, dm * B, rfl, by omega, _, _, rfl, rfl, ⟨by decide, by decide⟩, _, _, rfl, ?_⟩
  have hfree : H o2 = none := (same_new (o := .lst [V.int 0]) no).free no2
  refine ⟨_, rfl, p, CS, dx, _, _, rfl, s1 _ _ ep, TS.cl, TS.nDepth, fS_depth _ _, _, rfl, (lt62 (by omega)).1, (lt62 (by omega)).2,
    for_range (lo := 0) (fun t σ H2 => Same H H2 ∧ H2 o2 = some (.lst (iL (ptGo B dm n t))) ∧ ∃ x4 x5 : Option V, σ = [some (.ref p), some (iN n), some (.ref o2), some (iN (rmv (dm * B) t)), x4, x5]) ⟨s1, ?_, none, none, ?_⟩ ?_ ?_⟩
  · rw [upd_same, ptGo_zero]
    exact congrArg (fun z => some (HO.lst z)) (flat_rep dm)
  · have e : ((2 ^ (dm * B) : Nat) : Int) / 2 = ((rmv (dm * B) 0 : Nat) : Int) := by
      unfold rmv
      rw [if_pos hm, ← room_half hm]
      rfl
    exact congrArg (fun z => [some (V.ref p), some (iN n), some (V.ref o2), some (V.int z), none, none]) e
  · rintro t σ H2 ht ⟨s2, e2, x4, x5, rfl⟩
    have ht : t < dm * B := ht
    have hj : t % dm < dm := Nat.mod_lt _ hd0
    have g := ptGo_at (B := B) (n := n) (t := t) hd0
    have gi : atI (iL (ptGo B dm n t)) ((t % dm : Nat) : Int) = some (iN (asm (cdig B dm n (t % dm)) (t / dm))) := atI_nat (by unfold iL; rw [List.getElem?_map, g]; rfl)
    have st := ptGo_step (B := B) (n := n) (t := t) hd0
    have hrm : rmv (dm * B) t = 2 ^ (dm * B - 1 - t) := by unfold rmv; rw [if_pos ht]
    have hp2 : 2 ^ (dm * B - 1 - t) < 2 ^ 20 := Nat.pow_lt_pow_right (by decide) (by omega)
    have ea : ((0 : Int) + (t : Int)) % (dm : Int) = ((t % dm : Nat) : Int) := by
      rw [Int.zero_add]
      rfl
    -- axis
    refine ⟨V.int (0 + (t : Int)), rfl, .inl ⟨_, rfl, _, rfl, p, CS, dx, _, _, rfl, s2 _ _ ep, TS.cl, TS.nDim, fS_dim _ _, _, _, rfl, rfl, (Int.ofNat_lt.mpr hd0), ?_⟩⟩
    -- found[axis] = ..
    refine ⟨_, rfl, iN (t % dm), congrArg (fun z => some (some (V.int z))) ea, o2, _, _, _, rfl, rfl, SqL.of e2, gi, _, _, rfl, rfl, .inr (by decide),
      _, rfl, _, rfl, _, ((2 ^ (dm * B - 1 - t) : Nat) : Int), rfl, congrArg iN hrm, wide_div (b := 20) (Int.ofNat_lt.mpr (Nat.two_pow_pos _)) hp2 (by decide) (by decide), .inl ⟨_, rfl, _, _, rfl, rfl, (by show (0 : Int) < 2; decide), _, _, rfl, rfl,
      _, rfl, iN (t % dm), congrArg (fun z => some (some (V.int z))) ea, o2, _, _, t % dm, rfl, rfl, e2, ix_nat (by unfold iL; rw [List.length_map, ptGo_len]; exact hj), ?_⟩⟩
    -- room
    refine ⟨_, rfl, _, _, rfl, rfl, ⟨by decide, by decide⟩, _, _, rfl, same_at s2 hfree, ?_, some (V.int (0 + (t : Int))), some (iN (t % dm)), ?_⟩
    · rw [upd_same, st]
      unfold iL
      rw [List.map_set]
      rfl
    · have e5 := rmv_next ht
      show [some (V.ref p), some (iN n), some (V.ref o2), some (V.int (if ((rmv (dm * B) t : Nat) : Int) / 2 > 1 then ((rmv (dm * B) t : Nat) : Int) / 2 else 1)), some (V.int (0 + (t : Int))), some (V.int ((0 + (t : Int)) % (dm : Int)))] = _
      rw [show ((rmv (dm * B) t : Nat) : Int) / 2 = ((rmv (dm * B) t / 2 : Nat) : Int) from rfl, e5, ea]
  · rintro σ H2 ⟨s2, e2, x4, x5, rfl⟩
    refine ⟨.ref o2, rfl, o2, _, rfl, .inl ⟨SqL.of e2, fun l nl => q _ l (s2.trans (same_new nl)) ?_⟩⟩
    rw [upd_same]
    exact congrArg (fun z => some (HO.tup (iL z))) (ptGo_end hd0 n)
def spSin (CS : Addr) : Sp := fun vs H Q _ => ∃ (p dx : Addr) (dm B : Nat), vs = [.ref p, iN dm, iN B] ∧ H p = some (.ins CS dx []) ∧ 0 < dm ∧ dm ≤ 3 ∧ 0 < B ∧ B ≤ 10 ∧ ∀ H', (∀ b o, H b = some o → b ≠ p → H' b = some o) → SpAt CS H' p dm B → Q .non H'
theorem q_sin {f fP fI : Addr} {fd fdP fdI : FuncData} {tk1 tk2 : Tok} (F : Fun K "__init__" "Space.__init__" t_sin f fd) (TS : TxS K CS)
    (g1 : mg "MOST_DIMENSIONS" = some (.int 3 tk1)) (g2 : mg "MOST_BITS" = some (.int 10 tk2))
    (GI : FnQ P w K mg base 1 fI fdI p_isw spIsw) (gI : mg "is_whole" = some (.ref fI)) (kI : PySem.W.keepIn K (.ref fI) = true) (bI : Binds K fdI p_isw [])
    (GP : FnQ P w K mg base 1 fP fdP p_pow spPow) (gP : mg "power" = some (.ref fP)) (kP : PySem.W.keepIn K (.ref fP) = true) (bP : Binds K fdP p_pow []) : FnQ P w K mg base 2 f fd p_sin (spSin CS) := by
  refine FnQ.of F sc_sin (fun vs H Q E h => ?_) (fun cc cdv A outer s H vs Q E fx hr h => ?_)
  · obtain ⟨p, dx, dm, B, rfl, _⟩ := h
    rfl
  obtain ⟨p, dx, dm, B, rfl, hp, d0, d3, b0, b10, q⟩ := h
  have nd := sc_sin.nd
  refine ⟨_, pss_cons (ps_if (pt_not (pt_val (qe_call GI hr fx.nox (by rfl) gI kI bI (pa_cons (pv 1) (pa_cons pe_int (pa_cons (pe_glob (v := .int 3) rfl g1 ⟨_, rfl⟩) pa_nil)))))) (pss_one ps_never) pss_nil)
    (pss_cons (ps_if (pt_not (pt_val (qe_call GI hr fx.nox (by rfl) gI kI bI (pa_cons (pv 2) (pa_cons pe_int (pa_cons (pe_glob (v := .int 10) rfl g2 ⟨_, rfl⟩) pa_nil)))))) (pss_one ps_never) pss_nil)
    (pss_cons (ps_fld (pv 0) (pv 1) rfl)
    (pss_cons (ps_fld (pv 0) (pv 2) rfl)
    (pss_cons (ps_fld (pv 0) (pe_op op_mul (pv 1) (pv 2)) rfl)
    (pss_one (ps_fld (pv 0) (qe_call GP hr fx.nox (by rfl) gP kP bP (pa_cons (pv 2) pa_nil)) rfl)))))), ?_⟩
  refine ⟨_, rfl, _, _, _, rfl, true, congrArg V.bl (decide_eq_true (by omega)), iteF ?_⟩
  refine ⟨_, rfl, _, _, _, rfl, true, congrArg V.bl (decide_eq_true (by omega)), iteF ?_⟩
  refine ⟨_, rfl, _, rfl, p, CS, dx, _, rfl, hp, TS.cl, TS.nDim, (by show 0 < 1000; decide), ?_⟩
  refine ⟨_, rfl, _, rfl, p, CS, dx, _, rfl, upd_same, TS.cl, TS.nBits, (by show 1 < 1000; decide), ?_⟩
  refine ⟨_, rfl, _, rfl, _, _, rfl, rfl, .inl (lt64 (by omega)), _, rfl, p, CS, dx, _, rfl, upd_same, TS.cl, TS.nDepth, (by show 2 < 1000; decide), ?_⟩
  refine ⟨_, rfl, _, rfl, by omega, _, rfl, p, CS, dx, _, rfl, upd_same, TS.cl, TS.nSide, (by show 3 < 1000; decide), ?_⟩
  refine q _ (fun b o e hb => ?_) ⟨dx, upd_same⟩
  rw [upd_ne hb, upd_ne hb, upd_ne hb, upd_ne hb]
  exact e
end
end FW

set_option Elab.async false
set_option linter.all false
set_option maxRecDepth 100000
set_option maxHeartbeats 4000000
/-! Cloud: __init__, many. -/
namespace FW
open PySem L2 L2H FH FC
/-- a dict of numbers that were seen -/
def kvT (l : List Nat) : List (Key × V) := l.map fun n => (kN n, V.bl true)
theorem kvT_val {l : List Nat} {k : Nat} (h : k ∉ l) : valV (kvT l) (kN k) = none := by
  unfold valV kvT
  rw [List.find?_eq_none.mpr]
  · rfl
  · intro x hx
    obtain ⟨n, hn, rfl⟩ := List.mem_map.mp hx
    intro z
    exact h (kN_inj (of_decide_eq_true z) ▸ hn)
theorem kvT_put {l : List Nat} {k : Nat} (h : k ∉ l) : putK (kvT l) (kN k) (.bl true) = kvT (l ++ [k]) := by
  unfold putK
  rw [if_neg]
  · unfold kvT
    rw [List.map_append]
    rfl
  · rw [List.any_eq_true]
    rintro ⟨x, hx, q⟩
    obtain ⟨n, hn, rfl⟩ := List.mem_map.mp hx
    exact h (kN_inj (of_decide_eq_true q) ▸ hn)
theorem nats_of {ys : List Int} {l : List Nat} (h : ys.Perm (l.map fun n : Nat => (n : Int))) : ∃ r : List Nat, ys = r.map (fun n : Nat => (n : Int)) ∧ r.Perm l := by
  refine ⟨ys.map Int.toNat, ?_, ?_⟩
  · rw [List.map_map]
    have : ∀ y ∈ ys, ((fun n : Nat => (n : Int)) ∘ Int.toNat) y = id y := fun y hy => by
      obtain ⟨n, _, rfl⟩ := List.mem_map.mp (h.mem_iff.mp hy)
      rfl
    rw [List.map_congr_left this, List.map_id]
  · have := h.map Int.toNat
    rw [List.map_map] at this
    rw [show (Int.toNat ∘ fun n : Nat => (n : Int)) = id from funext fun n => rfl, List.map_id] at this
    exact this
/-- points stand at ps -/
abbrev PtsAt (K : PySem.W.Frag) (H : Hp) (ps : List Addr) (qs : List (List Nat)) : Prop := PySem.Paired (fun p (q : List Nat) => SqT K H p (iL q)) ps qs
theorem PtsAt.same {K : PySem.W.Frag} {H H' : Hp} {ps : List Addr} {qs : List (List Nat)} (s : Same H H') (h : PtsAt K H ps qs) : PtsAt K H' ps qs := L2.Paired.mapP h fun _ _ x => Same.tp s x
theorem PtsAt.off {K : PySem.W.Frag} {H : Hp} {ts : List Addr} {v : List (List Nat)} {D : Addr} {acc : List V} {o : HO} (h : PtsAt K H ts v) (e : H D = some (.lst acc)) : PtsAt K (upd H D o) ts v := L2.Paired.mapP h fun _ _ x => SqT.off e x
theorem pts_get {K : PySem.W.Frag} {H : Hp} : ∀ {ps : List Addr} {qs : List (List Nat)}, PtsAt K H ps qs → ∀ {i : Nat} {x : V}, (ps.map V.ref)[i]? = some x → ∃ p q, x = .ref p ∧ qs[i]? = some q ∧ SqT K H p (iL q)
  | _, _, .nil, i, x, h => by cases h
  | _, _, .cons (a := p) (b := e) hp r, 0, x, h => ⟨p, e, (Option.some.inj h).symm, rfl, hp⟩
  | _, _, .cons _ r, i + 1, x, h => pts_get r (i := i) h
/-- a cloud stands at p -/
def ClAt (K : PySem.W.Frag) (CC : Addr) (H : Hp) (p sp : Addr) (r : List Nat) : Prop := ∃ dx ra, H p = some (.ins CC dx (fldsC sp ra)) ∧ SqT K H ra (iL r)
theorem ClAt.same {K : PySem.W.Frag} {CC : Addr} {H H' : Hp} {p sp : Addr} {r : List Nat} (s : Same H H') (h : ClAt K CC H p sp r) : ClAt K CC H' p sp r := by
  obtain ⟨dx, ra, e, t⟩ := h
  exact ⟨dx, ra, s _ _ e, Same.tp s t⟩
theorem nodup_fresh {l : List Nat} {i k : Nat} (h : l.Nodup) (hi : l[i]? = some k) : k ∉ l.take i := by
  intro m
  obtain ⟨j, hj, e⟩ := List.mem_iff_getElem.mp m
  rw [List.length_take] at hj
  obtain ⟨hi', e'⟩ := List.getElem?_eq_some_iff.mp hi
  have : (l.take i)[j]'(by rw [List.length_take]; exact hj) = l[j]'(by omega) := List.getElem_take
  rw [this] at e
  have := (List.getElem_inj h (h₀ := by omega) (h₁ := hi')).mp (e.trans e'.symm)
  omega
theorem fC_view (sp ra : Addr) : (fldsC sp ra).lookup ("view" : Str) = none := rfl
theorem fC_many (sp ra : Addr) : (fldsC sp ra).lookup ("many" : Str) = none := rfl
section
variable {P : Program} {w : World} {K : PySem.W.Frag} {mg : Str → Option Value} {base : Heap} {CS CC : Addr}
def spCin (K : PySem.W.Frag) (CS CC : Addr) : Sp := fun vs H Q _ => ∃ (x dx sp l : Addr) (dm B : Nat) (ps : List Addr) (qs : List (List Nat)), vs = [.ref x, .ref sp, .ref l] ∧ H x = some (.ins CC dx []) ∧ SpAt CS H sp dm B ∧ SqL K H l (ps.map V.ref) ∧ PtsAt K H ps qs ∧
  (∀ q ∈ qs, Pt B dm q) ∧ (qs.map (wv B dm)).Nodup ∧ qs.length ≤ 8 ∧ dm ≤ 10 ∧ B ≤ 10 ∧ 0 < B ∧ ∀ H' r, (∀ b o, H b = some o → b ≠ x → H' b = some o) → ClAt K CC H' x sp r → r.Perm (qs.map (wv B dm)) → r.Pairwise (· ≤ ·) → Q .non H'
theorem q_cin {f fW : Addr} {fd fdW : FuncData} (F : Fun K "__init__" "Cloud.__init__" t_cin f fd) (TS : TxS K CS) (TC : TxC K CC) (BB : Bl mg)
    (GW : FnQ P w K mg base 4 fW fdW p_swv (spSwv K CS)) (mW : Meth K CS "woven" fW) (bW : Binds K fdW p_swv []) : FnQ P w K mg base 5 f fd p_cin (spCin K CS CC) := by
  refine FnQ.of F sc_cin (fun vs H Q E h => ?_) (fun cc cdv A outer s H vs Q E fx hr h => ?_)
  · obtain ⟨x, dx, sp, l, dm, B, ps, qs, rfl, _⟩ := h
    rfl
  obtain ⟨x, dx, sp, l, dm, B, ps, qs, rfl, hx, hsp, hl, hps, hpt, hnd, hlen, hd, hB, hB0, q⟩ := h
  have nd := sc_cin.nd
  have hu := hu1 hr
  refine ⟨_, pss_cons (ps_set (i := 3) nd rfl (.inl rfl) pe_dnewK)
    (pss_cons (qs_for PassesOwn.never fx.nox (qi_list (pv 2)) (pg_name (i := 4) nd rfl (.inl rfl))
      (pss_cons (ps_set (i := 5) nd rfl (.inl rfl) (qe_meth (pv 1) TS.cl mW GW hr fx.nox bW (pa_cons (pv 4) pa_nil)))
      (pss_cons (ps_if (pt_cmp (pc_din hu (pv 5) (pv 3))) (pss_one ps_never) pss_nil)
      (pss_one (ps_dput hu (pv 3) (pv 5) pe_bl rfl)))))
    (pss_cons (ps_fld (pv 0) (pv 1) rfl)
    (pss_one (ps_fld (pv 0) (pe_callTy call_tuple_of (by rfl) BB.n_tuple (by decide +kernel) (pa_cons (pe_callB (cq_sortedD fx.nox) (by rfl) BB.n_sorted (by decide +kernel) (pa_cons (pv 3) pa_nil)) pa_nil)) rfl)))), ?_⟩
  intro d nd'
  have s0 := same_new (o := .dK []) nd'
  have pl := PySem.Paired.length hps
  refine ⟨.ref l, rfl, l, rfl, ⟨_, s0.seq hl⟩, for_list (xs := ps.map V.ref) (fun i σ H1 => Same H H1 ∧ H1 d = some (.dK (kvT ((qs.map (wv B dm)).take i))) ∧ ∃ x4 x5 : Option V, σ = [some (.ref x), some (.ref sp), some (.ref l), some (.ref d), x4, x5]) ⟨s0, upd_same, none, none, rfl⟩ (fun i σ H1 _ h => h.1.seq hl) ?_ ?_⟩
  · rintro i y σ H1 hi ⟨s1, e1, x4, x5, rfl⟩
    obtain ⟨p, t, rfl, ht, hp⟩ := pts_get (hps.same s1) hi
    obtain ⟨dx2, esp⟩ := id hsp
    have hg : (qs.map (wv B dm))[i]? = some (wv B dm t) := by rw [List.getElem?_map, ht]; rfl
    have fr := nodup_fresh hnd hg
    have hi8 : i < 8 := by
      have := (List.getElem?_eq_some_iff.mp ht).1
      omega
    refine ⟨_, rfl, sp, dx2, _, rfl, s1 _ _ esp, fS_wov _ _, _, rfl, sp, dm, B, p, t, rfl, hsp.same s1, hp, hpt t (List.mem_of_getElem? ht), hd, hB, hB0, fun H2 s2 => ?_⟩
    refine ⟨_, rfl, _, rfl, d, _, rfl, DGet.k (k := kN (wv B dm t)) (s2 _ _ e1), _, rfl, ?_⟩
    rw [kvT_val fr]
    refine iteF ⟨_, rfl, _, rfl, d, _, rfl, DPut.k (k := kN (wv B dm t)) (s2 _ _ e1) ?_, same_at (s1.trans s2) nd', ?_, _, _, rfl⟩
    · unfold kvT
      rw [List.length_map, List.length_take]
      exact small1000 (by omega)
    · rw [upd_same, kvT_put fr, List.take_add_one, hg]
      rfl
  · rintro σ H1 ⟨s1, e1, x4, x5, rfl⟩
    rw [List.length_map, pl, show (qs.map (wv B dm)).take qs.length = qs.map (wv B dm) from List.take_of_length_le (by rw [List.length_map]; exact Nat.le_refl _)] at e1
    have nxd : x ≠ d := ne_of_none hx nd'
    refine ⟨_, rfl, _, rfl, x, CC, dx, _, rfl, s1 _ _ hx, TC.cl, TC.nSp, (by show 0 < 1000; decide), ?_⟩
    have e2 : (upd H1 x (.ins CC dx (putF ("space" : Str) (.ref sp) []))) d = some (.dK (kvT (qs.map (wv B dm)))) := (upd_ne nxd.symm).trans e1
    refine ⟨_, rfl, d, _, (qs.map (wv B dm)).map fun n : Nat => (n : Int), rfl, .inl e2, ?_, ?_, fun ys l1 hperm hsort nl1 => ⟨l1, _, rfl, .inl ⟨SqL.of upd_same, fun l2 nl2 => ?_⟩⟩⟩
    · unfold kvT
      simp only [List.map_map]
      rfl
    · rw [List.length_map, List.length_map]
      omega
    · obtain ⟨r, rfl, hr2⟩ := nats_of hperm
      have s2 : Same (upd H1 x (.ins CC dx (putF ("space" : Str) (.ref sp) []))) _ := (same_new (o := .lst ((r.map fun n : Nat => (n : Int)).map V.int)) nl1).trans (same_new (o := .tup ((r.map fun n : Nat => (n : Int)).map V.int)) nl2)
      refine ⟨_, rfl, x, CC, dx, _, rfl, s2 _ _ upd_same, TC.cl, TC.nRow, (by show 1 < 1000; decide), q _ r ?_ ⟨dx, l2, upd_same, ?_⟩ hr2 ?_⟩
      · intro b o eb hb
        rw [upd_ne hb]
        refine s2 _ _ ?_
        rw [upd_ne hb]
        exact s1 _ _ eb
      · have nx2 : x ≠ l2 := ne_of_none ((same_new (o := .lst ((r.map fun n : Nat => (n : Int)).map V.int)) nl1) _ _ upd_same) nl2
        refine SqT.of ?_
        rw [upd_ne nx2.symm, upd_same]
        unfold iL
        rw [List.map_map]
        rfl
      · exact (List.pairwise_map.mp hsort).imp fun {a b} z => Int.ofNat_le.mp z
def spCmy (K : PySem.W.Frag) (CC : Addr) : Sp := fun vs H Q _ => ∃ (c sp : Addr) (r : List Nat), vs = [.ref c] ∧ ClAt K CC H c sp r ∧ Q (iN r.length) H
theorem q_cmy {f : Addr} {fd : FuncData} (F : Fun K "many" "Cloud.many" t_cmy f fd) (TC : TxC K CC) (BB : Bl mg) : FnQ P w K mg base 1 f fd p_cmy (spCmy K CC) := by
  refine FnQ.of F sc_cmy (fun vs H Q E h => ?_) (fun cc cdv A outer s H vs Q E fx hr h => ?_)
  · obtain ⟨c, sp, r, rfl, _⟩ := h
    rfl
  obtain ⟨c, sp, r, rfl, ⟨dx, ra, ec, hr2⟩, q⟩ := h
  refine ⟨_, pss_one (ps_ret (pe_callB call_len_seq (by rfl) BB.n_len PySem.boot_len (pa_cons (pe_fld (pv 0) rfl) pa_nil))), ?_⟩
  refine ⟨_, rfl, c, CC, dx, _, _, rfl, ec, TC.cl, TC.nRow, fC_row _ _, ra, _, rfl, .inr hr2, ?_⟩
  rw [List.length_map]
  exact q
end
end FW

set_option Elab.async false
set_option linter.all false
set_option maxRecDepth 100000
set_option maxHeartbeats 4000000
/-! Cloud.view. -/
namespace FW
open PySem L2 L2H FH FC
theorem putK_ne {l : List (Key × V)} {kv : Key × V} {k : Key} {x : V} (h : kv.1 ≠ k) : putK (kv :: l) k x = kv :: putK l k x := by
  unfold putK
  rw [List.any_cons, decide_eq_false h, Bool.false_or, List.map_cons, if_neg h]
  split <;> rfl
theorem putK_same : ∀ {l : View} {lo N k : Nat} {x : V}, Asc lo N l → k < lo → (kvs l).map (fun kv => if kv.1 = kN k then (kv.1, x) else kv) = kvs l
  | [], _, _, _, _, _, _ => rfl
  | e :: l, lo, N, k, x, h, hk => by
    obtain ⟨h1, h2, h3, h4⟩ := h
    show (if kN e.1 = kN k then (kN e.1, x) else (kN e.1, iN e.2)) :: (kvs l).map _ = _
    rw [if_neg (fun z => by have := kN_inj z; omega), putK_same h4 (by omega)]
    rfl
theorem putK_ins : ∀ {v : View} {lo N : Nat} (k : Nat), Asc lo N v → putK (kvs v) (kN k) (iN (cf v k + 1)) = kvs (ins v k 1)
  | [], lo, N, k, _ => rfl
  | e :: v, lo, N, k, h => by
    obtain ⟨h1, h2, h3, h4⟩ := id h
    by_cases c : e.1 = k
    · have hc := cf_head h
      rw [c] at hc
      rw [hc]
      show putK ((kN e.1, iN e.2) :: kvs v) (kN k) _ = kvs (if e.1 = k then (k, e.2 + 1) :: v else _)
      rw [if_pos c]
      unfold putK
      rw [if_pos (by rw [List.any_cons, c]; simp), List.map_cons, putK_same h4 (by omega)]
      show (if kN e.1 = kN k then _ else _) :: _ = _
      rw [if_pos (by rw [c]), c]
      rfl
    · show putK ((kN e.1, iN e.2) :: kvs v) (kN k) (iN ((if e.1 = k then e.2 else 0) + cf v k + 1)) = kvs (if e.1 = k then _ else e :: ins v k 1)
      rw [if_neg c, if_neg c, Nat.zero_add, putK_ne (fun z => c (kN_inj z)), putK_ins k h4]
      rfl
theorem val_get : ∀ {v : View} {lo N : Nat} {e : Nat × Nat}, Asc lo N v → e ∈ v → valV (kvs v) (kN e.1) = some (iN e.2)
  | g :: v, lo, N, e, h, he => by
    obtain ⟨h1, h2, h3, h4⟩ := id h
    unfold valV kvs
    rw [List.map_cons, List.find?_cons]
    rcases List.mem_cons.mp he with r | r
    · rw [r, decide_eq_true (show kN g.1 = kN g.1 from rfl)]
      rfl
    · have a := (h4.all e r).2.1
      rw [decide_eq_false (show ¬ kN g.1 = kN e.1 from fun z => by have := kN_inj z; omega)]
      exact val_get h4 r
theorem kvs_keys (v : View) : (kvs v).map (·.1) = ((v.map (·.1)).map fun n : Nat => (n : Int)).map Sum.inl := by
  unfold kvs
  simp only [List.map_map]
  rfl
/-- a sorted list of a view's cells -/
theorem cells_of {N : Nat} {v : View} {ys : List Int} (h : Asc 0 N v) (p : ys.Perm ((v.map (·.1)).map fun n : Nat => (n : Int))) (s : ys.Pairwise (· ≤ ·)) : ys = (v.map (·.1)).map fun n : Nat => (n : Int) := by
  obtain ⟨r, rfl, hr⟩ := nats_of p
  have R := h.row
  have R' : Row N r := row_of R.nodup R.2 hr ((List.pairwise_map.mp s).imp fun {a b} z => Int.ofNat_le.mp z)
  rw [perm_row R' R hr]
theorem row_take {N : Nat} {r : List Nat} (h : Row N r) (i : Nat) : Row N (r.take i) := ⟨h.1.sublist (List.take_sublist i r), fun n hn => h.2 n (List.mem_of_mem_take hn)⟩
theorem vw_succ {D f i n : Nat} {r : List Nat} (h : r[i]? = some n) : vw D (r.take (i + 1)) f = ins (vw D (r.take i) f) (n / 2 ^ (D - f)) 1 := by
  unfold vw coarse tally ones
  rw [List.take_add_one, h, List.map_append, List.map_append, List.foldl_append]
  rfl
theorem vw_len {D f : Nat} {r : List Nat} (h : Row (2 ^ D) r) (hf : f ≤ D) : (vw D r f).length ≤ r.length := by
  have := len_le_tot (vw_asc h hf)
  rw [tot_vw] at this
  exact this
section
variable {P : Program} {w : World} {K : PySem.W.Frag} {mg : Str → Option Value} {base : Heap} {CS CC : Addr}
def spCvw (K : PySem.W.Frag) (CS CC : Addr) : Sp := fun vs H Q _ => ∃ (c sp : Addr) (r : List Nat) (dm B f : Nat), vs = [.ref c, iN f] ∧ ClAt K CC H c sp r ∧ SpAt CS H sp dm B ∧ dm * B ≤ 10 ∧ f ≤ dm * B ∧ Row (2 ^ (dm * B)) r ∧ r.length ≤ 8 ∧
  ∀ H' p, Same H H' → VwF K H' p (vw (dm * B) r f) → Q (.ref p) H'
theorem q_cvw {f fP : Addr} {fd fdP : FuncData} (F : Fun K "view" "Cloud.view" t_cvw f fd) (TS : TxS K CS) (TC : TxC K CC) (BB : Bl mg)
    (GP : FnQ P w K mg base 1 fP fdP p_pow spPow) (gP : mg "power" = some (.ref fP)) (kP : PySem.W.keepIn K (.ref fP) = true) (bP : Binds K fdP p_pow []) : FnQ P w K mg base 2 f fd p_cvw (spCvw K CS CC) := by
  refine FnQ.of F sc_cvw (fun vs H Q E h => ?_) (fun cc cdv A outer s H vs Q E fx hr h => ?_)
  · obtain ⟨c, sp, r, dm, B, f, rfl, _⟩ := h
    rfl
  obtain ⟨c, sp, r, dm, B, f, rfl, hc, hsp, hD, hf, hR, h8, q⟩ := h
  have nd := sc_cvw.nd
  have hu := hu1 hr
  refine ⟨_, pss_cons (ps_asg (pe_tup (pa_cons pe_dnewK (pa_cons (qe_call GP hr fx.nox (by rfl) gP kP bP (pa_cons (pe_op op_sub (pe_fld (pe_fld (pv 0) rfl) rfl) (pv 1)) pa_nil)) pa_nil))) (qg_tup fx.nox (pgs_cons (pg_name (i := 2) nd rfl (.inr rfl)) (pgs_cons (pg_name (i := 3) nd rfl (.inl rfl)) pgs_nil))))
    (pss_cons (qs_for PassesOwn.never fx.nox (qi_tup (pe_fld (pv 0) rfl)) (pg_name (i := 4) nd rfl (.inl rfl))
      (pss_one (ps_dput hu (pv 2) (pe_op op_fdivW (pv 4) (pv 3)) (pe_op op_add (pe_dget2 hu (pv 2) (pe_op op_fdivW (pv 4) (pv 3)) pe_int ⟨rfl, rfl, rfl, rfl⟩) pe_int) rfl)))
    (pss_one (ps_ret (pe_callTy cq_tupF (by rfl) BB.n_tuple (by decide +kernel) (pa_cons
      (qe_lc (own := [("number", 4)]) (g := gName 4) (tt := tYes) fx.nox nd (qi_list (pe_callB (cq_sortedD fx.nox) (by rfl) BB.n_sorted (by decide +kernel) (pa_cons (pv 2) pa_nil))) (blkOk_by (N := n_cvw) (sc := defScope t_cvw) (by decide +kernel)) (fun _ _ _ _ _ => pg_name (i := 4) nd rfl (.inl rfl)) (fun _ _ _ _ _ => pts_nil)
        (fun _ _ _ _ _ => pe_tup (pa_cons (pv 4) (pa_cons (pe_dget hu (pv 2) (pv 4) (fun _ _ => rfl)) pa_nil)))) pa_nil))))), ?_⟩
  obtain ⟨dx, ra, ec, tr⟩ := id hc
  obtain ⟨dx2, esp⟩ := id hsp
  intro d nd'
  have s0 := same_new (o := .dK []) nd'
  refine ⟨_, rfl, c, CC, dx, _, _, rfl, s0 _ _ ec, TC.cl, TC.nSp, fC_space _ _, sp, CS, dx2, _, _, rfl, s0 _ _ esp, TS.cl, TS.nDepth, fS_depth _ _, _, rfl, _, _, rfl, rfl, dm * B - f, congrArg (fun z => [V.int z]) (nn_sub hf), by omega,
    (by show 2 ≤ sizeLine; decide), fun t nt => ⟨t, _, rfl, SqT.of upd_same, rfl, _, _, rfl, _, _, rfl, rfl, ?_⟩⟩
  have ndt : d ≠ t := ne_of_none upd_same nt
  have s1 : Same H _ := s0.trans (same_new (o := .tup [V.ref d, iN (2 ^ (dm * B - f))]) nt)
  have hp2 : 2 ^ (dm * B - f) < 2 ^ 20 := Nat.pow_lt_pow_right (by decide) (by omega)
  refine ⟨_, rfl, c, CC, dx, _, _, rfl, s1 _ _ ec, TC.cl, TC.nRow, fC_row _ _, ra, rfl, ⟨_, Same.tp s1 tr⟩, for_tup (xs := iL r) (fun i σ H2 => Same H H2 ∧ H2 d = some (.dK (kvs (vw (dm * B) (r.take i) f))) ∧ ∃ x4 : Option V, σ = [some (.ref c), some (iN f), some (.ref d), some (iN (2 ^ (dm * B - f))), x4]) ⟨s1, (upd_ne ndt).trans upd_same, none, rfl⟩ (fun i σ H2 _ h => Same.tp h.1 tr) ?_ ?_⟩
  · rintro i x σ H2 hi ⟨s2, e2, x4, rfl⟩
    obtain ⟨n, hn, rfl⟩ := il_get hi
    have A := vw_asc (row_take hR i) hf
    have L := vw_len (row_take hR i) hf
    have hi8 : i < 8 := by
      have := (List.getElem?_eq_some_iff.mp hn).1
      omega
    refine ⟨.ref d, rfl, d, rfl, .inl ⟨_, .inl e2⟩, _, rfl, _, rfl, _, _, rfl, rfl, wide_div (b := 20) (Int.ofNat_lt.mpr (Nat.two_pow_pos _)) hp2 (by decide) (by decide), _, DGet.k (k := kN (n / 2 ^ (dm * B - f))) e2, ((cf (vw (dm * B) (r.take i) f) (n / 2 ^ (dm * B - f)) : Nat) : Int), 1, val_kvs _ A, rfl,
      _, rfl, _, rfl, _, rfl, _, _, rfl, rfl, wide_div (b := 20) (Int.ofNat_lt.mpr (Nat.two_pow_pos _)) hp2 (by decide) (by decide), d, _, rfl, DPut.k (k := kN (n / 2 ^ (dm * B - f))) e2 ?_, same_at s2 nd', ?_, _, rfl⟩
    · unfold kvs
      rw [List.length_map]
      rw [List.length_take] at L
      exact small1000 (by omega)
    · rw [upd_same, vw_succ hn, ← putK_ins _ A]
      rfl
  · rintro σ H2 ⟨s2, e2, x4, rfl⟩
    rw [List.length_map, List.take_length] at e2
    have A := vw_asc hR hf
    have L := vw_len hR hf
    refine ⟨_, rfl, d, _, ((vw (dm * B) r f).map (·.1)).map fun n : Nat => (n : Int), rfl, .inl e2, kvs_keys _, ?_, fun ys l hperm hsort nl => ?_⟩
    · rw [List.length_map, List.length_map]
      omega
    · have ey := cells_of A hperm hsort
      subst ey
      refine ⟨l, rfl, ⟨_, SqL.of upd_same⟩, fun D nD => lc_list (xs := (((vw (dm * B) r f).map (·.1)).map fun n : Nat => (n : Int)).map V.int) (fun i H3 => Same H2 H3 ∧ H3 l = some (.lst ((((vw (dm * B) r f).map (·.1)).map fun n : Nat => (n : Int)).map V.int)) ∧ ∃ ps : List Addr, H3 D = some (.lst (ps.map V.ref)) ∧ Prs K H3 ps ((vw (dm * B) r f).take i))
        ⟨(same_new nl).trans (same_new nD), (same_new nD) _ _ upd_same, [], upd_same, .nil⟩ (fun i H3 _ h => SqL.of h.2.1) ?_ ?_⟩
      · rintro i x H3 hi ⟨s3, el, ps, eD, hps⟩
        obtain ⟨e, he, rfl⟩ : ∃ e, (vw (dm * B) r f)[i]? = some e ∧ x = iN e.1 := by
          simp only [List.getElem?_map] at hi
          cases q : (vw (dm * B) r f)[i]? with
          | none => rw [q] at hi; cases hi
          | some e => rw [q] at hi; exact ⟨e, rfl, (Option.some.inj hi).symm⟩
        have hm := List.mem_of_getElem? he
        have lp := PySem.Paired.length hps
        rw [List.length_take] at lp
        have z : DGet H3 d (iN e.1) (some (iN e.2)) := by
          have z := DGet.k (k := kN e.1) (s3 _ _ e2)
          rw [val_get A hm] at z
          exact z
        have nlD : l ≠ D := ne_of_none upd_same nD
        refine ⟨rfl, _, rfl, .ref d, rfl, _, rfl, d, _, rfl, z, (by show 2 ≤ sizeLine; decide), fun u nu => ?_⟩
        · have nDu : D ≠ u := ne_of_none eD nu
          have nlu : l ≠ u := ne_of_none el nu
          refine ⟨_, (upd_ne nDu).trans eD, by rw [List.length_map]; exact small1000 (by omega), same_at (s3.trans (same_new nu)) ((same_new nl).free nD), ?_, ps ++ [u], ?_, ?_⟩
          · rw [upd_ne nlD, upd_ne nlu]
            exact el
          · rw [upd_same, List.map_append]
            rfl
          · rw [List.take_add_one, he]
            exact Paired.snoc ((hps.same (same_new nu)).off ((upd_ne nDu).trans eD)) (SqT.of (by rw [upd_ne nDu.symm, upd_same]))
      · rintro H3 ⟨s3, el, ps, eD, hps⟩
        rw [List.length_map, List.length_map, List.length_map, List.take_length] at hps
        refine ⟨D, _, rfl, SqL.of eD, fun p o np od => q _ p (s2.trans (s3.trans (same_new np))) ⟨ps, ⟨o, upd_same, od⟩, hps.same (same_new np)⟩⟩
end
end FW

set_option Elab.async false
set_option linter.all false
set_option maxRecDepth 100000
set_option maxHeartbeats 4000000
/-! cloud_of, _law_cloud_of, level_code. -/
namespace FW
open PySem L2 L2H FH FC
theorem made_same {H : Hp} {x dx : Addr} {C : Addr} (nx : H x = none) (nd : H dx = none) : Same H (upd (upd H dx (.own x)) x (.ins C dx [])) := fun b o e => by
  rw [upd_ne (ne_of_none e nx), upd_ne (ne_of_none e nd)]
  exact e
section
variable {P : Program} {w : World} {K : PySem.W.Frag} {mg : Str → Option Value} {base : Heap} {CS CC : Addr}
/-- a cloud is made of points -/
theorem make_cloud {H : Hp} {sp l : Addr} {dm B : Nat} {ps : List Addr} {qs : List (List Nat)} {Q : VK} (hsp : SpAt CS H sp dm B) (hl : SqL K H l (ps.map V.ref)) (hps : PtsAt K H ps qs) (hpt : ∀ q ∈ qs, Pt B dm q) (hnd : (qs.map (wv B dm)).Nodup) (hlen : qs.length ≤ 8) (hd : dm ≤ 10) (hB : B ≤ 10) (hB0 : 0 < B)
    (q : ∀ H' x r, Same H H' → ClAt K CC H' x sp r → r.Perm (qs.map (wv B dm)) → r.Pairwise (· ≤ ·) → Q (.ref x) H') :
    ∀ x dx, H x = none → H dx = none → dx ≠ x → spCin K CS CC [.ref x, .ref sp, .ref l] (upd (upd H dx (.own x)) x (.ins CC dx [])) (fun v H2 => v = .non ∧ Q (.ref x) H2) E0 := by
  intro x dx nx nd ne
  have s := made_same (C := CC) nx nd
  exact ⟨x, dx, sp, l, dm, B, ps, qs, rfl, upd_same, hsp.same s, s.seq hl, hps.same s, hpt, hnd, hlen, hd, hB, hB0, fun H' r k hc hp hs => ⟨rfl, q H' x r (Same.made nx nd k) hc hp hs⟩⟩
theorem row_eq {N : Nat} {r ns : List Nat} (hR : Row N ns) (hp : r.Perm ns) (hs : r.Pairwise (· ≤ ·)) : r = ns := perm_row (row_of hR.nodup hR.2 hp hs) hR hp
theorem wv_pts {B dm : Nat} {ns : List Nat} (hd : 0 < dm) (hR : Row (2 ^ (dm * B)) ns) : (ns.map (pt B dm)).map (wv B dm) = ns := by
  rw [List.map_map]
  have : ∀ n ∈ ns, (wv B dm ∘ pt B dm) n = id n := fun n hn => wv_pt hd (hR.2 n hn)
  rw [List.map_congr_left this, List.map_id]
def spCof (K : PySem.W.Frag) (CS CC : Addr) : Sp := fun vs H Q _ => ∃ (sp l : Addr) (dm B : Nat) (ns : List Nat), vs = [.ref sp, .ref l] ∧ SpAt CS H sp dm B ∧ 0 < dm ∧ 0 < B ∧ dm * B ≤ 10 ∧ dm ≤ 10 ∧ B ≤ 10 ∧ SqL K H l (iL ns) ∧ Row (2 ^ (dm * B)) ns ∧ ns.length ≤ 8 ∧
  ∀ H' x, Same H H' → ClAt K CC H' x sp ns → Q (.ref x) H'
theorem q_cof {f fI fO : Addr} {fd fdI fdO : FuncData} (F : Fun K "cloud_of" "cloud_of" t_cof f fd) (TS : TxS K CS) (M : Mk K CC fI) (gC : mg "Cloud" = some (.ref CC))
    (GI : FnQ P w K mg base 5 fI fdI p_cin (spCin K CS CC)) (bI : Binds K fdI p_cin [])
    (GO : FnQ P w K mg base 2 fO fdO p_spo (spSpo K CS)) (mO : Meth K CS "point_of" fO) (bO : Binds K fdO p_spo []) : FnQ P w K mg base 7 f fd p_cof (spCof K CS CC) := by
  refine FnQ.of F sc_cof (fun vs H Q E h => ?_) (fun cc cdv A outer s H vs Q E fx hr h => ?_)
  · obtain ⟨sp, l, dm, B, ns, rfl, _⟩ := h
    rfl
  obtain ⟨sp, l, dm, B, ns, rfl, hsp, d0, b0, hD, hd, hB, hl, hR, h8, q⟩ := h
  have nd := sc_cof.nd
  refine ⟨_, pss_one (ps_ret (qe_make M GI hr fx.nox (by rfl) gC bI (pa_cons (pv 0) (pa_cons
    (qe_lc (own := [("number", 2)]) (g := gName 2) (tt := tYes) fx.nox nd (qi_list (pv 1)) (blkOk_by (N := n_cof) (sc := defScope t_cof) (by decide +kernel)) (fun _ _ _ _ _ => pg_name (i := 2) nd rfl (.inl rfl)) (fun _ _ _ _ _ => pts_nil)
      (fun _ _ _ _ _ => qe_meth (pv 0) TS.cl mO GO (hr.mono (by decide)) fx.nox.blk bO (pa_cons (pv 2) pa_nil))) pa_nil)))), ?_⟩
  refine ⟨_, rfl, _, rfl, l, rfl, ⟨_, hl⟩, fun D nD => lc_list (xs := iL ns) (fun i H1 => Same H H1 ∧ ∃ ps : List Addr, H1 D = some (.lst (ps.map V.ref)) ∧ PtsAt K H1 ps ((ns.take i).map (pt B dm))) ⟨same_new nD, [], upd_same, .nil⟩ (fun i H1 _ h => h.1.seq hl) ?_ ?_⟩
  · rintro i x H1 hi ⟨s1, ps, eD, hps⟩
    obtain ⟨n, hn, rfl⟩ := il_get hi
    obtain ⟨dx, esp⟩ := hsp.same s1
    have lp := PySem.Paired.length hps
    rw [List.length_map, List.length_take] at lp
    refine ⟨rfl, _, rfl, sp, dx, _, rfl, esp, fS_pof _ _, _, rfl, sp, dm, B, n, rfl, hsp.same s1, d0, b0, hD, hd, fun H2 t s2 et => ⟨_, s2 _ _ eD, by rw [List.length_map]; exact small1000 (by omega), same_at (s1.trans s2) nD, ps ++ [t], ?_, ?_⟩⟩
    · rw [upd_same, List.map_append]
      rfl
    · rw [List.take_add_one, hn, List.map_append]
      exact Paired.snoc ((hps.same s2).off (s2 _ _ eD)) (SqT.off (s2 _ _ eD) (SqT.of et))
  · rintro H1 ⟨s1, ps, eD, hps⟩
    rw [List.length_map, List.take_length] at hps
    refine make_cloud (hsp.same s1) (SqL.of eD) hps (fun q hq => ?_) (by rw [wv_pts d0 hR]; exact hR.nodup) (by rw [List.length_map]; exact h8) hd hB b0 fun H' x r s2 hc hp hs => ?_
    · obtain ⟨n, _, rfl⟩ := List.mem_map.mp hq
      exact pt_pt B dm n
    · rw [wv_pts d0 hR] at hp
      rw [row_eq hR hp hs] at hc
      exact q H' x (s1.trans s2) hc
def spLcf (K : PySem.W.Frag) (CS CC : Addr) : Sp := fun vs H Q _ => ∃ (sp a : Addr) (dm B : Nat) (v : View), vs = [.ref sp, .ref a] ∧ SpAt CS H sp dm B ∧ 0 < dm ∧ 0 < B ∧ dm * B ≤ 10 ∧ dm ≤ 10 ∧ B ≤ 10 ∧ VwAt K H a v ∧ Asc 0 (2 ^ (dm * B)) v ∧ v.length ≤ 8 ∧
  ∀ H' x, Same H H' → ClAt K CC H' x sp (v.map (·.1)) → Q (.ref x) H'
theorem q_lco2 {f fI fO : Addr} {fd fdI fdO : FuncData} (F : Fun K "_law_cloud_of" "_law_cloud_of" t_lco2 f fd) (TS : TxS K CS) (M : Mk K CC fI) (gC : mg "Cloud" = some (.ref CC))
    (GI : FnQ P w K mg base 5 fI fdI p_cin (spCin K CS CC)) (bI : Binds K fdI p_cin [])
    (GO : FnQ P w K mg base 2 fO fdO p_spo (spSpo K CS)) (mO : Meth K CS "point_of" fO) (bO : Binds K fdO p_spo []) : FnQ P w K mg base 7 f fd p_lco2 (spLcf K CS CC) := by
  refine FnQ.of F sc_lco2 (fun vs H Q E h => ?_) (fun cc cdv A outer s H vs Q E fx hr h => ?_)
  · obtain ⟨sp, l, dm, B, v, rfl, _⟩ := h
    rfl
  obtain ⟨sp, a, dm, B, v, rfl, hsp, d0, b0, hD, hd, hB, hv, hA, h8, q⟩ := h
  have nd := sc_lco2.nd
  have hR := hA.row
  refine ⟨_, pss_one (ps_ret (qe_make M GI hr fx.nox (by rfl) gC bI (pa_cons (pv 0) (pa_cons
    (qe_lc (own := [("_law_number_here", 2), ("_law_count", 3)]) (g := gTup K 2 (gCons (gName 2) (gCons (gName 3) gNil))) (tt := tYes) fx.nox nd (qi_tup (pv 1)) (blkOk_by (N := n_lco2) (sc := defScope t_lco2) (by decide +kernel))
      (fun _ _ _ _ _ => qg_tup fx.nox.blk (pgs_cons (pg_name (i := 2) nd rfl (.inl rfl)) (pgs_cons (pg_name (i := 3) nd rfl (.inl rfl)) pgs_nil))) (fun _ _ _ _ _ => pts_nil)
      (fun _ _ _ _ _ => qe_meth (pv 0) TS.cl mO GO (hr.mono (by decide)) fx.nox.blk bO (pa_cons (pv 2) pa_nil))) pa_nil)))), ?_⟩
  refine ⟨_, rfl, _, rfl, a, rfl, hv.sq, fun D nD => lc_view hv nD (fun i H1 => Same H H1 ∧ ∃ ps : List Addr, H1 D = some (.lst (ps.map V.ref)) ∧ PtsAt K H1 ps (((v.map (·.1)).take i).map (pt B dm))) (fun _ _ => rfl) ⟨same_new nD, [], upd_same, .nil⟩ (fun i H1 h => h.1) ?_ ?_⟩
  · rintro i e H1 hi ⟨s1, ps, eD, hps⟩
    obtain ⟨dx, esp⟩ := hsp.same s1
    have lp := PySem.Paired.length hps
    rw [List.length_map, List.length_take, List.length_map] at lp
    refine ⟨_, rfl, sp, dx, _, rfl, esp, fS_pof _ _, _, rfl, sp, dm, B, e.1, rfl, hsp.same s1, d0, b0, hD, hd, fun H2 t s2 et => ⟨_, s2 _ _ eD, by rw [List.length_map]; exact small1000 (by omega), same_at (s1.trans s2) nD, ps ++ [t], ?_, ?_⟩⟩
    · rw [upd_same, List.map_append]
      rfl
    · rw [List.take_add_one, List.getElem?_map, hi, List.map_append]
      exact Paired.snoc ((hps.same s2).off (s2 _ _ eD)) (SqT.off (s2 _ _ eD) (SqT.of et))
  · rintro H1 ⟨s1, ps, eD, hps⟩
    rw [show (v.map (·.1)).take v.length = v.map (·.1) from List.take_of_length_le (by rw [List.length_map]; exact Nat.le_refl _)] at hps
    refine make_cloud (hsp.same s1) (SqL.of eD) hps (fun q hq => ?_) (by rw [wv_pts d0 hR]; exact hR.nodup) (by rw [List.length_map, List.length_map]; exact h8) hd hB b0 fun H' x r s2 hc hp hs => ?_
    · obtain ⟨n, _, rfl⟩ := List.mem_map.mp hq
      exact pt_pt B dm n
    · rw [wv_pts d0 hR] at hp
      rw [row_eq hR hp hs] at hc
      exact q H' x (s1.trans s2) hc
end
end FW

set_option Elab.async false
set_option linter.all false
set_option maxRecDepth 100000
set_option maxHeartbeats 4000000
/-! level_code, code_of, beginning. -/
namespace FW
open PySem L2 L2H FH FC
theorem vw_cells {D : Nat} {r : List Nat} (hR : Row (2 ^ D) r) {f : Nat} (hf : f ≤ D) : ∀ e ∈ vw D r f, e.2 ≤ 2 ^ (D - f) := fun e he => by
  rw [← cf_mem (vw_asc hR hf) he]
  exact vw_le hR hf _
theorem take_flat {cs : List (List Nat)} {i : Nat} {c : List Nat} (h : cs[i]? = some c) : (cs.take (i + 1)).flatten = (cs.take i).flatten ++ c := by
  rw [List.take_add_one, h, List.flatten_append]
  simp
theorem flat_take_le (cs : List (List Nat)) (i : Nat) : (cs.take i).flatten.length ≤ cs.flatten.length := by
  have := List.take_append_drop i cs
  have e : cs.flatten.length = (cs.take i).flatten.length + (cs.drop i).flatten.length := by
    rw [← List.length_append, ← List.flatten_append, this]
  omega
theorem code_le {D : Nat} {r : List Nat} (hR : Row (2 ^ D) r) (hD : D ≤ 10) (h8 : r.length ≤ 8) {f : Nat} (hf : f < D) : (codeAt D r f).length ≤ 83 := by
  unfold FC.codeAt
  rw [code_len]
  have a := vw_pos hR hf
  have b := vw_W hR (Nat.le_of_lt hf)
  rw [← W_half _ hf] at b
  have c := share_le (h := half D f) (vw_fits hR hf)
  refine Nat.le_of_lt (slen_lt a b c ?_)
  rw [W_half _ hf]
  exact W_lt81 (pow_le1024 (by omega)) (by rw [tot_vw]; exact h8)
theorem flat_le : ∀ {cs : List (List Nat)} {b : Nat}, (∀ c ∈ cs, c.length ≤ b) → cs.flatten.length ≤ cs.length * b
  | [], b, _ => by simp
  | c :: cs, b, h => by
    have a := h c List.mem_cons_self
    have r := flat_le (cs := cs) (b := b) fun x hx => h x (List.mem_cons_of_mem _ hx)
    rw [List.flatten_cons, List.length_append, List.length_cons, Nat.succ_mul]
    omega
theorem beg_le {D : Nat} {r : List Nat} (hR : Row (2 ^ D) r) (hD : D ≤ 10) (h8 : r.length ≤ 8) {f : Nat} (hf : f ≤ D) : (beg D r f).length ≤ 830 := by
  rw [beg_flat]
  have := flat_le (cs := (List.range f).map (codeAt D r)) (b := 83) fun c hc => by
    obtain ⟨g, hg, rfl⟩ := List.mem_map.mp hc
    have := List.mem_range.mp hg
    exact code_le hR hD h8 (by omega)
  rw [List.length_map, List.length_range] at this
  omega
section
variable {P : Program} {w : World} {K : PySem.W.Frag} {mg : Str → Option Value} {base : Heap} {CS CC : Addr}
def spLco (K : PySem.W.Frag) (CS CC : Addr) : Sp := fun vs H Q _ => ∃ (c sp : Addr) (r : List Nat) (dm B f : Nat), vs = [.ref c, iN f] ∧ ClAt K CC H c sp r ∧ SpAt CS H sp dm B ∧ dm * B ≤ 10 ∧ f < dm * B ∧ Row (2 ^ (dm * B)) r ∧ r.length ≤ 8 ∧
  ∀ H' p, Same H H' → H' p = some (.tup (iL (codeAt (dm * B) r f))) → Q (.ref p) H'
theorem q_lco {f fV fN fS : Addr} {fd fdV fdN fdS : FuncData} (F : Fun K "level_code" "level_code" t_lco f fd) (TC : TxC K CC)
    (GV : FnQ P w K mg base 2 fV fdV p_cvw (spCvw K CS CC)) (mV : Meth K CC "view" fV) (bV : Binds K fdV p_cvw [])
    (GN : FnQ P w K mg base 3 fN fdN p_nar (spNar K CS)) (gN : mg "narrowed" = some (.ref fN)) (kN : PySem.W.keepIn K (.ref fN) = true) (bN : Binds K fdN p_nar [])
    (GS : FnQ P w K mg base 2 fS fdS p_sho spSho) (gS : mg "shortest" = some (.ref fS)) (kS : PySem.W.keepIn K (.ref fS) = true) (bS : Binds K fdS p_sho []) : FnQ P w K mg base 4 f fd p_lco (spLco K CS CC) := by
  refine FnQ.of F sc_lco (fun vs H Q E h => ?_) (fun cc cdv A outer s H vs Q E fx hr h => ?_)
  · obtain ⟨c, sp, r, dm, B, f, rfl, _⟩ := h
    rfl
  obtain ⟨c, sp, r, dm, B, f, rfl, hc, hsp, hD, hf, hR, h8, q⟩ := h
  have nd := sc_lco.nd
  have hr2 := hr.mono (show 2 ≤ 3 by decide)
  refine ⟨_, pss_cons (ps_asg (qe_call GN hr fx.nox (by rfl) gN kN bN (pa_cons (pe_fld (pv 0) rfl) (pa_cons (pv 1) (pa_cons (qe_meth (pv 0) TC.cl mV GV hr2 fx.nox bV (pa_cons (pv 1) pa_nil)) (pa_cons (qe_meth (pv 0) TC.cl mV GV hr2 fx.nox bV (pa_cons (pe_op op_add (pv 1) pe_int) pa_nil)) pa_nil)))))
      (qg_tup fx.nox (pgs_cons (pg_name (i := 2) nd rfl (.inl rfl)) (pgs_cons (pg_name (i := 3) nd rfl (.inl rfl)) (pgs_cons (pg_name (i := 4) nd rfl (.inl rfl)) pgs_nil)))))
    (pss_one (ps_ret (qe_call GS hr2 fx.nox (by rfl) gS kS bS (pa_cons (pv 2) (pa_cons (pv 3) (pa_cons (pv 4) pa_nil)))))), ?_⟩
  obtain ⟨dx, ra, ec, tr⟩ := id hc
  refine ⟨_, rfl, c, CC, dx, _, _, rfl, ec, TC.cl, TC.nSp, fC_space _ _, _, rfl, _, rfl, c, dx, _, rfl, ec, fC_view _ _, _, rfl, c, sp, r, dm, B, f, rfl, hc, hsp, hD, by omega, hR, h8, fun H1 a s1 hv1 => ?_⟩
  refine ⟨_, rfl, c, dx, _, rfl, s1 _ _ ec, fC_view _ _, _, rfl, _, _, rfl, rfl, c, sp, r, dm, B, f + 1, rfl, hc.same s1, hsp.same s1, hD, hf, hR, h8, fun H2 b s2 hv2 => ?_⟩
  have A := vw_asc hR (Nat.le_of_lt hf)
  have A2 := vw_asc hR hf
  have L := vw_len hR (Nat.le_of_lt hf)
  have fits := vw_fits hR hf
  refine ⟨sp, dm, B, f, a, b, vw (dm * B) r f, vw (dm * B) r (f + 1), _, rfl, (hsp.same s1).same s2, hD, hf, (hv1.same s2).at_, hv2, A2, by omega, by rw [tot_vw]; exact h8, fits, vw_cells hR (Nat.le_of_lt hf), fun H3 t s3 et => ?_⟩
  refine ⟨t, _, rfl, SqT.of et, rfl, _, _, rfl, _, _, rfl, _, _, rfl, rfl, ?_⟩
  have h1 := vw_pos hR hf
  have h2 := vw_W hR (Nat.le_of_lt hf)
  have h3 := share_le (h := half (dm * B) f) fits
  rw [W_half _ hf] at h3
  refine ⟨_, rfl, _, rfl, _, rfl, _, _, _, rfl, h1, h2, h3, W_lt81 (pow_le1024 (by omega)) (by rw [tot_vw]; exact h8), fun H4 p s4 ep => q H4 p (((s1.trans s2).trans s3).trans s4) ?_⟩
  rw [ep]
  unfold FC.codeAt codeOf
  rw [W_half _ hf]
def spCod (K : PySem.W.Frag) (CS CC : Addr) : Sp := fun vs H Q _ => ∃ (c sp : Addr) (r : List Nat) (dm B : Nat), vs = [.ref c] ∧ ClAt K CC H c sp r ∧ SpAt CS H sp dm B ∧ dm * B ≤ 10 ∧ Row (2 ^ (dm * B)) r ∧ r.length ≤ 8 ∧
  ∀ H' p ls, Same H H' → H' p = some (.tup (ls.map V.ref)) → PtsAt K H' ls ((List.range (dm * B)).map (codeAt (dm * B) r)) → Q (.ref p) H'
theorem q_cod {f fL : Addr} {fd fdL : FuncData} (F : Fun K "code_of" "code_of" t_cod f fd) (TC : TxC K CC) (TS : TxS K CS) (BB : Bl mg)
    (GL : FnQ P w K mg base 4 fL fdL p_lco (spLco K CS CC)) (gL : mg "level_code" = some (.ref fL)) (kL : PySem.W.keepIn K (.ref fL) = true) (bL : Binds K fdL p_lco []) : FnQ P w K mg base 5 f fd p_cod (spCod K CS CC) := by
  refine FnQ.of F sc_cod (fun vs H Q E h => ?_) (fun cc cdv A outer s H vs Q E fx hr h => ?_)
  · obtain ⟨c, sp, r, dm, B, rfl, _⟩ := h
    rfl
  obtain ⟨c, sp, r, dm, B, rfl, hc, hsp, hD, hR, h8, q⟩ := h
  have nd := sc_cod.nd
  refine ⟨_, pss_one (ps_ret (pe_callTy call_tuple_of (by rfl) BB.n_tuple (by decide +kernel) (pa_cons
    (qe_lc (own := [("fineness", 1)]) (g := gName 1) (tt := tYes) fx.nox nd (qi_range1 (by rfl) BB.n_range (pa_cons (pe_fld (pe_fld (pv 0) rfl) rfl) pa_nil)) (blkOk_by (N := n_cod) (sc := defScope t_cod) (by decide +kernel)) (fun _ _ _ _ _ => pg_name (i := 1) nd rfl (.inl rfl)) (fun _ _ _ _ _ => pts_nil)
      (fun _ _ _ _ _ => qe_call GL hr fx.nox.blk (by rfl) gL kL bL (pa_cons (pv 0) (pa_cons (pv 1) pa_nil)))) pa_nil))), ?_⟩
  obtain ⟨dx, ra, ec, tr⟩ := id hc
  obtain ⟨dx2, esp⟩ := id hsp
  refine ⟨_, rfl, c, CC, dx, _, _, rfl, ec, TC.cl, TC.nSp, fC_space _ _, sp, CS, dx2, _, _, rfl, esp, TS.cl, TS.nDepth, fS_depth _ _, _, rfl, (lt62 (by omega)).1, (lt62 (by omega)).2, fun D nD => lc_range (lo := 0) (fun i H1 => Same H H1 ∧ ∃ ls : List Addr, H1 D = some (.lst (ls.map V.ref)) ∧ PtsAt K H1 ls ((List.range i).map (codeAt (dm * B) r))) ⟨same_new nD, [], upd_same, .nil⟩ ?_ ?_⟩
  · rintro i H1 hi ⟨s1, ls, eD, hls⟩
    have hi : i < dm * B := hi
    have lp := PySem.Paired.length hls
    rw [List.length_map, List.length_range] at lp
    refine ⟨rfl, _, rfl, _, rfl, c, sp, r, dm, B, i, congrArg (fun z => [V.ref c, V.int z]) (by omega), hc.same s1, hsp.same s1, hD, hi, hR, h8, fun H2 t s2 et => ⟨_, s2 _ _ eD, by rw [List.length_map]; exact small1000 (by omega), same_at (s1.trans s2) nD, ls ++ [t], ?_, ?_⟩⟩
    · rw [upd_same, List.map_append]
      rfl
    · rw [List.range_succ, List.map_append]
      exact Paired.snoc ((hls.same s2).off (s2 _ _ eD)) (SqT.off (s2 _ _ eD) (SqT.of et))
  · rintro H1 ⟨s1, ls, eD, hls⟩
    exact ⟨D, _, rfl, .inl ⟨SqL.of eD, fun l nl => q _ l ls (s1.trans (same_new nl)) upd_same (hls.same (same_new nl))⟩⟩
def spBgn (K : PySem.W.Frag) (CS CC : Addr) : Sp := fun vs H Q _ => ∃ (c sp : Addr) (r : List Nat) (dm B f : Nat), vs = [.ref c, iN f] ∧ ClAt K CC H c sp r ∧ SpAt CS H sp dm B ∧ dm * B ≤ 10 ∧ f ≤ dm * B ∧ Row (2 ^ (dm * B)) r ∧ r.length ≤ 8 ∧
  ∀ H' p, Same H H' → H' p = some (.tup (iL (beg (dm * B) r f))) → Q (.ref p) H'
theorem pts_take {K : PySem.W.Frag} {H : Hp} : ∀ {ps : List Addr} {qs : List (List Nat)} (n : Nat), PtsAt K H ps qs → PtsAt K H (ps.take n) (qs.take n)
  | _, _, 0, _ => .nil
  | _, _, n + 1, .nil => .nil
  | _, _, n + 1, .cons h r => .cons h (pts_take n r)
theorem q_bgn {f fC : Addr} {fd fdC : FuncData} (F : Fun K "beginning" "beginning" t_bgn f fd) (BB : Bl mg)
    (GC : FnQ P w K mg base 5 fC fdC p_cod (spCod K CS CC)) (gC : mg "code_of" = some (.ref fC)) (kC : PySem.W.keepIn K (.ref fC) = true) (bC : Binds K fdC p_cod []) : FnQ P w K mg base 6 f fd p_bgn (spBgn K CS CC) := by
  refine FnQ.of F sc_bgn (fun vs H Q E h => ?_) (fun cc cdv A outer s H vs Q E fx hr h => ?_)
  · obtain ⟨c, sp, r, dm, B, f, rfl, _⟩ := h
    rfl
  obtain ⟨c, sp, r, dm, B, f, rfl, hc, hsp, hD, hf, hR, h8, q⟩ := h
  have nd := sc_bgn.nd
  refine ⟨_, pss_one (ps_ret (pe_callTy call_tuple_of (by rfl) BB.n_tuple (by decide +kernel) (pa_cons
    (qe_lc2 (own := [("level", 2), ("bit", 3)]) (vs1 := [3]) (g := gName 2) (tt := tYes) (wi1 := iTup K (tVar 2)) (g1 := gName 3) (tt1 := tYes) (te := tVar 3) fx.nox nd (qi_tup (pe_slice sl_tupA (qe_call GC hr fx.nox (by rfl) gC kC bC (pa_cons (pv 0) pa_nil)) po_none (po_some (pv 1)))) (blkOk_by (N := n_bgn) (sc := defScope t_bgn) (by decide +kernel)) (by decide)
      (fun _ _ _ _ _ => pg_name (i := 2) nd rfl (.inl rfl)) (fun _ _ _ _ _ => pts_nil) (fun _ _ _ _ _ => qi_tup (pv 2)) (fun _ _ _ _ _ => pg_name (i := 3) nd rfl (.inl rfl)) (fun _ _ _ _ _ => pts_nil) (fun _ _ _ _ _ => pv 3)) pa_nil))), ?_⟩
  refine ⟨_, rfl, c, sp, r, dm, B, rfl, hc, hsp, hD, hR, h8, fun H1 t ls s1 et hls => ⟨_, rfl, _, rfl, slice_at (SqT.of et) fun H2 a s2 ha => ⟨a, rfl, ⟨_, ha⟩, fun D nD => ?_⟩⟩⟩
  rw [cut_take, ← List.map_take] at ha
  have hls2 := pts_take f (hls.same s2)
  rw [← List.map_take, List.take_range, Nat.min_eq_left hf] at hls2
  have hfl := beg_le hR hD h8 hf
  have hb := beg_flat (dm * B) r f
  rw [hb] at hfl
  generalize (List.range f).map (codeAt (dm * B) r) = cs at *
  have lp := PySem.Paired.length hls2
  refine ⟨fun i m H => m = cs.length - i ∧ i ≤ cs.length ∧ Same H2 H ∧ H D = some (.lst (iL (cs.take i).flatten)), ⟨_, rfl, Nat.zero_le _, same_new nD, upd_same⟩, ?_⟩
  rintro i m H3 ⟨rfl, hi, s3, eD⟩
  have ha3 := Same.tp s3 ha
  by_cases hlt : i < cs.length
  · obtain ⟨l, hl⟩ : ∃ l, (ls.take f)[i]? = some l := ⟨_, List.getElem?_eq_getElem (by omega)⟩
    have hx : ((ls.take f).map V.ref)[i]? = some (.ref l) := by rw [List.getElem?_map, hl]; rfl
    obtain ⟨l', cc', e1, hcc, hsq⟩ := pts_get hls2 hx
    cases e1
    have ht := take_flat hcc
    refine .inr ⟨⟨_, _, ha3, hx⟩, fun H' => Same H2 H' ∧ H' D = some (.lst (iL (cs.take (i + 1)).flatten)), fun H' h => ⟨_, by omega, rfl, hlt, h.1, h.2⟩, fun x H' y => ?_⟩
    obtain ⟨rfl, y⟩ := y
    have ex : x = .ref l := Option.some.inj ((y _ ha3).symm.trans hx)
    subst ex
    have hsq3 := Same.tp s3 hsq
    refine ⟨rfl, .ref l, rfl, l, rfl, ⟨_, hsq3⟩, fun j k H => k = cc'.length - j ∧ j ≤ cc'.length ∧ Same H2 H ∧ H D = some (.lst (iL ((cs.take i).flatten ++ cc'.take j))), ⟨_, rfl, Nat.zero_le _, s3, ?_⟩, ?_⟩
    · rw [List.take_zero, List.append_nil]
      exact eD
    · rintro j k H4 ⟨rfl, hj, s4, eD4⟩
      have hsq4 := Same.tp s4 hsq
      by_cases hjl : j < cc'.length
      · obtain ⟨b, hb'⟩ : ∃ b, cc'[j]? = some b := ⟨_, List.getElem?_eq_getElem hjl⟩
        have hx' : (iL cc')[j]? = some (iN b) := by unfold iL; rw [List.getElem?_map, hb']; rfl
        refine .inr ⟨⟨_, _, hsq4, hx'⟩, fun H' => Same H2 H' ∧ H' D = some (.lst (iL ((cs.take i).flatten ++ cc'.take (j + 1)))), fun H' h => ⟨_, by omega, rfl, hjl, h.1, h.2⟩, fun x H' y => ?_⟩
        obtain ⟨rfl, y⟩ := y
        have ex : x = iN b := Option.some.inj ((y _ hsq4).symm.trans hx')
        subst ex
        refine ⟨rfl, _, rfl, _, eD4, ?_, same_at s4 nD, ?_⟩
        · unfold iL
          have h1 := flat_take_le cs (i + 1)
          rw [ht, List.length_append] at h1
          rw [List.length_map, List.length_append, List.length_take]
          exact small1000 (by omega)
        · rw [upd_same, List.take_add_one, hb', ← List.append_assoc]
          unfold iL
          rw [List.map_append, List.map_append, List.map_append]
          rfl
      · have e : j = cc'.length := by omega
        subst e
        rw [List.take_length] at eD4
        refine .inl ⟨⟨_, hsq4, by unfold iL; rw [List.length_map]; exact Nat.le_refl _⟩, s4, ?_⟩
        rw [ht]
        exact eD4
  · have e : i = cs.length := by omega
    subst e
    rw [List.take_length] at eD
    refine .inl ⟨⟨_, ha3, by rw [List.length_map]; omega⟩, D, _, rfl, .inl ⟨SqL.of eD, fun l nl => q _ l (((s1.trans s2).trans s3).trans (same_new nl)) ?_⟩⟩
    rw [upd_same, hb]
end
end FW

set_option Elab.async false
set_option linter.all false
set_option maxRecDepth 100000
set_option maxHeartbeats 4000000
/-! read_code. -/
namespace FW
open PySem L2 L2H FH FC
theorem cells_of_W {s : Nat} : ∀ {v : View}, 0 < W s v → ∀ e ∈ v, e.2 ≤ s
  | e :: v, h, x, hx => by
    have h1 : 0 < ch s e.2 * W s v := h
    have h2 : 0 < ch s e.2 := Nat.pos_of_mul_pos_right h1
    have h3 : 0 < W s v := Nat.pos_of_mul_pos_left h1
    rcases List.mem_cons.mp hx with r | r
    · rw [r]
      exact ch_le_of_pos h2
    · exact cells_of_W h3 x r
/-- the loop of read_code at fineness f with view v, so many bits used -/
structure RdI (D many : Nat) (bits : List Nat) (f : Nat) (v : View) (used : Nat) : Prop where
  le : f ≤ D
  ul : used ≤ bits.length
  asc : Asc 0 (2 ^ f) v
  pos : 0 < W (2 ^ (D - f)) v
  tt : tot v = many
  eq : rd D 0 (v0 many) bits = ((rd (D - f) f v (bits.drop used)).1, (rd (D - f) f v (bits.drop used)).2.1, used + (rd (D - f) f v (bits.drop used)).2.2)
theorem v0_asc (many : Nat) : Asc 0 (2 ^ 0) (v0 many) := by
  unfold v0
  split
  · exact ⟨Nat.zero_le _, Nat.one_pos, by assumption, trivial⟩
  · trivial
theorem v0_tot (many : Nat) : tot (v0 many) = many := by
  unfold v0
  split
  · show many + 0 = many
    omega
  · show 0 = many
    omega
theorem v0_W (s many : Nat) : W s (v0 many) = ch s many := by
  unfold v0
  split
  · show ch s many * 1 = _
    omega
  · rw [show many = 0 by omega, ch_zero]
    rfl
theorem rdI_zero {D many : Nat} {bits : List Nat} (h : many ≤ 2 ^ D) : RdI D many bits 0 (v0 many) 0 :=
  ⟨Nat.zero_le _, Nat.zero_le _, v0_asc many, by rw [v0_W]; exact ch_pos _ _ h, v0_tot many, by rw [List.drop_zero, Nat.sub_zero]; simp⟩
theorem rdI_some {D many : Nat} {bits : List Nat} {f : Nat} {v w : View} {used m : Nat} (I : RdI D many bits f v used) (hb : ∀ b ∈ bits, b < 2) (hf : f < D) (e : levelRead (2 ^ (D - f - 1)) v (bits.drop used) = some (w, m)) : RdI D many bits (f + 1) w (used + m) := by
  obtain ⟨le, ul, asc, pos, tt, eq⟩ := I
  have hb' : ∀ b ∈ bits.drop used, b < 2 := fun b h => hb b (List.mem_of_mem_drop h)
  have d1 : D - f = (D - f - 1) + 1 := by omega
  have pos' := pos
  rw [d1] at pos'
  obtain ⟨hm, as, fits, rfl, pw⟩ := next_ok hb' pos' e
  rw [List.length_drop] at hm
  refine ⟨hf, by omega, ?_, ?_, by rw [tot_nxt _ _ fits]; exact tt, ?_⟩
  · have := asc.nxt (as := as)
    rw [Nat.pow_succ, Nat.mul_comm]
    exact this
  · rw [show D - (f + 1) = D - f - 1 by omega]
    exact pw
  · rw [eq, d1, rd_some e, List.drop_drop, show D - (f + 1) = D - f - 1 by omega]
    simp only [Nat.add_assoc]
theorem rdI_none {D many : Nat} {bits : List Nat} {f : Nat} {v : View} {used : Nat} (I : RdI D many bits f v used) (hf : f < D) (e : levelRead (2 ^ (D - f - 1)) v (bits.drop used) = none) : rd D 0 (v0 many) bits = (f, v, used) := by
  obtain ⟨le, ul, asc, pos, tt, eq⟩ := I
  have d1 : D - f = (D - f - 1) + 1 := by omega
  rw [eq, d1, rd_none e]
  rfl
theorem rdI_end {D many : Nat} {bits : List Nat} {v : View} {used : Nat} (I : RdI D many bits D v used) : rd D 0 (v0 many) bits = (D, v, used) := by
  have := I.eq
  rw [Nat.sub_self] at this
  exact this
section
variable {P : Program} {w : World} {K : PySem.W.Frag} {mg : Str → Option Value} {base : Heap} {CS CC : Addr}
def spRdc (K : PySem.W.Frag) (CS : Addr) : Sp := fun vs H Q _ => ∃ (p : Addr) (dm B many : Nat) (b : Addr) (bits : List Nat), vs = [.ref p, iN many, .ref b] ∧ SpAt CS H p dm B ∧ dm * B ≤ 10 ∧ many ≤ 8 ∧ many ≤ 2 ^ (dm * B) ∧ SqT K H b (iL bits) ∧ (∀ x ∈ bits, x < 2) ∧ bits.length ≤ 1000 ∧
  ∀ g v u, rd (dm * B) 0 (v0 many) bits = (g, v, u) → ∀ H' t a, Same H H' → H' t = some (.tup [iN g, .ref a, iN u]) → VwAt K H' a v → Q (.ref t) H'
theorem q_rdc {f fA fL : Addr} {fd fdA fdL : FuncData} (F : Fun K "read_code" "read_code" t_rdc f fd) (TS : TxS K CS)
    (GA : FnQ P w K mg base 2 fA fdA p_alc (spAlc CS)) (gA : mg "all_clouds" = some (.ref fA)) (kA : PySem.W.keepIn K (.ref fA) = true) (bA : Binds K fdA p_alc [])
    (GL : FnQ P w K mg base 4 fL fdL p_lrd (spLrd K CS)) (gL : mg "level_read" = some (.ref fL)) (kL : PySem.W.keepIn K (.ref fL) = true) (bL : Binds K fdL p_lrd []) : FnQ P w K mg base 5 f fd p_rdc (spRdc K CS) := by
  refine FnQ.of F sc_rdc (fun vs H Q E h => ?_) (fun cc cdv A outer s H vs Q E fx hr h => ?_)
  · obtain ⟨p, dm, B, many, b, bits, rfl, _⟩ := h
    rfl
  obtain ⟨p, dm, B, many, b, bits, rfl, hp, hD, h8, hm, hb, bt, bl, q⟩ := h
  have nd := sc_rdc.nd
  refine ⟨_, pss_cons (ps_if (pt_cmpR op_eq (qe_call GA (hr.mono (by decide)) fx.nox (by rfl) gA kA bA (pa_cons (pv 0) (pa_cons (pv 1) pa_nil))) pe_int (nomark _)) (pss_one ps_never) pss_nil)
    (pss_cons (qs_par3 (i := 3) (j := 4) (l := 5) fx.nox nd rfl rfl rfl (by decide) (by decide) (by decide) rfl rfl rfl (pa_cons pe_int (pa_cons (pe_ifExp (pt_cmpR op_gt (pv 1) pe_int (nomark _)) (pe_tup (pa_cons (pe_tup (pa_cons pe_int (pa_cons (pv 1) pa_nil))) pa_nil)) (pe_tup pa_nil)) (pa_cons pe_int pa_nil))) (by rfl))
    (pss_cons (ps_while PassesOwn.never (pt_cmpR op_lt (pv 3) (pe_fld (pv 0) rfl) (nomark _))
      (pss_cons (ps_set (i := 6) nd rfl (.inl rfl) (qe_call GL hr fx.nox (by rfl) gL kL bL (pa_cons (pv 0) (pa_cons (pv 3) (pa_cons (pv 4) (pa_cons (pe_slice sl_tupA (pv 2) (po_some (pv 5)) po_none) pa_nil))))))
      (pss_cons (ps_if (pt_cmpR op_isN (pv 6) pe_non (nomark _)) (pss_one (ps_ret (pe_tup (pa_cons (pv 3) (pa_cons (pv 4) (pa_cons (pv 5) pa_nil)))))) pss_nil)
      (pss_one (qs_par3 (i := 4) (j := 5) (l := 3) fx.nox nd rfl rfl rfl (by decide) (by decide) (by decide) rfl rfl rfl (pa_cons (pe_ix ix_tup (pv 6) pe_int (fun _ _ => rfl)) (pa_cons (pe_op op_add (pv 5) (pe_ix ix_tup (pv 6) pe_int (fun _ _ => rfl))) (pa_cons (pe_op op_add (pv 3) pe_int) pa_nil))) (by rfl))))))
    (pss_one (ps_ret (pe_tup (pa_cons (pv 3) (pa_cons (pv 4) (pa_cons (pv 5) pa_nil)))))))), ?_⟩
  obtain ⟨dx, ep⟩ := id hp
  have cp := ch_pos (2 ^ (dm * B)) many hm
  refine ⟨_, rfl, _, rfl, p, dm, B, many, rfl, hp, hD, rfl, _, rfl, ?_⟩
  rw [decide_eq_false (show ¬ V.int ((ch (2 ^ (dm * B)) many : Nat) : Int) = V.int 0 from fun z => by
    have z := V.int.inj z
    omega)]
  refine iteF ?_
  refine ⟨_, rfl, _, _, rfl, rfl, _, rfl, ?_⟩
  by_cases z : 0 < many
  · rw [decide_eq_true (show (0 : Int) < (many : Int) by omega)]
    refine iteT ⟨_, rfl, (by show 2 ≤ sizeLine; decide), fun t1 n1 => ⟨(by show 1 ≤ sizeLine; decide), fun t2 n2 => ⟨_, _, _, rfl, ?_⟩⟩⟩
    have s0 := (same_new (o := .tup [V.int 0, iN many]) n1).trans (same_new (o := .tup [V.ref t1]) n2)
    have hv0 : VwAt K (upd (upd H t1 (.tup [V.int 0, iN many])) t2 (.tup [V.ref t1])) t2 (v0 many) := by
      unfold v0
      rw [if_pos z]
      exact ⟨[t1], SqT.of upd_same, .cons (Same.tp (same_new n2) (SqT.of upd_same)) .nil⟩
    refine ⟨fun k σ H2 => Same H H2 ∧ ∃ (f : Nat) (a : Addr) (v : View) (used : Nat) (x6 : Option V), f + k = dm * B ∧ RdI (dm * B) many bits f v used ∧ VwAt K H2 a v ∧ σ = [some (.ref p), some (iN many), some (.ref b), some (iN f), some (.ref a), some (iN used), x6], ⟨_, s0, 0, t2, v0 many, 0, none, Nat.zero_add _, rdI_zero hm, hv0, rfl⟩, ?_⟩
    rintro k σ H2 ⟨s2, f, a, v, used, x6, hk, I, hv, rfl⟩
    refine ⟨_, rfl, _, rfl, p, CS, dx, _, _, rfl, s2 _ _ ep, TS.cl, TS.nDepth, fS_depth _ _, _, _, rfl, rfl, _, rfl, ?_⟩
    by_cases hf : f < dm * B
    · rw [decide_eq_true (show (f : Int) < ((dm * B : Nat) : Int) from Int.ofNat_lt.mpr hf)]
      refine iteT ⟨_, fun _ _ z => z, ?_⟩
      have hlen : v.length ≤ 8 := by
        have := len_le_tot I.asc
        rw [I.tt] at this
        omega
      have hul := I.ul
      refine ⟨_, rfl, _, rfl, _, rfl, _, rfl, _, rfl, _, rfl, ?_⟩
      unfold tNoPart
      refine slice_at (Same.tp s2 hb) fun H3 c s3 hc => ?_
      rw [cut_drop _ _ (by rw [List.length_map]; exact I.ul), ← List.map_drop] at hc
      have s23 := s2.trans s3
      refine ⟨p, dm, B, f, a, v, c, bits.drop used, rfl, hp.same s23, hD, hf, hv.same s3, hlen, by rw [I.tt]; exact h8, cells_of_W I.pos, hc, fun x hx => bt x (List.mem_of_mem_drop hx), by rw [List.length_drop]; omega, fun e H4 s4 => ?_, fun u m e H4 t c2 s4 et hu => ?_⟩
      · refine ⟨.non, rfl, rfl, _, rfl, ?_⟩
        rw [decide_eq_true (show V.non = V.non from rfl)]
        refine iteT ⟨_, rfl, _, rfl, _, rfl, (by show 3 ≤ sizeLine; decide), fun t nt => q _ _ _ (rdI_none I hf e) _ t a ((s23.trans s4).trans (same_new nt)) upd_same (((hv.same s3).same s4).same (same_new nt))⟩
      · refine ⟨.ref t, rfl, rfl, _, rfl, ?_⟩
        rw [decide_eq_false (show ¬ V.ref t = V.non from fun z => by cases z)]
        exact iteF ⟨_, rfl, t, _, 0, _, rfl, rfl, SqT.of et, rfl, _, rfl, _, rfl, t, _, 1, _, rfl, rfl, SqT.of et, rfl, _, _, rfl, rfl, _, rfl, _, _, rfl, rfl, _, _, _, rfl, k - 1, by omega, s23.trans s4, f + 1, c2, u, used + m, _, by omega, rdI_some I bt hf e, hu, rfl⟩
    · rw [decide_eq_false (show ¬ (f : Int) < ((dm * B : Nat) : Int) from fun z => hf (Int.ofNat_lt.mp z))]
      have ef : f = dm * B := by
        have := I.le
        omega
      subst ef
      refine iteF ⟨_, rfl, _, rfl, _, rfl, (by show 3 ≤ sizeLine; decide), fun t nt => q _ _ _ (rdI_end I) _ t a (s2.trans (same_new nt)) upd_same (hv.same (same_new nt))⟩
  · rw [decide_eq_false (show ¬ (0 : Int) < (many : Int) by omega)]
    refine iteF ⟨(by show 0 ≤ sizeLine; decide), fun t2 n2 => ⟨_, _, _, rfl, ?_⟩⟩
    have s0 := same_new (o := .tup []) n2
    have hv0 : VwAt K (upd H t2 (.tup [])) t2 (v0 many) := by
      unfold v0
      rw [if_neg z]
      exact ⟨[], SqT.of upd_same, .nil⟩
    refine ⟨fun k σ H2 => Same H H2 ∧ ∃ (f : Nat) (a : Addr) (v : View) (used : Nat) (x6 : Option V), f + k = dm * B ∧ RdI (dm * B) many bits f v used ∧ VwAt K H2 a v ∧ σ = [some (.ref p), some (iN many), some (.ref b), some (iN f), some (.ref a), some (iN used), x6], ⟨_, s0, 0, t2, v0 many, 0, none, Nat.zero_add _, rdI_zero hm, hv0, rfl⟩, ?_⟩
    rintro k σ H2 ⟨s2, f, a, v, used, x6, hk, I, hv, rfl⟩
    refine ⟨_, rfl, _, rfl, p, CS, dx, _, _, rfl, s2 _ _ ep, TS.cl, TS.nDepth, fS_depth _ _, _, _, rfl, rfl, _, rfl, ?_⟩
    by_cases hf : f < dm * B
    · rw [decide_eq_true (show (f : Int) < ((dm * B : Nat) : Int) from Int.ofNat_lt.mpr hf)]
      refine iteT ⟨_, fun _ _ z => z, ?_⟩
      have hlen : v.length ≤ 8 := by
        have := len_le_tot I.asc
        rw [I.tt] at this
        omega
      have hul := I.ul
      refine ⟨_, rfl, _, rfl, _, rfl, _, rfl, _, rfl, _, rfl, ?_⟩
      unfold tNoPart
      refine slice_at (Same.tp s2 hb) fun H3 c s3 hc => ?_
      rw [cut_drop _ _ (by rw [List.length_map]; exact I.ul), ← List.map_drop] at hc
      have s23 := s2.trans s3
      refine ⟨p, dm, B, f, a, v, c, bits.drop used, rfl, hp.same s23, hD, hf, hv.same s3, hlen, by rw [I.tt]; exact h8, cells_of_W I.pos, hc, fun x hx => bt x (List.mem_of_mem_drop hx), by rw [List.length_drop]; omega, fun e H4 s4 => ?_, fun u m e H4 t c2 s4 et hu => ?_⟩
      · refine ⟨.non, rfl, rfl, _, rfl, ?_⟩
        rw [decide_eq_true (show V.non = V.non from rfl)]
        refine iteT ⟨_, rfl, _, rfl, _, rfl, (by show 3 ≤ sizeLine; decide), fun t nt => q _ _ _ (rdI_none I hf e) _ t a ((s23.trans s4).trans (same_new nt)) upd_same (((hv.same s3).same s4).same (same_new nt))⟩
      · refine ⟨.ref t, rfl, rfl, _, rfl, ?_⟩
        rw [decide_eq_false (show ¬ V.ref t = V.non from fun z => by cases z)]
        exact iteF ⟨_, rfl, t, _, 0, _, rfl, rfl, SqT.of et, rfl, _, rfl, _, rfl, t, _, 1, _, rfl, rfl, SqT.of et, rfl, _, _, rfl, rfl, _, rfl, _, _, rfl, rfl, _, _, _, rfl, k - 1, by omega, s23.trans s4, f + 1, c2, u, used + m, _, by omega, rdI_some I bt hf e, hu, rfl⟩
    · rw [decide_eq_false (show ¬ (f : Int) < ((dm * B : Nat) : Int) from fun z => hf (Int.ofNat_lt.mp z))]
      have ef : f = dm * B := by
        have := I.le
        omega
      subst ef
      refine iteF ⟨_, rfl, _, rfl, _, rfl, (by show 3 ≤ sizeLine; decide), fun t nt => q _ _ _ (rdI_end I) _ t a (s2.trans (same_new nt)) upd_same (hv.same (same_new nt))⟩
end
end FW

set_option Elab.async false
set_option linter.all false
set_option maxRecDepth 100000
set_option maxHeartbeats 4000000
/-! Tuples of whole numbers, views, lists of tuples, as data that == looks at. -/
namespace FW
open PySem L2 L2H FH FC
def dI (l : List Nat) : PyData := .tuple (l.map fun n : Nat => PyData.int (n : Int))
def dP (e : Nat × Nat) : PyData := .tuple [.int (e.1 : Int), .int (e.2 : Int)]
def dV (v : View) : PyData := .tuple (v.map dP)
def dLs (cs : List (List Nat)) : PyData := .list (cs.map dI)
theorem dp_ints {K : PySem.W.Frag} {H : Hp} : ∀ l : List Nat, DpAll K H (iL l) (l.map fun n : Nat => PyData.int (n : Int))
  | [] => .nil
  | n :: l => .cons (.int _) (dp_ints l)
theorem dp_dI {K : PySem.W.Frag} {H : Hp} {a : Addr} {l : List Nat} (h : SqT K H a (iL l)) : Dp K H (.ref a) (dI l) := .tup h (dp_ints l)
theorem dp_pairs {K : PySem.W.Frag} {H : Hp} : ∀ {ps : List Addr} {v : View}, Prs K H ps v → DpAll K H (ps.map V.ref) (v.map dP)
  | _, _, .nil => .nil
  | _, _, .cons h r => .cons (.tup h (.cons (.int _) (.cons (.int _) .nil))) (dp_pairs r)
theorem dp_dV {K : PySem.W.Frag} {H : Hp} {a : Addr} {v : View} (h : VwAt K H a v) : Dp K H (.ref a) (dV v) := by
  obtain ⟨ps, t, p⟩ := h
  exact .tup t (dp_pairs p)
theorem lay_ints : ∀ l : List Nat, PyData.canLayAll0 (l.map fun n : Nat => PyData.int (n : Int)) = true
  | [] => by simp [PyData.canLayAll0]
  | n :: l => by simp [PyData.canLayAll0, PyData.canLay0, lay_ints l]
theorem dep_ints : ∀ l : List Nat, PyData.depthAll (l.map fun n : Nat => PyData.int (n : Int)) ≤ 2
  | [] => by simp [PyData.depthAll]
  | n :: l => by
    have := dep_ints l
    simp only [List.map_cons, PyData.depthAll, PyData.depth]
    omega
theorem shaped_of {d : PyData} (h : d.canLay0 = true) (h2 : d.depth ≤ 10) : SeqAt.shaped d = true := by
  unfold SeqAt.shaped
  rw [h, decide_eq_true (by omega)] <;> rfl
theorem dI_depth (l : List Nat) : (dI l).depth ≤ 4 := by
  have := dep_ints l
  unfold dI
  simp only [PyData.depth]
  omega
theorem dI_shaped (l : List Nat) : SeqAt.shaped (dI l) = true := shaped_of (by unfold dI; simp only [PyData.canLay0]; exact lay_ints l) (by have := dI_depth l; omega)
theorem lay_prs : ∀ v : View, PyData.canLayAll0 (v.map dP) = true
  | [] => by simp [PyData.canLayAll0]
  | e :: v => by simp [PyData.canLayAll0, PyData.canLay0, dP, lay_prs v]
theorem dep_prs : ∀ v : View, PyData.depthAll (v.map dP) ≤ 4
  | [] => by simp [PyData.depthAll]
  | e :: v => by
    have := dep_prs v
    simp only [List.map_cons, PyData.depthAll, dP, PyData.depth]
    omega
theorem dV_shaped (v : View) : SeqAt.shaped (dV v) = true := shaped_of (by unfold dV; simp only [PyData.canLay0]; exact lay_prs v) (by have := dep_prs v; unfold dV; simp only [PyData.depth]; omega)
theorem lay_lists : ∀ cs : List (List Nat), PyData.canLayAll0 (cs.map dI) = true
  | [] => by simp [PyData.canLayAll0]
  | c :: cs => by
    have h : (dI c).canLay0 = true := by unfold dI; simp only [PyData.canLay0]; exact lay_ints c
    simp [PyData.canLayAll0, h, lay_lists cs]
theorem dep_lists : ∀ cs : List (List Nat), PyData.depthAll (cs.map dI) ≤ 6
  | [] => by simp [PyData.depthAll]
  | c :: cs => by
    have := dep_lists cs
    have := dI_depth c
    simp only [List.map_cons, PyData.depthAll]
    omega
theorem dLs_shaped (cs : List (List Nat)) : SeqAt.shaped (dLs cs) = true := shaped_of (by unfold dLs; simp only [PyData.canLay0]; exact lay_lists cs) (by have := dep_lists cs; unfold dLs; simp only [PyData.depth]; omega)
theorem eq_ints : ∀ a b : List Nat, PyData.eqvAll (a.map fun n : Nat => PyData.int (n : Int)) (b.map fun n : Nat => PyData.int (n : Int)) = decide (a = b)
  | [], [] => by simp [PyData.eqvAll]
  | [], y :: b => by simp [PyData.eqvAll]
  | x :: a, [] => by simp [PyData.eqvAll]
  | x :: a, y :: b => by
    simp only [List.map_cons, PyData.eqvAll, PyData.eqv, eq_ints a b]
    by_cases h : x = y
    · subst h
      simp
    · have q : ((x : Int) == (y : Int)) = false := beq_eq_false_iff_ne.mpr (by omega)
      rw [q]
      simp [h]
theorem dI_eqv (a b : List Nat) : PyData.eqv (dI a) (dI b) = decide (a = b) := by
  unfold dI
  simp only [PyData.eqv]
  exact eq_ints a b
theorem dP_eqv (a b : Nat × Nat) : PyData.eqv (dP a) (dP b) = decide (a = b) := by
  obtain ⟨a, c⟩ := a
  obtain ⟨b, d⟩ := b
  unfold dP
  simp only [PyData.eqv, PyData.eqvAll]
  by_cases h : a = b
  · by_cases h2 : c = d
    · subst h
      subst h2
      simp
    · have q : ((c : Int) == (d : Int)) = false := beq_eq_false_iff_ne.mpr (by omega)
      rw [q]
      simp [h2]
  · have q : ((a : Int) == (b : Int)) = false := beq_eq_false_iff_ne.mpr (by omega)
    rw [q]
    simp [h]
theorem eq_prs : ∀ a b : View, PyData.eqvAll (a.map dP) (b.map dP) = decide (a = b)
  | [], [] => by simp [PyData.eqvAll]
  | [], y :: b => by simp [PyData.eqvAll]
  | x :: a, [] => by simp [PyData.eqvAll]
  | x :: a, y :: b => by
    simp only [List.map_cons, PyData.eqvAll, eq_prs a b, dP_eqv]
    by_cases h : x = y
    · subst h
      simp
    · simp [h]
theorem dV_eqv (a b : View) : PyData.eqv (dV a) (dV b) = decide (a = b) := by
  unfold dV
  simp only [PyData.eqv]
  exact eq_prs a b
theorem any_dI (l : List Nat) : ∀ cs : List (List Nat), ((cs.map dI).any fun z => PyData.eqv z (dI l)) = decide (l ∈ cs)
  | [] => by simp
  | c :: cs => by
    rw [List.map_cons, List.any_cons, any_dI l cs, dI_eqv]
    by_cases h : c = l
    · subst h
      simp
    · have h' : ¬ l = c := fun z => h z.symm
      simp [h, h']
end FW

set_option Elab.async false
set_option linter.all false
set_option maxRecDepth 100000
set_option maxHeartbeats 4000000
/-! BadCode: made, where its __init__ says super().__init__('a bad code'). -/
namespace FW
/-- the file of the program's text -/
abbrev progFile : PySem.Str := PySem.Challenge.pw_finecloud_k53_whole_progress.main.file
end FW
namespace FX
open PySem PySem.W PySem.Calls PyProof.Rows PySem.HandSPX
abbrev t_bad : Stmt := L2.inClass (FW.topS 5) 0
abbrev bmB (CE : Addr) : List Value := .ref CE :: ESX.exTail
/-- what the written part says of BadCode at C, its base at CE, its __init__ at fI with the cell at cc and the code at cda -/
structure BadTxt (K : Frag) (mg : Str → Option Value) (C CE fI cc cda : Addr) : Prop where
  gC : mg "BadCode" = some (.ref C)
  cls : ∃ nm q N bs sn sub ab col dd k0 k1 k2 k3 k5, K.lookup C = some (excClassObj nm q C N bs (bmB CE) true sn sub ab col dd k0 k1 k2 k3 k5 "Exception.__new__")
  sa : findIn K (.ref C) "__setattr__" = some (some (.builtin "object.__setattr__"))
  ga : findIn K (.ref C) "__getattribute__" = some (some (.builtin "BaseException.__getattribute__"))
  gg : findIn K (.ref C) "__getattr__" = some none
  noN : findIn K (.ref C) "many" = some none
  iC : findIn K (.ref C) "__init__" = some (some (.ref fI))
  tC : typeIn K (.ref fI) = some (.type "function")
  kC : keepIn K (.ref C) = true
  exC : subIn K (.ref C) (.type "BaseException") = some true
  tyC : typeIn K (.ref C) = some (.type "type")
  hdC : hasDictIn K C = true
  te : exmOne K (.ref C) (.ref C) = some true
  mC : mroIn K C (.ref C) = some true
  mE : mroIn K C (.type "Exception") = some true
  mO : mroIn K C (.type "object") = some true
  al : alongIn K "__init__" (bmB CE) = some (some (.builtin "Exception.__init__"))
  tp : nsIn K cStatics "thirdparty.any" = some none
  su : mg "super" = none
  cell : ∃ cl cld csl, K.lookup cc = some ⟨cl, cld, .cell (some (.ref C)), csl⟩
  code : ∃ ccl cdd vs ccs tf, K.lookup cda = some ⟨ccl, cdd, .fields vs, ccs⟩ ∧ vs[2]? = some (.str (FW.progFile) tf)
  fn : ∃ (oc : Value) (od : Option Addr) (doc pm : Value) (an : Option Addr) (ct : Value) (osl : Array (Option Value)),
    K.lookup fI = some ⟨oc, od, .func (ksFn "__init__" "BadCode.__init__" (L2.defArgs t_bad) (L2.defBody t_bad) (L2.defScope t_bad) .none .none doc pm an (.ref cda) ct cc), osl⟩ ∧ codeIn K (.ref cda) "BadCode.__init__" = true
theorem te_of {K : Frag} {C : Addr} (e : subIn K (.ref C) (.type "BaseException") = some true) (t : typeIn K (.ref C) = some (.type "type")) (m : mroIn K C (.ref C) = some true) : exmOne K (.ref C) (.ref C) = some true := by
  unfold exmOne
  rw [e, if_pos (by decide)]
  have c : (clsIn K C).isSome = true := by
    cases z : clsIn K C with
    | none => unfold mroIn at m; rw [z] at m; cases m
    | some _ => rfl
  unfold kitCls
  dsimp only
  rw [c, t, if_pos (by decide)]
  exact m
theorem al_of {K : Frag} {CE : Addr} {nm q : PySem.Str} {N : Addr} {bs : List Value} {hdct : Bool} {sn : List PySem.Str} {sub : List Value} {ab : Bool} {col : Option Bool} {dd : Option Addr} {k0 k1 k2 k3 k5 : Option Value} {i : String}
    (l : K.lookup CE = some (excClassObj nm q CE N bs ESX.exTail hdct sn sub ab col dd k0 k1 k2 k3 k5 i)) (h : findIn K (.ref CE) "__init__" = some (some (.builtin "Exception.__init__"))) : alongIn K "__init__" (bmB CE) = some (some (.builtin "Exception.__init__")) := by
  unfold findIn at h
  dsimp only at h
  rw [l] at h
  exact h
/-- what __init__ leaves of a fresh exception at x -/
structure Ended (h h' : Heap) (x C dx t1 : Addr) (v : Value) : Prop where
  keep : ∀ b o, b ≠ x → h.get? b = some o → h'.get? b = some o
  obj : h'.get? x = some { cls := .ref C, dict := some dx, data := .fields #[.ref t1, .none, .none, .none, .bool false, .none] }
  dbig : h.objs.size ≤ dx
  dne : dx ≠ x
  ns : h'.Ns1 dx (fun y => if y = ("many" : PySem.Str) then some v else none)
section
variable {prog : Program} {w : World} {A : Around} {E : Value → Shared → Prop} {R : Result → Shared → Prop} {hp : Heap} {g : Array GenState} {d : Drawn} {t : Nat} {os : OsState} {K : Frag} {C CE : Addr}
open Builtin Builtin.ObjectAttr in
/-- the store of an attribute, two classes above Exception's tail -/
theorem store_two {name : PySem.Str} {tk : Tok} {v : Value} {x : Addr} {fv : Array Value} {cd : ClassData}
    (X : K.In hp) (hx : hp.get? x = some { cls := .ref C, data := .fields fv }) (hcd : clsIn K C = some cd) (hm : cd.mro = .ref C :: bmB CE) (hh : cd.hasDict = true) (ha : findIn K (.ref C) name = some none) (hO : mroIn K C (.type "object") = some true)
    (hq : ∀ h' tk' dx, (∀ b o, b ≠ x → hp.get? b = some o → h'.get? b = some o) → hp.objs.size ≤ dx → dx ≠ x → h'.get? x = some { cls := .ref C, dict := some dx, data := .fields fv } → h'.Ns1 dx (fun y => if y = name then some v else none) → R (.ok (.ret .none)) ⟨h', g, d, tk', os⟩) :
    codeAny (model prog w) A (.call (.builtin "object.__setattr__") ⟨[.ref x, .str name tk, v], []⟩) R ⟨hp, g, d, t, os⟩ := by
  have J : InstAt hp x { cls := .ref C, data := .fields fv } C none := ⟨hx, rfl, rfl, trivial⟩
  have nxs : x ≠ hp.objs.size := Nat.ne_of_lt (Heap.lt_size hx)
  have S := F.store_object
  have up : Looks (model prog w) hp (isInstance (.ref x) (.type "object")) true := J.type.andThen (looks_mroIn X hO)
  have along : Looks (model prog w) hp (mroOf (.ref C)) cd.mro := (looks_clsIn X hcd).andThen .now
  have none_takes : Looks (model prog w) hp (storeTaker? none) none := .now
  have lets : refuseLoop (.ref x) "__setattr__" cd.mro = pure () := by
    rw [hm, refuseLoop_ref, refuseLoop_ref] <;> exact F.store_Exception.passes _
  refine codeAny_call_builtin S.slot.plain S.entry (@check_slot (model prog w) _ _ ⟨hp, g, d, t, os⟩ "object.__setattr__" "object" "__setattr__" (.ref x) [.str name tk, v] [] _ S.kind S.split up (S.args (.ref x) (.str name tk) v) ?_)
  rw [osa_eq, refuse_eq]
  refine wpAny_bind (wpAny_bind (J.type.at (wpAny_bind (along.at ?_))))
  rw [lets] <;> refine wpAny_pure (wpAny_bind (J.type.at (wpAny_bind ((looks_findIn X ha).at (wpAny_bind (none_takes.at ?_))))))
  have own : Looks (model prog w) hp (classData C) cd := looks_clsIn X hcd
  obtain ⟨nm, bs, mro, ns, qn, hd, sn, sb, ab, col, del⟩ := cd
  dsimp only at hh
  subst hh
  unfold storeInOwnDict ownDictForStores
  repeat (first | with_reducible refine HandSPX.store_in_new ?_ ?_ | with_reducible refine wpAny_loadPart_at hx ?_ | with_reducible refine own.at ?_ | wp_step)
  · exact ⟨_, #[], _, (Heap.get?_update_ne _ _ _ _ nxs.symm).trans (Heap.get?_push_at rfl rfl), rfl, fun e he => absurd he (by simp), fun _ => rfl⟩
  · intro h' tk' hn' sb
    have hx1 : (hp.push { cls := .type "dict", data := .dict #[] }).get? x = some { cls := .ref C, data := .fields fv } := Heap.get?_push_of_some _ hx
    exact hq h' tk' hp.objs.size (fun b o hb ho => (sb.2 b (Nat.ne_of_lt (Heap.lt_size ho))).trans ((Heap.get?_update_ne _ _ _ _ hb).trans (Heap.get?_push_of_some _ ho))) (Nat.le_refl _) nxs.symm ((sb.2 x nxs).trans (Heap.get?_update_self _ hx1 rfl)) hn'
/-- __init__ of a fresh BadCode -/
theorem bad_init {mg : PySem.Str → Option Value} {fI cc cda : Addr} {s : Shared} (T : BadTxt K mg C CE fI cc cda) (hpr : prog.main = PySem.Challenge.pw_finecloud_k53_whole_progress.main) {x t0 : Addr} {v : Value} (X : K.In s.heap) (hg : s.heap.Ns mainGlobals mg)
    (hb : ∃ mb, s.heap.Ns builtinsNs mb ∧ ∀ y : PySem.Str, y ≠ "__name__" → mb y = bootBuiltins y) (hlim : s.heap.NoLimit) (hx : s.heap.get? x = some (excO C t0)) (hnx : K.lookup x = none) (hroom : A.depth < recursionLimit)
    (hq : ∀ h' tk dx t1, Ended s.heap h' x C dx t1 v → R (.ok (.ret .none)) { s with heap := h', toks := tk }) :
    codeAny (model prog w) A (.call (.ref fI) ⟨[.ref x, v], []⟩) R s := by
  obtain ⟨oc, od, doc, pm, an, ct, osl, ho, hcd⟩ := T.fn
  obtain ⟨nm, q, N, bs, sn, sub, ab, col, dd, k0, k1, k2, k3, k5, hC⟩ := T.cls
  obtain ⟨cl, cld, csl, hcell⟩ := T.cell
  obtain ⟨ccl, cdd, vs, ccs, tf, hcode, hvs⟩ := T.code
  obtain ⟨mb, hb1, hb2⟩ := hb
  have hcl : clsIn K C = some { name := nm, bases := bs, mro := .ref C :: bmB CE, ns := N, qualname := q, hasDict := true, slotNames := sn, subclasses := sub, abstract := ab, collection := col, hasDel := false } := by unfold clsIn; rw [hC] <;> rfl
  refine ks_codeAny_call_defAt (binds := [("self", .ref x), ("many", v)]) hroom (X _ _ ho) rfl hlim (codeRec_of X hcd) rfl (BindsTo.of_eq (by first | rfl | with_unfolding_all rfl)) (show ∀ y ∈ (L2.defScope t_bad).names, y.2 ≠ .cell by decide +kernel) (fun y hy => ?_) (fun h1 hn keep => ?_) (by rfl) (by rfl) (by rfl)
  · rcases List.mem_cons.mp hy with rfl | hy
    · exact (show (L2.defScope t_bad).names.lookup ("self" : PySem.Str) = some .local by decide +kernel)
    · rw [List.mem_singleton.mp hy]
      exact (show (L2.defScope t_bad).names.lookup ("many" : PySem.Str) = some .local by decide +kernel)
  have X1 : K.In h1 := X.keeps keep
  have hx1 := keep _ _ hx
  have nxC : x ≠ C := by
    rintro rfl
    have e := X _ _ hC
    rw [hx] at e
    cases e
  refine ks_wpAt_execs_cons (ks_wpAt_Expr_any (ks_wpAt_MethodCall ?_))
  refine ks_wpAt_super_base (prog := prog) (env := ksEnv "BadCode.__init__" (L2.defScope t_bad) s.heap.objs.size fI (.ref cda) cc) (by rfl) (by rfl) (by rfl) rfl (X1 _ _ ho) rfl (ar := (L2.defArgs t_bad).args.headD { arg := "", annotation := none, pos := ⟨0, 0, 0, 0⟩ }) (by rfl) rfl (X1 _ _ hcode) rfl hvs (by rw [hpr]; exact beq_self_eq_true _) (by rw [hpr]; decide +kernel) ?_
  refine ks_loadName_global (by rfl) (by rfl) (loadGlobal_builtin (env := ksEnv "BadCode.__init__" (L2.defScope t_bad) s.heap.objs.size fI (.ref cda) cc) (hg.keeps keep) T.su (hb1.keeps keep) ((hb2 _ (by decide +kernel)).trans (by decide +kernel : bootBuiltins "super" = some (.type "super"))) ⟨rfl, ?_⟩)
  refine wpAny_loadName_free (by rfl) (by rfl) (by rfl) ⟨_, X1 _ _ hcell, rfl⟩ ?_
  refine wpAny_loadName_local (by rfl) (by rfl) hn (v := .ref x) (by rfl) ?_
  refine ks_wpAny_isType_cls (X1 _ _ hC) rfl ⟨rfl, ?_⟩
  refine ks_wpAny_call_super (X1 _ _ hC) rfl hx1 rfl (fun c e => by cases e) (looks_mroIn X1 T.mC) (fun h2 e2 k2 => ?_)
  have X2 : K.In h2 := X1.keeps k2
  have hx2 := k2 _ _ hx1
  have J2 : InstAt h2 x (excO C t0) C none := ⟨hx2, rfl, rfl, trivial⟩
  refine ESX.getMethod_super e2 (looks_opaque X2 T.tp) ((looks_clsIn X2 hcl).andThen .now) (ESX.drop_own C (bmB CE)) X2 T.al nxC (by rfl) (J2.type.andThen (looks_mroIn X2 T.mE)) ?_
  have e3 : (h2.push (ESX.bw x)).get? h2.objs.size = some (ESX.bw x) := Heap.get?_push_size _ rfl
  have k3 : ∀ b o, h2.get? b = some o → (h2.push (ESX.bw x)).get? b = some o := fun b o e => Heap.get?_push_of_some _ e
  refine ESX.callWith_bound (x := x) (spliced_more (wpAny_Constant_str (spliced_none ⟨e3, ?_⟩)))
  refine ESX.call_bw (X2.keeps k3 _ _ hC) (k3 _ _ hx2) e3 (by show 1 ≤ sizeLine; decide) fun h4 t1 k4 e4 => ?_
  have k14 : ∀ b o, b ≠ x → h1.get? b = some o → h4.get? b = some o := fun b o hb e => k4 b o hb (k3 _ _ (k2 _ _ e))
  have X4 : K.In h4 := fun a o e => k14 a o (fun z => by rw [z, hnx] at e; cases e) (X1 a o e)
  have nL : s.heap.objs.size ≠ x := Nat.ne_of_gt (Heap.lt_size hx)
  have hn4 : h4.Ns s.heap.objs.size (fun y => ([("self", .ref x), ("many", v)] : List (PySem.Str × Value)).reverse.lookup y) := by
    obtain ⟨oL, es, ep, hL, r⟩ := hn
    exact ⟨oL, es, ep, k14 _ _ nL hL, r⟩
  refine ks_wpAt_execs_cons (ks_wpAt_Assign_Attr (wpAt_of_wpAny (wpAny_Name (wpAny_loadName_local (by rfl) (by rfl) hn4 (v := v) (by rfl) (wpAny_Name (wpAny_loadName_local (by rfl) (by rfl) hn4 (v := .ref x) (by rfl) ?_) (by decide))) (by decide))))
  refine set_plain X4 (ox := excO C t1) (od := none) ⟨e4, rfl, rfl, trivial⟩ T.sa ?_
  refine store_two X4 e4 hcl rfl rfl T.noN T.mO (fun h5 tk5 dx k5 dn dne hx5 hn5 => ?_)
  have z1 : s.heap.objs.size ≤ h4.objs.size := Nat.le_of_lt hn4.lt
  exact wpAt_of_wpAny (wpAny_execs_nil (hq h5 tk5 dx t1 ⟨fun b o hb e => k5 b o hb (k14 b o hb (keep b o e)), hx5, Nat.le_trans z1 dn, dne, hn5⟩))
/-- a made BadCode -/
structure OwnMade (h h' : Heap) (e C d : Addr) (v : Value) : Prop where
  keep : ∀ b o, h.get? b = some o → h'.get? b = some o
  new : h.objs.size ≤ e
  obj : ∃ oe vs, h'.get? e = some oe ∧ oe.cls = .ref C ∧ oe.dict = some d ∧ oe.data = .fields vs ∧ vs[1]? = some .none ∧ vs[2]? = some .none
  dbig : h.objs.size ≤ d
  dne : d ≠ e
  ns : h'.Ns1 d (fun y => if y = ("many" : PySem.Str) then some v else none)
theorem tail_type (CE : Addr) : ∀ Y : String, (bmB CE).contains (.type Y) = ESX.exTail.contains (.type Y) := fun Y => by
  rw [List.contains_cons]
  rfl
theorem bad_made {mg : PySem.Str → Option Value} {fI cc cda : Addr} {s : Shared} (T : BadTxt K mg C CE fI cc cda) (hpr : prog.main = PySem.Challenge.pw_finecloud_k53_whole_progress.main) {v : Value} (X : K.In s.heap) (hg : s.heap.Ns mainGlobals mg)
    (hb : ∃ mb, s.heap.Ns builtinsNs mb ∧ ∀ y : PySem.Str, y ≠ "__name__" → mb y = bootBuiltins y) (hlim : s.heap.NoLimit) (hroom : A.depth + 1 < recursionLimit)
    (hq : ∀ h' tk e d, OwnMade s.heap h' e C d v → R (.ok (.ret (.ref e))) { s with heap := h', toks := tk }) :
    codeAny (model prog w) A (.call (.ref C) ⟨[v], []⟩) R s := by
  obtain ⟨nm, q, N, bs, sn, sub, ab, col, dd, k0, k1, k2, k3, k5, hC⟩ := T.cls
  obtain ⟨hp, g, dr, tk, os⟩ := s
  have k : ∀ b o, hp.get? b = some o → ((hp.push (kdv_tup [v])).push (excO C hp.objs.size)).get? b = some o := fun b o e => Heap.get?_push_of_some _ (Heap.get?_push_of_some _ e)
  have hget : ((hp.push (kdv_tup [v])).push (excO C hp.objs.size)).get? (hp.objs.size + 1) = some (excO C hp.objs.size) := by heap_get
  have hnx : K.lookup (hp.objs.size + 1) = none := by
    cases e : K.lookup (hp.objs.size + 1) with
    | none => rfl
    | some o =>
      have z : hp.get? (hp.objs.size + 1) = some o := X _ _ e
      exact absurd (Nat.lt_of_succ_lt (Heap.lt_size z)) (Nat.lt_irrefl _)
  obtain ⟨mb, hb1, hb2⟩ := hb
  refine call_own F.excBase_Exception (tail_type CE) (X _ _ hC) (looks_findIn X T.iC) (fun self => bind_fn X self T.tC) (by show 1 ≤ sizeLine; decide) ?_
  refine bad_init (s := ⟨(hp.push (kdv_tup [v])).push (excO C hp.objs.size), g, dr, tk, os⟩) T hpr (X.keeps k) (hg.keeps k) ⟨mb, hb1.keeps k, hb2⟩ (hlim.keeps k) hget hnx ?_ fun h' tk' dx t1 ⟨k', hx, dn, dne, hns⟩ => ?_
  · show A.depth + 1 < recursionLimit
    exact hroom
  · have old : ∀ b o, hp.get? b = some o → h'.get? b = some o := fun b o e => k' b o (Nat.ne_of_lt (Nat.lt_succ_of_lt (Heap.lt_size e))) (k b o e)
    have z : hp.objs.size + 1 + 1 ≤ dx := by
      first
        | (simpa only [Heap.size_push] using dn)
        | exact dn
        | (have q := dn; rw [Heap.size_push, Heap.size_push] at q; exact q)
    exact ⟨rfl, hq h' tk' (hp.objs.size + 1) dx ⟨old, Nat.le_succ _, ⟨_, _, hx, rfl, rfl, rfl, rfl, rfl⟩, Nat.le_trans (Nat.le_trans (Nat.le_succ _) (Nat.le_succ _)) z, dne, hns⟩⟩
end
end FX
namespace FX
open PySem PySem.Spec PyProof.Rows L2 L2H HotX
theorem relO_many {v : V} {v' : Value} (r : RelV v v') (f : PySem.Str) : RelO (List.lookup f [(("many" : PySem.Str), v)]) (if f = ("many" : PySem.Str) then some v' else none) := by
  by_cases hw : f = ("many" : PySem.Str)
  · subst hw
    rw [if_pos rfl]
    have q : List.lookup ("many" : PySem.Str) [(("many" : PySem.Str), v)] = some v := by simp [List.lookup]
    rw [q]
    exact r
  · rw [if_neg hw]
    have qw : (f == ("many" : PySem.Str)) = false := by simpa using hw
    have q2 : List.lookup f [(("many" : PySem.Str), v)] = none := by simp [List.lookup, qw]
    rw [q2]
    trivial
section
variable {X : Cx} {C CE fI cc cda : Addr}
/-- BadCode(e) -/
def tMkBad (C : Addr) (ta : TA) : L2.St → Hp → XK → Prop := fun σ H Q => ta σ H fun vs H1 => ∃ v, vs = [v] ∧ ∀ d, H1 d = none → Q (.ref C) (some d) (upd H1 d (.xd [(("many" : PySem.Str), v)]))
theorem pmk_bad {a : Expr} {ta : TA} {p pos : Pos} {k : Nat} (T : BadTxt X.K X.mg C CE fI cc cda) (hpr : X.prog.main = PySem.Challenge.pw_finecloud_k53_whole_progress.main) (hr : RoomH (k + 1) X.A) (ha : PA X [a] ta) (hgl : Gl X "BadCode" := by rfl)
    (he : starEach (a :: []) X.env = (false, eval a X.env) :: starEach [] X.env := by rfl) (hpl : (backTo pos (starEach [] X.env)).any (·.1) = false := by rfl) :
    L2N.PMk X (.Call (.Name "BadCode" p) [a] [] pos) (tMkBad C ta) := by
  intro pins s σ H Q I h
  refine wpAny_Call_Name_kw (ld_glob I hgl T.gC ?_)
  refine PySem.W.callWith_K (h₀ := X.base) I.ok.mod.kin T.kC (thn (ha.run pos pins s σ H _ I h) fun us s1 hh => ?_) he hpl
  obtain ⟨vs, H1, I1, r1, v, ev, q1⟩ := hh
  subst ev
  refine ⟨I1.kIn, ?_⟩
  cases r1 with
  | cons rv rn =>
    rename_i v' us'
    cases rn
    show wpAny _ _ (call (.ref C) [v']) _ _ _
    have hlim := I1.nolimit
    obtain ⟨mb, hb1, hb2⟩ := I1.mod.blt
    have hgn := I1.mod.glob.keeps I1.bk
    have hbn := hb1.keeps I1.bk
    obtain ⟨hp, g, dr, tk, os⟩ := s1
    refine wpAny_call (bad_made T hpr I1.kIn hgn ⟨mb, hbn, hb2⟩ hlim (by have := hr.dp; omega) fun h' tk' e d M => ?_)
    show L2N.MkP X pins σ Q (.ref e) ⟨h', g, dr, tk', os⟩
    obtain ⟨oe, fv, hoe, hc, hd, hdat, h1, h2⟩ := M.obj
    have hns := M.ns
    obtain ⟨G', g1, g2⟩ := restrict h' fun b => decide (b ≠ e)
    have gk : ∀ b, b ≠ e → G'.get? b = h'.get? b := fun b hb => g1 b (decide_eq_true hb)
    have ge : G'.get? e = none := g2 e (by simp)
    have old : ∀ b o, hp.get? b = some o → G'.get? b = some o := fun b o q => (gk b (Nat.ne_of_lt (Nat.lt_of_lt_of_le (Heap.lt_size q) M.new))).trans (M.keep b o q)
    have ob : ObjOk X.prog X.w (upd H1 d (.xd [(("many" : PySem.Str), v)])) G' d (.xd [(("many" : PySem.Str), v)]) :=
      ⟨_, hns.at (fun o q => (gk d M.dne).trans q), fun f => relO_many rv f⟩
    have J : Inv X pins σ (upd H1 d (.xd [(("many" : PySem.Str), v)])) ⟨G', g, dr, tk', os⟩ := I1.laid (t' := tk') old M.dbig ob
    refine ⟨e, oe, fv, ⟨G', g, dr, tk', os⟩, _, .ref C, some d, rfl, J, fun b o q => ?_, ge, hoe, ⟨hc, hd, fun ws ew => ?_⟩, hdat, h1, ?_, rfl, I1.bare, raises_own T.exC T.tyC, q1 d (I1.hok.fresh M.dbig)⟩
    · by_cases hb : b = e
      · have q' : G'.get? b = some o := q
        rw [hb, ge] at q'; cases q'
      · exact (gk b hb).symm.trans q
    · rw [hdat] at ew
      cases ew
      exact h2
    · rw [upd_ne (Ne.symm M.dne)]
      exact I1.hok.fresh M.new
/-- raise BadCode(e) -/
def tRaiseBad (C : Addr) (W : WX) (ta : TA) : TS := fun _ σ H => tMkBad C ta σ H fun cls d H' => W cls d σ H'
theorem ps_raiseBad {a : Expr} {ta : TA} {W : WX} {p pos pos2 : Pos} {k : Nat} (hc : X.calm = true) (T : BadTxt X.K X.mg C CE fI cc cda) (hpr : X.prog.main = PySem.Challenge.pw_finecloud_k53_whole_progress.main) (hr : RoomH (k + 1) X.A) (tk : L2N.Takes X W) (ha : PA X [a] ta) (hgl : Gl X "BadCode" := by rfl)
    (he : starEach (a :: []) X.env = (false, eval a X.env) :: starEach [] X.env := by rfl) (hpl : (backTo pos (starEach [] X.env)).any (·.1) = false := by rfl) :
    PS X (.Raise (some (.Call (.Name "BadCode" p) [a] [] pos)) none pos2) (tRaiseBad C W ta) := L2N.ps_raise hc tk (pmk_bad T hpr hr ha hgl he hpl)
end
end FX

set_option Elab.async false
set_option linter.all false
set_option maxRecDepth 100000
set_option maxHeartbeats 4000000
/-! check_whole: it may raise BadCode. -/
namespace FW
open PySem L2 L2H FH FC HotX
/-- what read_code's answer is when it has gone to the end -/
theorem rd_full {D many : Nat} {bits : List Nat} {g u : Nat} {v : View} (hm : many ≤ 2 ^ D) (hb : ∀ b ∈ bits, b < 2) (e : rd D 0 (v0 many) bits = (g, v, u)) :
    g ≤ D ∧ u ≤ bits.length ∧ Asc 0 (2 ^ g) v ∧ tot v = many ∧ (g = D → ∀ x ∈ v, x.2 = 1) := by
  have r := rd_ok D 0 (v0 many) bits (v0_asc many) (by rw [v0_W]; exact ch_pos _ _ hm) hb
  rw [e] at r
  obtain ⟨h1, h2, h3, h4, h5, h6, h7⟩ := r
  refine ⟨by simpa using h2, h7, h3, h4.trans (v0_tot many), fun eg x hx => ?_⟩
  have h5 : 0 < W (2 ^ (0 + D - g)) v := h5
  rw [eg, Nat.zero_add, Nat.sub_self] at h5
  have a := cells_of_W h5 x hx
  have b := (h3.all x hx).1
  omega
theorem keys_len (v : View) : (v.map (·.1)).length = v.length := List.length_map ..
def spCwh (K : PySem.W.Frag) (CS CB : Addr) : Sp := fun vs H Q E => ∃ (p : Addr) (dm B many : Nat) (b : Addr) (bits : List Nat), vs = [.ref p, iN many, .ref b] ∧ SpAt CS H p dm B ∧ 0 < dm ∧ 0 < B ∧ dm * B ≤ 10 ∧ dm ≤ 10 ∧ B ≤ 10 ∧ many ≤ 8 ∧ many ≤ 2 ^ (dm * B) ∧ SqT K H b (iL bits) ∧ (∀ x ∈ bits, x < 2) ∧ bits.length ≤ 1000 ∧
  ∀ g v u, rd (dm * B) 0 (v0 many) bits = (g, v, u) →
    ((g < dm * B ∨ u < bits.length ∨ beg (dm * B) (v.map (·.1)) (dm * B) ≠ bits) → ∀ H' d, Same H H' → H' d = some (.xd [(("many" : Str), iN u)]) → E (.ref CB) (some d) H') ∧
    (g = dm * B → u = bits.length → beg (dm * B) (v.map (·.1)) (dm * B) = bits → ∀ H' a, Same H H' → VwAt K H' a v → Q (.ref a) H')
section
variable {P : Program} {w : World} {K : PySem.W.Frag} {mg : Str → Option Value} {base : Heap} {CS CC CB CE fIb cc cda : Addr}
theorem ok_cwh {f fR fO fG : Addr} {fd fdR fdO fdG : FuncData} (F : Fun K "check_whole" "check_whole" t_cwh f fd) (TS : TxS K CS) (BB : Bl mg) (TB : FX.BadTxt K mg CB CE fIb cc cda) (hpr : P.main = PySem.Challenge.pw_finecloud_k53_whole_progress.main)
    (GR : FnQ P w K mg base 5 fR fdR p_rdc (spRdc K CS)) (gR : mg "read_code" = some (.ref fR)) (kR : PySem.W.keepIn K (.ref fR) = true) (bR : Binds K fdR p_rdc [])
    (GO : FnQ P w K mg base 7 fO fdO p_cof (spCof K CS CC)) (gO : mg "cloud_of" = some (.ref fO)) (kO : PySem.W.keepIn K (.ref fO) = true) (bO : Binds K fdO p_cof [])
    (GG : FnQ P w K mg base 6 fG fdG p_bgn (spBgn K CS CC)) (gG : mg "beginning" = some (.ref fG)) (kG : PySem.W.keepIn K (.ref fG) = true) (bG : Binds K fdG p_bgn []) : FnOk P w K mg base (L2N.CX P w) 8 f fd p_cwh (spCwh K CS CB) := by
  obtain ⟨oc, od, kV, doc, pm, an, cdv, ct, osl, rfl, lk, hcd⟩ := F.ex
  refine fn_of lk hcd sc_cwh (fun vs H Q E h => ?_) (fun A outer s H vs Q E hr0 h => ?_)
  · obtain ⟨p, dm, B, many, b, bits, rfl, _⟩ := h
    rfl
  obtain ⟨p, dm, B, many, b, bits, rfl, hp, d0, b0, hD, hd, hB, h8, hm, hb, bt, bl, q⟩ := h
  have nd := sc_cwh.nd
  have hr : RoomH 7 (A.deeper (PyProof.Rows.envOfC "check_whole" (defScope t_cwh) s.heap.objs.size f cdv)) := ⟨hr0.dp, hr0.un⟩
  have fx : Fine (cxOf (L2N.CX P w) P w K mg base n_cwh "check_whole" (defScope t_cwh) f cdv A outer s H E) := .inl rfl
  refine ⟨_, pss_cons (ps_asg (qe_call GR (hr.mono (by decide)) fx (by rfl) gR kR bR (pa_cons (pv 0) (pa_cons (pv 1) (pa_cons (pv 2) pa_nil)))) (qg_tup fx (pgs_cons (pg_name (i := 3) nd rfl (.inl rfl)) (pgs_cons (pg_name (i := 4) nd rfl (.inl rfl)) (pgs_cons (pg_name (i := 5) nd rfl (.inl rfl)) pgs_nil)))))
    (pss_cons (ps_if (PW.pt (pw_or (pt_cmpR op_lt (pv 3) (pe_fld (pv 0) rfl) (nomark _)) (pw_or1 (pt_cmpR op_lt (pv 5) (pe_callB call_len_seq (by rfl) BB.n_len PySem.boot_len (pa_cons (pv 2) pa_nil)) (nomark _)))))
      (pss_one (FX.ps_raiseBad (k := 0) rfl TB hpr (hr.mono (by decide)) (L2N.takes_of rfl rfl rfl rfl) (pa_cons (pv 5) pa_nil))) pss_nil)
    (pss_cons (ps_if (pt_cmpR (op_neD (hu64 hr)) (qe_call GG (hr.mono (by decide)) fx (by rfl) gG kG bG (pa_cons (qe_call GO hr fx (by rfl) gO kO bO (pa_cons (pv 0) (pa_cons
          (qe_lc (own := [("number", 6), ("count", 7)]) (g := gTup K 2 (gCons (gName 6) (gCons (gName 7) gNil))) (tt := tYes) fx nd (qi_tup (pv 4)) (blkOk_by (N := n_cwh) (sc := defScope t_cwh) (by decide +kernel))
            (fun _ _ _ _ _ => qg_tup fx.blk (pgs_cons (pg_name (i := 6) nd rfl (.inl rfl)) (pgs_cons (pg_name (i := 7) nd rfl (.inl rfl)) pgs_nil))) (fun _ _ _ _ _ => pts_nil) (fun _ _ _ _ _ => pv 6)) pa_nil))) (pa_cons (pe_fld (pv 0) rfl) pa_nil))) (pv 2) (nomark _))
      (pss_one (FX.ps_raiseBad (k := 0) rfl TB hpr (hr.mono (by decide)) (L2N.takes_of rfl rfl rfl rfl) (pa_cons (pv 5) pa_nil))) pss_nil)
    (pss_one (ps_ret (pv 4))))), ?_⟩
  obtain ⟨dx, ep⟩ := id hp
  refine ⟨_, rfl, _, rfl, _, rfl, p, dm, B, many, b, bits, rfl, hp, hD, h8, hm, hb, bt, bl, fun g v u e H1 t a s1 et hv => ⟨t, _, rfl, SqT.of et, rfl, _, _, rfl, _, _, rfl, _, _, rfl, rfl, ?_⟩⟩
  obtain ⟨q1, q2⟩ := q g v u e
  obtain ⟨gle, ule, hA, htot, hone⟩ := rd_full hm bt e
  -- the first test
  refine ⟨_, rfl, _, rfl, p, CS, dx, _, _, rfl, s1 _ _ ep, TS.cl, TS.nDepth, fS_depth _ _, _, _, rfl, rfl, _, rfl, ?_⟩
  by_cases c1 : g < dm * B
  · rw [decide_eq_true (show (g : Int) < ((dm * B : Nat) : Int) from Int.ofNat_lt.mpr c1)]
    exact iteT (iteT ⟨_, rfl, _, rfl, fun d nd' => q1 (.inl c1) _ d (s1.trans (same_new nd')) upd_same⟩)
  · rw [decide_eq_false (show ¬ (g : Int) < ((dm * B : Nat) : Int) from fun z => c1 (Int.ofNat_lt.mp z))]
    have eg : g = dm * B := by omega
    refine iteF ⟨_, rfl, .ref b, rfl, b, _, rfl, .inr (Same.tp s1 hb), _, _, rfl, rfl, _, rfl, ?_⟩
    rw [show ((iL bits).length : Int) = (bits.length : Int) by rw [List.length_map]]
    by_cases c2 : u < bits.length
    · rw [decide_eq_true (show (u : Int) < (bits.length : Int) from Int.ofNat_lt.mpr c2)]
      exact iteT ⟨_, rfl, _, rfl, fun d nd' => q1 (.inr (.inl c2)) _ d (s1.trans (same_new nd')) upd_same⟩
    · rw [decide_eq_false (show ¬ (u : Int) < (bits.length : Int) from fun z => c2 (Int.ofNat_lt.mp z))]
      refine iteF ?_
      have hA' := hA
      rw [eg] at hA'
      have hlen : v.length ≤ 8 := by
        have := len_le_tot hA
        omega
      refine ⟨_, rfl, .ref a, rfl, a, rfl, hv.sq, fun D nD => lc_view hv nD (fun i H2 => Same H1 H2 ∧ H2 D = some (.lst (iL ((v.map (·.1)).take i)))) (fun _ _ => rfl) ⟨same_new nD, upd_same⟩ (fun i H2 h => h.1) ?_ ?_⟩
      · rintro i x H2 hi ⟨s2, eD⟩
        refine ⟨_, rfl, _, eD, ?_, same_at s2 nD, ?_⟩
        · rw [List.length_map, List.length_take, List.length_map]
          exact small1000 (by omega)
        · rw [upd_same, List.take_add_one, List.getElem?_map, hi]
          unfold iL
          rw [List.map_append]
          rfl
      · rintro H2 ⟨s2, eD⟩
        rw [show (v.map (·.1)).take v.length = v.map (·.1) from List.take_of_length_le (by rw [List.length_map]; exact Nat.le_refl _)] at eD
        have s12 := s1.trans s2
        refine ⟨p, D, dm, B, v.map (·.1), rfl, hp.same s12, d0, b0, hD, hd, hB, SqL.of eD, hA'.row, by rw [List.length_map]; exact hlen, fun H3 c s3 hc => ?_⟩
        have s13 := s12.trans s3
        refine ⟨_, rfl, p, CS, dx, _, _, rfl, s13 _ _ ep, TS.cl, TS.nDepth, fS_depth _ _, c, p, v.map (·.1), dm, B, dm * B, rfl, hc, hp.same s13, hD, Nat.le_refl _, hA'.row, by rw [List.length_map]; exact hlen, fun H4 l s4 el => ?_⟩
        have s14 := s13.trans s4
        refine ⟨.ref b, rfl, dI _, dI bits, dp_dI (SqT.of el), dp_dI (Same.tp s14 hb), dI_shaped _, dI_shaped _, _, rfl, ?_⟩
        rw [dI_eqv]
        by_cases c3 : beg (dm * B) (v.map (·.1)) (dm * B) = bits
        · rw [decide_eq_true c3]
          exact iteF ⟨_, rfl, q2 eg (by omega) c3 H4 a s14 (((hv.same s2).same s3).same s4)⟩
        · rw [decide_eq_false c3]
          exact iteT ⟨_, rfl, _, rfl, fun d nd' => q1 (.inr (.inr c3)) _ d (s14.trans (same_new nd')) upd_same⟩
end
end FW

set_option Elab.async false
set_option linter.all false
set_option maxRecDepth 100000
set_option maxHeartbeats 4000000
/-! The law's drawing: _law_number, _law_take, _law_pick. -/
namespace FW
open PySem L2 L2H FH FC HotX
/-- all but d stands -/
def Sd (d : Addr) (H H' : Hp) : Prop := ∀ b o, b ≠ d → H b = some o → H' b = some o
theorem Sd.refl (d : Addr) (H : Hp) : Sd d H H := fun _ _ _ h => h
theorem Sd.trans {d : Addr} {H H1 H2 : Hp} (a : Sd d H H1) (b : Sd d H1 H2) : Sd d H H2 := fun c o n h => b c o n (a c o n h)
theorem sd_of {d : Addr} {H H' : Hp} (s : Same H H') : Sd d H H' := fun b o _ h => s b o h
theorem sd_upd {d : Addr} {H : Hp} {o : HO} : Sd d H (upd H d o) := fun b x n h => by
  rw [upd_ne n]
  exact h
theorem sd_at {d p : Addr} {H H1 : Hp} {o : HO} (s : Sd d H H1) (h : H p = none) : Sd d H (upd H1 p o) := fun b x n e => by
  rw [upd_ne (ne_of_none e h)]
  exact s _ _ n e
section
variable {K : PySem.W.Frag} {d : Addr} {H H' : Hp}
theorem Sd.tp {acc xs : List V} {p : Addr} (hd : H d = some (.lst acc)) (s : Sd d H H') (h : SqT K H p xs) : SqT K H' p xs := by
  rcases h with (h | ⟨o, h⟩) | h
  · refine .inl (.inl (s _ _ ?_ h))
    rintro rfl
    rw [h] at hd
    cases hd
  · refine .inl (.inr ⟨o, s _ _ ?_ h⟩)
    rintro rfl
    rw [h] at hd
    cases hd
  · exact .inr h
theorem Sd.sq {acc xs : List V} {p : Addr} (hd : H d = some (.lst acc)) (s : Sd d H H') (n : p ≠ d) (h : SqL K H p xs) : SqL K H' p xs := by
  rcases h with (h | ⟨o, h⟩) | h
  · exact .inl (.inl (s _ _ n h))
  · exact .inl (.inr ⟨o, s _ _ n h⟩)
  · exact .inr h
theorem Sd.sp {acc : List V} {CS p : Addr} {dm B : Nat} (hd : H d = some (.lst acc)) (s : Sd d H H') (h : SpAt CS H p dm B) : SpAt CS H' p dm B := by
  obtain ⟨dx, e⟩ := h
  refine ⟨dx, s _ _ ?_ e⟩
  rintro rfl
  rw [hd] at e
  cases e
theorem Sd.cl {acc : List V} {CC p sp : Addr} {r : List Nat} (hd : H d = some (.lst acc)) (s : Sd d H H') (h : ClAt K CC H p sp r) : ClAt K CC H' p sp r := by
  obtain ⟨dx, ra, e, t⟩ := h
  refine ⟨dx, ra, s _ _ ?_ e, s.tp hd t⟩
  rintro rfl
  rw [hd] at e
  cases e
theorem Sd.vw {acc : List V} {p : Addr} {v : View} (hd : H d = some (.lst acc)) (s : Sd d H H') (h : VwAt K H p v) : VwAt K H' p v := by
  obtain ⟨ps, t, q⟩ := h
  exact ⟨ps, s.tp hd t, L2.Paired.mapP q fun _ _ x => s.tp hd x⟩
theorem Sd.pts {acc : List V} {ps : List Addr} {qs : List (List Nat)} (hd : H d = some (.lst acc)) (s : Sd d H H') (h : PtsAt K H ps qs) : PtsAt K H' ps qs := L2.Paired.mapP h fun _ _ x => s.tp hd x
theorem Sd.prs {acc : List V} {ps : List Addr} {v : View} (hd : H d = some (.lst acc)) (s : Sd d H H') (h : Prs K H ps v) : Prs K H' ps v := L2.Paired.mapP h fun _ _ x => s.tp hd x
/-- the drawing list: script, count -/
def DrawAt (K : PySem.W.Frag) (H : Hp) (d a : Addr) (ns : List Int) : Prop := ∃ c : Int, H d = some (.lst [.ref a, .int c]) ∧ SqL K H a (ns.map V.int) ∧ ns.length ≤ 63
theorem DrawAt.same {a : Addr} {ns : List Int} (s : Same H H') (h : DrawAt K H d a ns) : DrawAt K H' d a ns := by
  obtain ⟨c, e, q, l⟩ := h
  exact ⟨c, s _ _ e, s.seq q, l⟩
theorem DrawAt.lst {a : Addr} {ns : List Int} (h : DrawAt K H d a ns) : ∃ acc, H d = some (.lst acc) := by
  obtain ⟨c, e, q, l⟩ := h
  exact ⟨_, e⟩
theorem DrawAt.scr {a : Addr} {ns : List Int} (h : DrawAt K H d a ns) (s : Sd d H H') : SqL K H' a (ns.map V.int) := by
  obtain ⟨c, e, q, l⟩ := h
  rcases q with (h | ⟨o, h⟩) | h
  · refine .inl (.inl (s _ _ ?_ h))
    rintro rfl
    rw [e] at h
    have h := HO.lst.inj (Option.some.inj h)
    cases ns with
    | nil => cases h
    | cons z zs => cases h
  · refine .inl (.inr ⟨o, s _ _ ?_ h⟩)
    rintro rfl
    rw [e] at h
    cases h
  · exact .inr h
theorem DrawAt.step {a : Addr} {ns : List Int} {c : Int} (h : DrawAt K H d a ns) (s : Sd d H H') (e : H' d = some (.lst [.ref a, .int c])) : DrawAt K H' d a ns := ⟨c, e, h.scr s, h.choose_spec.2.2⟩
end
/-- xs[i] that is read to be stored again -/
theorem get_list {X : Cx} : PGet X (fun o i H Q => ∃ p xs k v, o = .ref p ∧ i = .int k ∧ 0 ≤ k ∧ k < 2 ^ 63 ∧ SqL X.K H p xs ∧ xs[k.toNat]? = some v ∧ Q v H) := by
  intro pins s σ H o i ov iv Q I ro ri h
  obtain ⟨p, xs, k, v, rfl, rfl, h0, h63, hq, hx, q⟩ := h
  cases ro
  obtain ⟨t, rfl⟩ := ri
  obtain ⟨its, rv, pl, hz⟩ := I.list hq
  obtain ⟨u, hu, ru⟩ := rv.get hx
  exact wpAny_getItem_list pl.isList h0 h63 (x := u) (by simpa using hu) ⟨v, H, I, ru, q⟩
theorem lay_zs : ∀ l : List Int, PyData.canLayAll0 (l.map PyData.int) = true
  | [] => by simp [PyData.canLayAll0]
  | n :: l => by simp [PyData.canLayAll0, PyData.canLay0, lay_zs l]
theorem dep_zs : ∀ l : List Int, PyData.depthAll (l.map PyData.int) ≤ 2
  | [] => by simp [PyData.depthAll]
  | n :: l => by
    have := dep_zs l
    simp only [List.map_cons, PyData.depthAll, PyData.depth]
    omega
theorem zs_shaped (l : List Int) : SeqAt.shaped (.list (l.map PyData.int)) = true := shaped_of (by simp only [PyData.canLay0]; exact lay_zs l) (by have := dep_zs l; simp only [PyData.depth]; omega)
theorem dp_zs {K : PySem.W.Frag} {H : Hp} : ∀ l : List Int, DpAll K H (l.map V.int) (l.map PyData.int)
  | [] => .nil
  | n :: l => .cons (.int _) (dp_zs l)
section
variable {P : Program} {w : World} {K : PySem.W.Frag} {mg : Str → Option Value} {base : Heap} {CS CC : Addr}
def spLnu (K : PySem.W.Frag) : Sp := fun vs H Q _ => ∃ (a : Addr) (ns : List Int) (c : Int), vs = [.ref a, .int c] ∧ SqL K H a (ns.map V.int) ∧ ns.length ≤ 63 ∧ ∀ H' r, Same H H' → 0 ≤ r → Q (.int r) H'
theorem q_lnu {f : Addr} {fd : FuncData} (F : Fun K "_law_number" "_law_number" t_lnu f fd) (BB : Bl mg) : FnQ P w K mg base 1 f fd p_lnu (spLnu K) := by
  refine FnQ.of F sc_lnu (fun vs H Q E h => ?_) (fun cc cdv A outer s H vs Q E fx hr h => ?_)
  · obtain ⟨a, ns, c, rfl, _⟩ := h
    rfl
  obtain ⟨a, ns, c, rfl, ha, hl, q⟩ := h
  have nd := sc_lnu.nd
  refine ⟨_, pss_cons (ps_if (pt_cmpR (op_eqD (hu64 hr)) (pv 0) (pe_lst pa_nil) (nomark _))
      (pss_one (ps_ret (pe_callTy call_int1 (by rfl) BB.n_int (by decide +kernel) (pa_cons (pe_op op_mod (pe_op op_add (pe_op op_mul (pv 1) pe_int) pe_int) pe_int) pa_nil)))) pss_nil)
    (pss_cons (ps_set (i := 2) nd rfl (.inl rfl) (pe_ix ix_list (pv 0) (pe_op op_mod (pv 1) (pe_callB call_len_seq (by rfl) BB.n_len PySem.boot_len (pa_cons (pv 0) pa_nil))) (fun _ _ => rfl)))
    (pss_cons (ps_if (pt_cmpR op_ge (pe_callB call_abs (by rfl) BB.n_abs (by decide +kernel) (pa_cons (pv 2) pa_nil)) (pe_op op_pow pe_int pe_int) (nomark _))
      (pss_one (ps_set (i := 2) nd rfl (.inl rfl) (pe_op op_mod (pv 2) (pe_op op_pow pe_int pe_int)))) pss_nil)
    (pss_cons (ps_set (i := 3) nd rfl (.inl rfl) (pe_op op_mod (pe_op op_add (pe_op op_mul (pe_op op_add (pv 2) (pe_op op_mul pe_int (pv 1))) pe_int) (pe_op op_mul pe_int (pe_callB call_len_seq (by rfl) BB.n_len PySem.boot_len (pa_cons (pv 0) pa_nil)))) pe_int))
    (pss_one (ps_ret (pe_callTy call_int1 (by rfl) BB.n_int (by decide +kernel) (pa_cons (pe_op op_mod (pe_op op_add (pe_op op_mul (pe_op op_mod (pe_op op_mul (pv 3) pe_int) pe_int) pe_int) (pv 1)) pe_int) pa_nil))))))), ?_⟩
  refine ⟨.ref a, rfl, Nat.zero_le _, fun o no => ?_⟩
  have s1 := same_new (o := .lst []) no
  refine ⟨.list (ns.map PyData.int), .list [], .lst (s1.seq ha) (dp_zs ns), .lst (SqL.of upd_same) .nil, zs_shaped ns, zs_shaped [], _, rfl, ?_⟩
  cases ns with
  | nil =>
    rw [show PyData.eqv (.list (([] : List Int).map PyData.int)) (.list []) = true by simp [PyData.eqv, PyData.eqvAll]]
    refine iteT ⟨_, rfl, _, _, rfl, rfl, .inr (by decide), _, _, rfl, rfl, _, _, rfl, rfl, (by show (0 : Int) < 2147483647; decide), .inl ⟨_, rfl, q _ _ s1 (Int.emod_nonneg _ (by decide))⟩⟩
  | cons z zs =>
    rw [show PyData.eqv (.list ((z :: zs).map PyData.int)) (.list []) = false by simp [PyData.eqv, PyData.eqvAll]]
    have l0 : 0 < (((z :: zs).map V.int).length : Int) := by
      rw [List.length_map, List.length_cons]
      omega
    obtain ⟨k, hk, hk2⟩ : ∃ k : Nat, c % (((z :: zs).map V.int).length : Int) = (k : Int) ∧ k < (z :: zs).length := by
      have a1 := Int.emod_nonneg c (by omega : (((z :: zs).map V.int).length : Int) ≠ 0)
      have a2 := Int.emod_lt_of_pos c l0
      rw [List.length_map] at a2 ⊢
      rw [List.length_map] at a1
      exact ⟨(c % ((z :: zs).length : Int)).toNat, by omega, by omega⟩
    have gi : atI ((z :: zs).map V.int) (k : Int) = some (.int (z :: zs)[k]) := atI_nat (by rw [List.getElem?_map, List.getElem?_eq_getElem hk2]; rfl)
    have ha1 := s1.seq ha
    refine iteF ⟨.ref a, rfl, _, rfl, .ref a, rfl, a, _, rfl, .inl ha1, _, _, rfl, rfl, l0, a, _, (k : Int), _, rfl, congrArg V.int hk, ha1, gi, ?_⟩
    refine ⟨_, rfl, _, rfl, _, _, rfl, rfl, ⟨by decide, by decide, by decide⟩, _, _, rfl, rfl, _, rfl, ite2 (fun _ => ?_) (fun _ => ?_)⟩
    · refine ⟨_, rfl, _, _, rfl, rfl, ⟨by decide, by decide, by decide⟩, _, _, rfl, rfl, (by show (0 : Int) < 10 ^ (18 : Int).toNat; decide), ?_⟩
      refine ⟨_, rfl, _, rfl, _, _, rfl, rfl, .inl (by decide), _, _, rfl, rfl, _, _, rfl, rfl, .inr (by decide), .ref a, rfl, a, _, rfl, .inl ha1, _, _, rfl, rfl, .inl (by decide), _, _, rfl, rfl, _, _, rfl, rfl, (by show (0 : Int) < 2147483647; decide), ?_⟩
      exact ⟨_, rfl, _, _, rfl, rfl, .inr (by decide), _, _, rfl, rfl, (by show (0 : Int) < 2147483629; decide), _, _, rfl, rfl, .inr (by decide), _, rfl, _, _, rfl, rfl, _, _, rfl, rfl, (by show (0 : Int) < 2147483587; decide), .inl ⟨_, rfl, q _ _ s1 (Int.emod_nonneg _ (by decide))⟩⟩
    · refine ⟨_, rfl, _, rfl, _, _, rfl, rfl, .inl (by decide), _, _, rfl, rfl, _, _, rfl, rfl, .inr (by decide), .ref a, rfl, a, _, rfl, .inl ha1, _, _, rfl, rfl, .inl (by decide), _, _, rfl, rfl, _, _, rfl, rfl, (by show (0 : Int) < 2147483647; decide), ?_⟩
      exact ⟨_, rfl, _, _, rfl, rfl, .inr (by decide), _, _, rfl, rfl, (by show (0 : Int) < 2147483629; decide), _, _, rfl, rfl, .inr (by decide), _, rfl, _, _, rfl, rfl, _, _, rfl, rfl, (by show (0 : Int) < 2147483587; decide), .inl ⟨_, rfl, q _ _ s1 (Int.emod_nonneg _ (by decide))⟩⟩
end
end FW

set_option Elab.async false
set_option linter.all false
set_option maxRecDepth 100000
set_option maxHeartbeats 4000000
/-! _law_take, _law_pick, _law_point, _law_points, _law_cloud. -/
namespace FW
open PySem L2 L2H FH FC HotX
section
variable {P : Program} {w : World} {K : PySem.W.Frag} {mg : Str → Option Value} {base : Heap} {CS CC : Addr}
def spLta (K : PySem.W.Frag) : Sp := fun vs H Q _ => ∃ (d a : Addr) (ns : List Int) (m : Nat), vs = [.ref d, iN m] ∧ 0 < m ∧ DrawAt K H d a ns ∧ ∀ H' r, Sd d H H' → DrawAt K H' d a ns → r < m → Q (iN r) H'
theorem q_lta {f fN : Addr} {fd fdN : FuncData} (F : Fun K "_law_take" "_law_take" t_lta f fd) (BB : Bl mg)
    (GN : FnQ P w K mg base 1 fN fdN p_lnu (spLnu K)) (gN : mg "_law_number" = some (.ref fN)) (kN : PySem.W.keepIn K (.ref fN) = true) (bN : Binds K fdN p_lnu []) : FnQ P w K mg base 2 f fd p_lta (spLta K) := by
  refine FnQ.of F sc_lta (fun vs H Q E h => ?_) (fun cc cdv A outer s H vs Q E fx hr h => ?_)
  · obtain ⟨d, a, ns, m, rfl, _⟩ := h
    rfl
  obtain ⟨d, a, ns, m, rfl, hm, hd, q⟩ := h
  have nd := sc_lta.nd
  refine ⟨_, pss_cons (ps_augS (pv 0) pe_int get_list pe_int ip_add set_list)
    (pss_one (ps_ret (pe_op op_mod (pe_callTy call_int1 (by rfl) BB.n_int (by decide +kernel) (pa_cons (qe_call GN hr fx.nox (by rfl) gN kN bN (pa_cons (pe_ix ix_list (pv 0) pe_int (fun _ _ => rfl)) (pa_cons (pe_callTy call_int1 (by rfl) BB.n_int (by decide +kernel) (pa_cons (pe_ix ix_list (pv 0) pe_int (fun _ _ => rfl)) pa_nil)) pa_nil))) pa_nil)) (pv 1)))), ?_⟩
  obtain ⟨c, e, ha, hl⟩ := id hd
  refine ⟨_, rfl, d, _, 1, _, rfl, rfl, by decide, by decide, SqL.of e, rfl, _, _, rfl, rfl, d, _, 1, 1, rfl, rfl, e, rfl, ?_⟩
  have sd : Sd d H (upd H d (.lst [.ref a, .int (c + 1)])) := sd_upd
  have e1 : (upd H d (.lst [.ref a, .int (c + 1)])) d = some (.lst [.ref a, .int (c + 1)]) := upd_same
  have ha1 := hd.scr sd
  refine ⟨_, rfl, d, _, 0, .ref a, rfl, rfl, SqL.of e1, rfl, _, rfl, d, _, 1, .int (c + 1), rfl, rfl, SqL.of e1, rfl, .inl ⟨_, rfl, a, ns, c + 1, rfl, ha1, hl, fun H2 r s2 h0 => ?_⟩⟩
  obtain ⟨k, rfl⟩ := Int.eq_ofNat_of_zero_le h0
  refine .inl ⟨_, rfl, _, rfl, _, _, rfl, rfl, Int.ofNat_lt.mpr hm, ?_⟩
  exact q H2 (k % m) (sd.trans (sd_of s2)) (hd.step (sd.trans (sd_of s2)) (s2 _ _ e1)) (Nat.mod_lt _ hm)
/-- an item is drawn -/
def spLpi (K : PySem.W.Frag) : Sp := fun vs H Q _ => ∃ (d a : Addr) (ns : List Int) (l : Addr) (xs : List V), vs = [.ref d, .ref l] ∧ 0 < xs.length ∧ l ≠ d ∧ SqL K H l xs ∧ DrawAt K H d a ns ∧ ∀ H' x, Sd d H H' → DrawAt K H' d a ns → x ∈ xs → Q x H'
theorem q_lpi {f fT : Addr} {fd fdT : FuncData} (F : Fun K "_law_pick" "_law_pick" t_lpi f fd) (BB : Bl mg)
    (GT : FnQ P w K mg base 2 fT fdT p_lta (spLta K)) (gT : mg "_law_take" = some (.ref fT)) (kT : PySem.W.keepIn K (.ref fT) = true) (bT : Binds K fdT p_lta []) : FnQ P w K mg base 3 f fd p_lpi (spLpi K) := by
  refine FnQ.of F sc_lpi (fun vs H Q E h => ?_) (fun cc cdv A outer s H vs Q E fx hr h => ?_)
  · obtain ⟨d, a, ns, l, xs, rfl, _⟩ := h
    rfl
  obtain ⟨d, a, ns, l, xs, rfl, h0, ne, hl, hd, q⟩ := h
  refine ⟨_, pss_one (ps_ret (pe_ix ix_list (pv 1) (qe_call GT hr fx.nox (by rfl) gT kT bT (pa_cons (pv 0) (pa_cons (pe_callB call_len_seq (by rfl) BB.n_len PySem.boot_len (pa_cons (pv 1) pa_nil)) pa_nil))) (fun _ _ => rfl))), ?_⟩
  obtain ⟨acc, ed⟩ := hd.lst
  refine ⟨.ref l, rfl, _, rfl, .ref l, rfl, l, xs, rfl, .inl hl, d, a, ns, xs.length, rfl, h0, hd, fun H1 r s1 hd1 hr1 => ⟨l, xs, _, xs[r], rfl, rfl, s1.sq ed ne hl, atI_nat (List.getElem?_eq_getElem hr1), q H1 _ s1 hd1 (List.getElem_mem hr1)⟩⟩
/-- what is known of a drawn space -/
structure SpOk (dm B : Nat) : Prop where
  d0 : 0 < dm
  b0 : 0 < B
  le : dm * B ≤ 10
  d3 : dm ≤ 3
  b10 : B ≤ 10
def spLpt (K : PySem.W.Frag) (CS : Addr) : Sp := fun vs H Q _ => ∃ (d a : Addr) (ns : List Int) (p : Addr) (dm B : Nat), vs = [.ref d, .ref p] ∧ DrawAt K H d a ns ∧ SpAt CS H p dm B ∧ SpOk dm B ∧ ∀ H' t l, Sd d H H' → DrawAt K H' d a ns → H' t = some (.tup (iL l)) → Pt B dm l → Q (.ref t) H'
theorem q_lpt {f fT : Addr} {fd fdT : FuncData} (F : Fun K "_law_point" "_law_point" t_lpt f fd) (BB : Bl mg) (TS : TxS K CS)
    (GT : FnQ P w K mg base 2 fT fdT p_lta (spLta K)) (gT : mg "_law_take" = some (.ref fT)) (kT : PySem.W.keepIn K (.ref fT) = true) (bT : Binds K fdT p_lta []) : FnQ P w K mg base 3 f fd p_lpt (spLpt K CS) := by
  refine FnQ.of F sc_lpt (fun vs H Q E h => ?_) (fun cc cdv A outer s H vs Q E fx hr h => ?_)
  · obtain ⟨d, a, ns, p, dm, B, rfl, _⟩ := h
    rfl
  obtain ⟨d, a, ns, p, dm, B, rfl, hd, hp, ok, q⟩ := h
  have nd := sc_lpt.nd
  refine ⟨_, pss_one (ps_ret (pe_callTy call_tuple_of (by rfl) BB.n_tuple (by decide +kernel) (pa_cons
    (qe_lc (own := [("_law_axis", 2)]) (g := gName 2) (tt := tYes) fx.nox nd (qi_range1 (by rfl) BB.n_range (pa_cons (pe_fld (pv 1) rfl) pa_nil)) (blkOk_by (N := n_lpt) (sc := defScope t_lpt) (by decide +kernel)) (fun _ _ _ _ _ => pg_name (i := 2) nd rfl (.inl rfl)) (fun _ _ _ _ _ => pts_nil)
      (fun _ _ _ _ _ => qe_call GT hr fx.nox.blk (by rfl) gT kT bT (pa_cons (pv 0) (pa_cons (pe_fldK (K := K) rfl (pv 1) rfl) pa_nil)))) pa_nil))), ?_⟩
  obtain ⟨dx, ep⟩ := id hp
  obtain ⟨acc, ed⟩ := hd.lst
  have d3 := ok.d3
  refine ⟨_, rfl, p, CS, dx, _, _, rfl, ep, TS.cl, TS.nDim, fS_dim _ _, _, rfl, (lt62 (by omega)).1, (lt62 (by omega)).2, fun D nD => ?_⟩
  have ndD : d ≠ D := ne_of_none ed nD
  have hd1 : DrawAt K (upd H D (.lst [])) d a ns := hd.same (same_new nD)
  refine lc_range (lo := 0) (fun i H1 => Sd d H H1 ∧ DrawAt K H1 d a ns ∧ ∃ l : List Nat, H1 D = some (.lst (iL l)) ∧ l.length = i ∧ ∀ x ∈ l, x < 2 ^ B) ⟨sd_of (same_new nD), hd1, [], upd_same, rfl, fun x h => by cases h⟩ ?_ ?_
  · rintro i H1 hi ⟨s1, hd1, l, eD, ll, lb⟩
    have hi : i < dm := hi
    obtain ⟨acc1, ed1⟩ := hd1.lst
    have hp1 : H1 p = some (.ins CS dx (fldsS dm B)) := s1 _ _ (fun z => by rw [z, ed] at ep; cases ep) ep
    refine ⟨rfl, _, rfl, _, rfl, p, CS, dx, _, _, rfl, hp1, TS.cl, TS.nSide, fS_side _ _, d, a, ns, 2 ^ B, rfl, Nat.two_pow_pos _, hd1, fun H2 r s2 hd2 hr2 => ⟨_, s2 _ _ (Ne.symm ndD) eD, by rw [List.length_map]; exact small1000 (by omega), sd_at (s1.trans s2) nD, ?_, l ++ [r], ?_, ?_, ?_⟩⟩
    · obtain ⟨c, e, _⟩ := hd2
      exact hd.step (sd_at (s1.trans s2) nD) ((upd_ne ndD).trans e)
    · rw [upd_same]
      unfold iL
      rw [List.map_append]
      rfl
    · rw [List.length_append, ll]
      rfl
    · intro x hx
      rcases List.mem_append.mp hx with m | m
      · exact lb x m
      · rw [List.mem_singleton.mp m]
        exact hr2
  · rintro H1 ⟨s1, hd1, l, eD, ll, lb⟩
    refine ⟨D, _, rfl, .inl ⟨SqL.of eD, fun t nt => q _ t l (s1.trans (sd_of (same_new nt))) (hd1.same (same_new nt)) upd_same ⟨ll, lb⟩⟩⟩
end
end FW

set_option Elab.async false
set_option linter.all false
set_option maxRecDepth 100000
set_option maxHeartbeats 4000000
/-! _law_points, _law_cloud, _law_space. -/
namespace FW
open PySem L2 L2H FH FC HotX
theorem dp_pts {K : PySem.W.Frag} {H : Hp} : ∀ {ps : List Addr} {qs : List (List Nat)}, PtsAt K H ps qs → DpAll K H (ps.map V.ref) (qs.map dI)
  | _, _, .nil => .nil
  | _, _, .cons h r => .cons (dp_dI h) (dp_pts r)
theorem nodup_wv {B dm : Nat} (hd : 0 < dm) : ∀ {qs : List (List Nat)}, (∀ q ∈ qs, Pt B dm q) → qs.Nodup → (qs.map (wv B dm)).Nodup
  | [], _, _ => .nil
  | q :: qs, hp, h => by
    obtain ⟨h1, h2⟩ := List.nodup_cons.mp h
    refine List.nodup_cons.mpr ⟨fun m => ?_, nodup_wv hd (fun x hx => hp x (List.mem_cons_of_mem _ hx)) h2⟩
    obtain ⟨q', hq', e⟩ := List.mem_map.mp m
    rw [wv_inj hd (hp q' (List.mem_cons_of_mem _ hq')) (hp q List.mem_cons_self) e] at hq'
    exact h1 hq'
section
variable {P : Program} {w : World} {K : PySem.W.Frag} {mg : Str → Option Value} {base : Heap} {CS CC : Addr}
def spLps (K : PySem.W.Frag) (CS : Addr) : Sp := fun vs H Q _ => ∃ (d a : Addr) (ns : List Int) (p : Addr) (dm B m : Nat), vs = [.ref d, .ref p, iN m] ∧ m ≤ 8 ∧ DrawAt K H d a ns ∧ SpAt CS H p dm B ∧ SpOk dm B ∧
  ∀ H' o ps qs, Sd d H H' → DrawAt K H' d a ns → H' o = some (.lst (ps.map V.ref)) → PtsAt K H' ps qs → qs.Nodup → (∀ q ∈ qs, Pt B dm q) → qs.length ≤ m → Q (.ref o) H'
theorem q_lps {f fT fP : Addr} {fd fdT fdP : FuncData} (F : Fun K "_law_points" "_law_points" t_lps f fd) (BB : Bl mg)
    (GT : FnQ P w K mg base 2 fT fdT p_lta (spLta K)) (gT : mg "_law_take" = some (.ref fT)) (kT : PySem.W.keepIn K (.ref fT) = true) (bT : Binds K fdT p_lta [])
    (GP : FnQ P w K mg base 3 fP fdP p_lpt (spLpt K CS)) (gP : mg "_law_point" = some (.ref fP)) (kP : PySem.W.keepIn K (.ref fP) = true) (bP : Binds K fdP p_lpt []) : FnQ P w K mg base 4 f fd p_lps (spLps K CS) := by
  refine FnQ.of F sc_lps (fun vs H Q E h => ?_) (fun cc cdv A outer s H vs Q E fx hr h => ?_)
  · obtain ⟨d, a, ns, p, dm, B, m, rfl, _⟩ := h
    rfl
  obtain ⟨d, a, ns, p, dm, B, m, rfl, hm, hd, hp, ok, q⟩ := h
  have nd := sc_lps.nd
  refine ⟨_, pss_cons (ps_set (i := 3) nd rfl (.inl rfl) (pe_lst pa_nil))
    (pss_cons (qs_for PassesOwn.never fx.nox (qi_range1 (by rfl) BB.n_range (pa_cons (qe_call GT (hr.mono (by decide)) fx.nox (by rfl) gT kT bT (pa_cons (pv 0) (pa_cons (pe_op op_add (pv 2) pe_int) pa_nil))) pa_nil)) (pg_name (i := 4) nd rfl (.inl rfl))
      (pss_cons (ps_set (i := 5) nd rfl (.inl rfl) (qe_call GP hr fx.nox (by rfl) gP kP bP (pa_cons (pv 0) (pa_cons (pv 1) pa_nil))))
      (pss_one (ps_if (pt_cmpR (op_notInD (hu65 hr)) (pv 5) (pv 3) (by rfl)) (pss_one (ps_expr (pe_bm PySem.F.plainAttrs_list PySem.F.slot_list_append PySem.F.type_list_append mt_append (pv 3) (pa_cons (pv 5) pa_nil)))) pss_nil))))
    (pss_one (ps_ret (pv 3)))), ?_⟩
  obtain ⟨acc, ed⟩ := hd.lst
  refine ⟨Nat.zero_le _, fun o no => ?_⟩
  have s0 := same_new (o := .lst []) no
  have ndo : d ≠ o := ne_of_none ed no
  refine ⟨_, rfl, _, rfl, _, _, rfl, rfl, d, a, ns, m + 1, rfl, by omega, hd.same s0, fun H1 r s1 hd1 hr1 => ?_⟩
  have s01 : Sd d H H1 := (sd_of s0).trans s1
  refine ⟨_, rfl, (lt62 (by omega)).1, (lt62 (by omega)).2, for_range (lo := 0) (fun i σ H2 => Sd d H H2 ∧ DrawAt K H2 d a ns ∧ ∃ (ps : List Addr) (qs : List (List Nat)) (x4 x5 : Option V), H2 o = some (.lst (ps.map V.ref)) ∧ PtsAt K H2 ps qs ∧ qs.Nodup ∧ (∀ q ∈ qs, Pt B dm q) ∧ qs.length ≤ i ∧ σ = [some (.ref d), some (.ref p), some (iN m), some (.ref o), x4, x5])
    ⟨s01, hd1, [], [], none, none, s1 _ _ (Ne.symm ndo) upd_same, .nil, .nil, (fun q h => by cases h), Nat.le_refl _, rfl⟩ ?_ ?_⟩
  · rintro i σ H2 hi ⟨s2, hd2, ps, qs, x4, x5, eo, hps, hnd, hpt, hl, rfl⟩
    have hi : i < r := hi
    obtain ⟨acc2, ed2⟩ := hd2.lst
    refine ⟨_, rfl, _, rfl, d, a, ns, p, dm, B, rfl, hd2, s2.sp ed hp, ok, fun H3 t l s3 hd3 et hl3 => ?_⟩
    have eo3 := s3 _ _ (Ne.symm ndo) eo
    have hps3 := s3.pts ed2 hps
    have s23 := s2.trans s3
    have lp := PySem.Paired.length hps3
    refine ⟨.ref t, rfl, .ref o, rfl, dI l, qs.map dI, dp_dI (SqT.of et), .lst (SqL.of eo3) (dp_pts hps3), dI_shaped _, dLs_shaped qs, _, rfl, ?_⟩
    rw [any_dI]
    by_cases c : l ∈ qs
    · rw [decide_eq_true c]
      exact iteF ⟨s23, hd3, ps, qs, _, _, eo3, hps3, hnd, hpt, by omega, rfl⟩
    · rw [decide_eq_false c]
      refine iteT ⟨.ref o, rfl, .inl ⟨rfl, _, SqL.of eo3⟩, _, rfl, o, _, _, rfl, rfl, eo3, by rw [List.length_map]; exact small1000 (by omega), sd_at s23 no, ?_, ps ++ [t], qs ++ [l], _, _, ?_, ?_, ?_, ?_, ?_, rfl⟩
      · obtain ⟨c2, e2, _⟩ := hd3
        exact hd.step (sd_at s23 no) ((upd_ne ndo).trans e2)
      · rw [upd_same, List.map_append]
        rfl
      · exact Paired.snoc (hps3.off eo3) (SqT.off eo3 (SqT.of et))
      · rw [List.nodup_append]
        refine ⟨hnd, by simp, fun x hx y hy z => ?_⟩
        rw [List.mem_singleton.mp hy] at z
        exact c (z ▸ hx)
      · intro x hx
        rcases List.mem_append.mp hx with h | h
        · exact hpt x h
        · rw [List.mem_singleton.mp h]
          exact hl3
      · rw [List.length_append]
        show qs.length + 1 ≤ i + 1
        omega
  · rintro σ H2 ⟨s2, hd2, ps, qs, x4, x5, eo, hps, hnd, hpt, hl, rfl⟩
    have hl : qs.length ≤ r := hl
    exact ⟨_, rfl, q H2 o ps qs s2 hd2 eo hps hnd hpt (by omega)⟩
def spLcl (K : PySem.W.Frag) (CS CC : Addr) : Sp := fun vs H Q _ => ∃ (d a : Addr) (ns : List Int) (p : Addr) (dm B m : Nat), vs = [.ref d, .ref p, iN m] ∧ m ≤ 8 ∧ DrawAt K H d a ns ∧ SpAt CS H p dm B ∧ SpOk dm B ∧
  ∀ H' c r, Sd d H H' → DrawAt K H' d a ns → ClAt K CC H' c p r → Row (2 ^ (dm * B)) r → r.length ≤ 8 → Q (.ref c) H'
theorem q_lcl {f fI fP : Addr} {fd fdI fdP : FuncData} (F : Fun K "_law_cloud" "_law_cloud" t_lcl f fd) (M : Mk K CC fI) (gC : mg "Cloud" = some (.ref CC))
    (GI : FnQ P w K mg base 5 fI fdI p_cin (spCin K CS CC)) (bI : Binds K fdI p_cin [])
    (GP : FnQ P w K mg base 4 fP fdP p_lps (spLps K CS)) (gP : mg "_law_points" = some (.ref fP)) (kP : PySem.W.keepIn K (.ref fP) = true) (bP : Binds K fdP p_lps []) : FnQ P w K mg base 7 f fd p_lcl (spLcl K CS CC) := by
  refine FnQ.of F sc_lcl (fun vs H Q E h => ?_) (fun cc cdv A outer s H vs Q E fx hr h => ?_)
  · obtain ⟨d, a, ns, p, dm, B, m, rfl, _⟩ := h
    rfl
  obtain ⟨d, a, ns, p, dm, B, m, rfl, hm, hd, hp, ok, q⟩ := h
  refine ⟨_, pss_one (ps_ret (qe_make M GI hr fx.nox (by rfl) gC bI (pa_cons (pv 1) (pa_cons (qe_call GP (hr.mono (by decide)) fx.nox (by rfl) gP kP bP (pa_cons (pv 0) (pa_cons (pv 1) (pa_cons (pv 2) pa_nil)))) pa_nil)))), ?_⟩
  obtain ⟨acc, ed⟩ := hd.lst
  have d3 := ok.d3
  refine ⟨_, rfl, _, rfl, _, rfl, _, rfl, d, a, ns, p, dm, B, m, rfl, hm, hd, hp, ok, fun H1 o ps qs s1 hd1 eo hps hnd hpt hl => ?_⟩
  refine make_cloud (s1.sp ed hp) (SqL.of eo) hps hpt (nodup_wv ok.d0 hpt hnd) (by omega) (by omega) ok.b10 ok.b0 fun H2 x r s2 hc hperm hs => ?_
  refine q H2 x r (s1.trans (sd_of s2)) (hd1.same s2) hc (row_of (nodup_wv ok.d0 hpt hnd) (fun n hn => ?_) hperm hs) ?_
  · obtain ⟨q', _, rfl⟩ := List.mem_map.mp hn
    exact wv_lt B dm q'
  · rw [hperm.length_eq, List.length_map]
    omega
end
end FW

set_option Elab.async false
set_option linter.all false
set_option maxRecDepth 100000
set_option maxHeartbeats 4000000
/-! _law_space (nothing is handled when it runs), _law_coarse. -/
namespace FW
open PySem L2 L2H FH FC HotX
def mkv (k n : Nat) : View := (List.range n).map fun i => (k, 1 + i)
theorem mkv_succ (k n : Nat) : mkv k (n + 1) = mkv k n ++ [(k, 1 + n)] := by
  unfold mkv
  rw [List.range_succ, List.map_append]
  rfl
theorem mkv_ok : ∀ e ∈ (mkv 1 8 ++ mkv 2 5) ++ mkv 3 3, SpOk e.1 e.2 := by
  have h : ∀ e ∈ (mkv 1 8 ++ mkv 2 5) ++ mkv 3 3, 0 < e.1 ∧ 0 < e.2 ∧ e.1 * e.2 ≤ 10 ∧ e.1 ≤ 3 ∧ e.2 ≤ 10 := by decide
  exact fun e he => ⟨(h e he).1, (h e he).2.1, (h e he).2.2.1, (h e he).2.2.2.1, (h e he).2.2.2.2⟩
theorem prs_mem {K : PySem.W.Frag} {H : Hp} : ∀ {ps : List Addr} {v : View}, Prs K H ps v → ∀ {x : V}, x ∈ ps.map V.ref → ∃ p e, x = .ref p ∧ e ∈ v ∧ SqT K H p [iN e.1, iN e.2]
  | _, _, .nil, x, h => by cases h
  | _, _, .cons (a := p) (b := e) hp r, x, h => by
    rcases List.mem_cons.mp h with q | q
    · exact ⟨p, e, q, List.mem_cons_self, hp⟩
    · obtain ⟨p', e', h1, h2, h3⟩ := prs_mem r q
      exact ⟨p', e', h1, List.mem_cons_of_mem _ h2, h3⟩
section
variable {P : Program} {w : World} {K : PySem.W.Frag} {mg : Str → Option Value} {base : Heap} {CS CC : Addr}
/-- [(k, bits) for bits in range(1, n + 1)] -/
theorem lc_mkv {σ : L2.St} {H : Hp} {D : Addr} {Qd : Hp → Prop} {k n : Nat} (hn : n ≤ 8) (hσ : σ.length = 5) (nD : H D = none) (hd : ∀ (H' : Hp) (ts : List Addr), Same H H' → H' D = some (.lst (ts.map V.ref)) → Prs K H' ts (mkv k n) → Qd H') :
    ∃ W : Nat → Nat → Hp → Prop, (∃ m, W 0 m (upd H D (.lst []))) ∧ ∀ (i m : Nat) (H : Hp), W i m H → (Itr 1 n).stop i H ∧ Qd H ∨ (Itr 1 n).go i H ∧ ∃ Nx : Hp → Prop, (∀ (H' : Hp), Nx H' → ∃ m', m' < m ∧ W (i + 1) m' H') ∧
      ∀ (x : V) (H' : Hp), (Itr 1 n).yld i H x H' → gName 2 x (wipe σ [2]) H' fun σ2 H2 => wipe σ2 [2] = wipe σ [2] ∧ tYes σ2 H2 fun b H3 => if b = true then tTup (tCons (tC (.int (k : Int))) (tCons (tVar 2) tNil)) σ2 H3 fun y H4 => ∃ acc, H4 D = some (.lst acc) ∧ acc.length < sizeLine ∧ Nx (upd H4 D (.lst (acc ++ [y]))) else Nx H3 := by
  refine lc_range (lo := 1) (fun i H1 => Same H H1 ∧ ∃ ts : List Addr, H1 D = some (.lst (ts.map V.ref)) ∧ Prs K H1 ts (mkv k i)) ⟨same_new nD, [], upd_same, .nil⟩ ?_ (fun H' ⟨s, ts, e, p⟩ => hd H' ts s e p)
  rintro i H1 hi ⟨s1, ts, eD, hts⟩
  have lp := PySem.Paired.length hts
  unfold mkv at lp
  rw [List.length_map, List.length_range] at lp
  have e1 : wipe ((wipe σ [2]).set 2 (some (V.int (1 + (i : Int))))) [2] = wipe σ [2] := by
    show ((σ.set 2 none).set 2 (some (V.int (1 + (i : Int))))).set 2 none = σ.set 2 none
    rw [List.set_set, List.set_set]
  have e2 : ((wipe σ [2]).set 2 (some (V.int (1 + (i : Int)))))[2]? = some (some (V.int (1 + (i : Int)))) := by
    show ((σ.set 2 none).set 2 (some (V.int (1 + (i : Int)))))[2]? = _
    rw [List.set_set, List.getElem?_set_self (by omega)]
  refine ⟨e1, _, e2, (by show 2 ≤ sizeLine; decide), fun t nt => ?_⟩
  have nDt : D ≠ t := ne_of_none eD nt
  refine ⟨_, (upd_ne nDt).trans eD, by rw [List.length_map]; exact small1000 (by omega), same_at (s1.trans (same_new nt)) nD, ts ++ [t], ?_, ?_⟩
  · rw [upd_same, List.map_append]
    rfl
  · rw [mkv_succ]
    exact Paired.snoc ((hts.same (same_new nt)).off ((upd_ne nDt).trans eD)) (SqT.of (by rw [upd_ne nDt.symm, upd_same]; rfl))
def spLsp (K : PySem.W.Frag) (CS : Addr) : Sp := fun vs H Q _ => ∃ (d a : Addr) (ns : List Int), vs = [.ref d, .int 10] ∧ DrawAt K H d a ns ∧ ∀ H' p dm B, Sd d H H' → DrawAt K H' d a ns → SpAt CS H' p dm B → SpOk dm B → Q (.ref p) H'
theorem ok_lsp {f fI fP : Addr} {fd fdI fdP : FuncData} (F : Fun K "_law_space" "_law_space" t_lsp f fd) (BB : Bl mg) (M : Mk K CS fI) (gS : mg "Space" = some (.ref CS))
    (GI : FnQ P w K mg base 2 fI fdI p_sin (spSin CS)) (bI : Binds K fdI p_sin [])
    (GP : FnQ P w K mg base 3 fP fdP p_lpi (spLpi K)) (gP : mg "_law_pick" = some (.ref fP)) (kP : PySem.W.keepIn K (.ref fP) = true) (bP : Binds K fdP p_lpi []) : FnOk P w K mg base CX0 4 f fd p_lsp (spLsp K CS) := by
  refine F.ok sc_lsp (fun vs H Q E h => ?_) (fun cdv A outer s H vs Q E hr0 h => ?_)
  · obtain ⟨d, a, ns, rfl, _⟩ := h
    rfl
  obtain ⟨d, a, ns, rfl, hd, q⟩ := h
  have nd := sc_lsp.nd
  have hr : RoomH 3 (A.deeper (PyProof.Rows.envOfC "_law_space" (defScope t_lsp) s.heap.objs.size f cdv)) := ⟨hr0.dp, hr0.un⟩
  have fx : Fine (cxOf CX0 P w K mg base n_lsp "_law_space" (defScope t_lsp) f cdv A outer s H E).nox := .inl rfl
  refine ⟨_, pss_cons (ps_set (i := 3) nd rfl (.inl rfl) (pe_op op_cat
      (pe_lc (own := [("_law_bits", 2)]) (g := gName 2) (tt := tYes) rfl nd (pi_range2 (by rfl) BB.n_range (pa_cons pe_int (pa_cons (pe_op op_add (pe_callB (call_min2 rfl) (by rfl) BB.n_min (by decide +kernel) (pa_cons pe_int (pa_cons (pv 1) pa_nil))) pe_int) pa_nil))) (blkOk_by (N := n_lsp) (sc := defScope t_lsp) (by decide +kernel)) (fun _ _ _ _ _ => pg_name (i := 2) nd rfl (.inl rfl)) (fun _ _ _ _ _ => pts_nil)
        (fun _ _ _ _ _ => pe_tup (pa_cons pe_int (pa_cons (pv 2) pa_nil))))
      (pe_lc (own := [("_law_bits", 2)]) (g := gName 2) (tt := tYes) rfl nd (pi_range2 (by rfl) BB.n_range (pa_cons pe_int (pa_cons (pe_op op_add (pe_op op_fdiv (pv 1) pe_int) pe_int) pa_nil))) (blkOk_by (N := n_lsp) (sc := defScope t_lsp) (by decide +kernel)) (fun _ _ _ _ _ => pg_name (i := 2) nd rfl (.inl rfl)) (fun _ _ _ _ _ => pts_nil)
        (fun _ _ _ _ _ => pe_tup (pa_cons pe_int (pa_cons (pv 2) pa_nil))))))
    (pss_cons (ps_aug (i := 3) nd rfl (.inl rfl)
      (pe_lc (own := [("_law_bits", 2)]) (g := gName 2) (tt := tYes) rfl nd (pi_range2 (by rfl) BB.n_range (pa_cons pe_int (pa_cons (pe_op op_add (pe_op op_fdiv (pv 1) pe_int) pe_int) pa_nil))) (blkOk_by (N := n_lsp) (sc := defScope t_lsp) (by decide +kernel)) (fun _ _ _ _ _ => pg_name (i := 2) nd rfl (.inl rfl)) (fun _ _ _ _ _ => pts_nil)
        (fun _ _ _ _ _ => pe_tup (pa_cons pe_int (pa_cons (pv 2) pa_nil)))) iop_ext)
    (pss_cons (ps_asg (qe_call GP hr fx (by rfl) gP kP bP (pa_cons (pv 0) (pa_cons (pv 3) pa_nil))) (qg_tup fx (pgs_cons (pg_name (i := 4) nd rfl (.inl rfl)) (pgs_cons (pg_name (i := 2) nd rfl (.inl rfl)) pgs_nil))))
    (pss_one (ps_ret (qe_make M GI hr fx (by rfl) gS bI (pa_cons (pv 4) (pa_cons (pv 2) pa_nil))))))), ?_⟩
  obtain ⟨acc, ed⟩ := hd.lst
  have b62 : -(2 ^ 62) ≤ (1 : Int) ∧ (1 : Int) < 2 ^ 62 := lt62 (n := 1) (by decide)
  have hz : ∀ {a b : Nat}, a + b ≤ 1000 → a + b ≤ sizeLine := fun {a b} h => by
    have : (1000 : Nat) ≤ sizeLine := by decide
    omega
  -- the first list
  refine ⟨_, rfl, _, _, rfl, _, _, rfl, rfl, 1, ((9 : Nat) : Int), rfl, ⟨b62.1, b62.2, (lt62 (n := 9) (by decide)).1, (lt62 (n := 9) (by decide)).2⟩, fun D1 nD1 => lc_mkv (k := 1) (n := 8) (K := K) (by decide) rfl nD1 fun H1 ts1 s1 e1 p1 => ?_⟩
  -- the second list
  refine ⟨_, rfl, _, _, rfl, rfl, ⟨by decide, by decide⟩, _, _, rfl, rfl, 1, ((6 : Nat) : Int), rfl, ⟨b62.1, b62.2, (lt62 (n := 6) (by decide)).1, (lt62 (n := 6) (by decide)).2⟩, fun D2 nD2 => lc_mkv (k := 2) (n := 5) (K := K) (by decide) rfl nD2 fun H2 ts2 s2 e2 p2 => ?_⟩
  have l1 := PySem.Paired.length p1
  have l2 := PySem.Paired.length p2
  have k1 : (mkv 1 8).length = 8 := by decide
  have k2 : (mkv 2 5).length = 5 := by decide
  refine ⟨D1, D2, _, _, rfl, rfl, s2 _ _ e1, e2, hz (by rw [List.length_map, List.length_map]; omega), fun o no => ?_⟩
  have sA : Same H H2 := s1.trans s2
  have s3 := same_new (o := .lst (ts1.map V.ref ++ ts2.map V.ref)) no
  -- the third list
  refine ⟨_, rfl, _, rfl, _, _, rfl, rfl, ⟨by decide, by decide⟩, _, _, rfl, rfl, 1, ((4 : Nat) : Int), rfl, ⟨b62.1, b62.2, (lt62 (n := 4) (by decide)).1, (lt62 (n := 4) (by decide)).2⟩, fun D3 nD3 => lc_mkv (k := 3) (n := 3) (K := K) (by decide) rfl nD3 fun H4 ts3 s4 e4 p4 => ?_⟩
  have l4 := PySem.Paired.length p4
  have k4 : (mkv 3 3).length = 3 := by decide
  have eo : H4 o = some (.lst (ts1.map V.ref ++ ts2.map V.ref)) := s4 _ _ upd_same
  refine ⟨o, D3, _, _, rfl, rfl, eo, e4, hz (by rw [List.length_append, List.length_map, List.length_map, List.length_map]; omega), ?_⟩
  have sB : Same H H4 := (sA.trans s3).trans s4
  have no' : H o = none := sA.free no
  have sC : Same H (upd H4 o (.lst ((ts1.map V.ref ++ ts2.map V.ref) ++ ts3.map V.ref))) := same_at sB no'
  have hall : Prs K (upd H4 o (.lst ((ts1.map V.ref ++ ts2.map V.ref) ++ ts3.map V.ref))) ((ts1 ++ ts2) ++ ts3) ((mkv 1 8 ++ mkv 2 5) ++ mkv 3 3) :=
    prs_app (p4.off eo) (prs_app (((p2.same s3).same s4).off eo) ((((p1.same s2).same s3).same s4).off eo))
  have ndo : o ≠ d := fun z => by rw [z, ed] at no'; cases no'
  refine ⟨_, rfl, .ref o, rfl, d, a, ns, o, ((ts1 ++ ts2) ++ ts3).map V.ref, rfl, by rw [List.length_map, List.length_append, List.length_append]; omega, ndo, SqL.of (by rw [upd_same, List.map_append, List.map_append]), hd.same sC, fun H5 x s5 hd5 hx => ?_⟩
  have edC := sC _ _ ed
  obtain ⟨t, e, rfl, he, ht⟩ := prs_mem (s5.prs edC hall) hx
  have ok := mkv_ok e he
  refine ⟨t, _, rfl, ht, rfl, _, _, rfl, _, _, rfl, rfl, ?_⟩
  refine ⟨_, rfl, _, rfl, fun x dx nx ndx ne => ⟨x, dx, e.1, e.2, rfl, upd_same, ok.d0, ok.d3, ok.b0, ok.b10, fun H6 kp hsp => ⟨rfl, ?_⟩⟩⟩
  have s6 : Same H5 H6 := Same.made nx ndx kp
  exact q H6 x e.1 e.2 (((sd_of sC).trans s5).trans (sd_of s6)) (hd5.same s6) hsp ok
end
end FW

set_option Elab.async false
set_option linter.all false
set_option maxRecDepth 100000
set_option maxHeartbeats 4000000
/-! _law_coarse. -/
namespace FW
open PySem L2 L2H FH FC HotX
theorem putK_insC : ∀ {v : View} {lo N : Nat} (k c : Nat), Asc lo N v → putK (kvs v) (kN k) (iN (cf v k + c)) = kvs (ins v k c)
  | [], lo, N, k, c, _ => by
    show [(kN k, iN (0 + c))] = [(kN k, iN c)]
    rw [Nat.zero_add]
  | e :: v, lo, N, k, c, h => by
    obtain ⟨h1, h2, h3, h4⟩ := id h
    by_cases q : e.1 = k
    · have hc := cf_head h
      rw [q] at hc
      rw [hc]
      show putK ((kN e.1, iN e.2) :: kvs v) (kN k) _ = kvs (if e.1 = k then (k, e.2 + c) :: v else _)
      rw [if_pos q]
      unfold putK
      rw [if_pos (by rw [List.any_cons, q]; simp), List.map_cons, putK_same h4 (by omega)]
      show (if kN e.1 = kN k then _ else _) :: _ = _
      rw [if_pos (by rw [q]), q]
      rfl
    · show putK ((kN e.1, iN e.2) :: kvs v) (kN k) (iN ((if e.1 = k then e.2 else 0) + cf v k + c)) = kvs (if e.1 = k then _ else e :: ins v k c)
      rw [if_neg q, if_neg q, Nat.zero_add, putK_ne (fun z => q (kN_inj z)), putK_insC k c h4]
      rfl
theorem asc_take : ∀ {lo N : Nat} {v : View} (i : Nat), Asc lo N v → Asc lo N (v.take i)
  | _, _, [], i, _ => by rw [List.take_nil]; trivial
  | _, _, _ :: _, 0, _ => trivial
  | _, _, _ :: _, i + 1, ⟨h1, h2, h3, h4⟩ => ⟨h1, h2, h3, asc_take i h4⟩
theorem coarse_succ {s i : Nat} {v : View} {e : Nat × Nat} (h : v[i]? = some e) : coarse s (v.take (i + 1)) = ins (coarse s (v.take i)) (e.1 / s) e.2 := by
  unfold coarse tally
  rw [List.take_add_one, h, List.map_append, List.foldl_append]
  rfl
theorem ins_len : ∀ (v : View) (k c : Nat), (ins v k c).length ≤ v.length + 1
  | [], k, c => Nat.le_refl _
  | e :: v, k, c => by
    have := ins_len v k c
    show (if e.1 = k then (k, e.2 + c) :: v else e :: ins v k c).length ≤ _
    split
    · rw [List.length_cons, List.length_cons]
      omega
    · rw [List.length_cons, List.length_cons]
      omega
theorem coarse_len {s : Nat} {v : View} : ∀ i : Nat, (coarse s (v.take i)).length ≤ i
  | 0 => by rw [List.take_zero]; exact Nat.le_refl _
  | i + 1 => by
    have ih := coarse_len (s := s) (v := v) i
    cases h : v[i]? with
    | none =>
      have hi : v.length ≤ i := by
        apply Nat.le_of_not_lt
        intro c
        rw [List.getElem?_eq_getElem c] at h
        cases h
      rw [List.take_of_length_le (by omega)]
      rw [List.take_of_length_le hi] at ih
      omega
    | some e =>
      rw [coarse_succ h]
      have := ins_len (coarse s (v.take i)) (e.1 / s) e.2
      omega
section
variable {P : Program} {w : World} {K : PySem.W.Frag} {mg : Str → Option Value} {base : Heap} {CS CC : Addr}
def spLca (K : PySem.W.Frag) : Sp := fun vs H Q _ => ∃ (a : Addr) (v : View) (l N : Nat), vs = [.ref a, iN l] ∧ VwAt K H a v ∧ Asc 0 (N * 2 ^ l) v ∧ l ≤ 10 ∧ v.length ≤ 8 ∧ ∀ H' p, Same H H' → VwAt K H' p (coarse (2 ^ l) v) → Q (.ref p) H'
theorem q_lca {f fP : Addr} {fd fdP : FuncData} (F : Fun K "_law_coarse" "_law_coarse" t_lca f fd) (BB : Bl mg)
    (GP : FnQ P w K mg base 1 fP fdP p_lpw spPow) (gP : mg "_law_power" = some (.ref fP)) (kP : PySem.W.keepIn K (.ref fP) = true) (bP : Binds K fdP p_lpw []) : FnQ P w K mg base 2 f fd p_lca (spLca K) := by
  refine FnQ.of F sc_lca (fun vs H Q E h => ?_) (fun cc cdv A outer s H vs Q E fx hr h => ?_)
  · obtain ⟨a, v, l, N, rfl, _⟩ := h
    rfl
  obtain ⟨a, v, l, N, rfl, hv, hA, hl10, h8, q⟩ := h
  have nd := sc_lca.nd
  have hu := hu1 hr
  refine ⟨_, pss_cons (ps_asg (pe_tup (pa_cons pe_dnewK (pa_cons (qe_call GP hr fx.nox (by rfl) gP kP bP (pa_cons (pv 1) pa_nil)) pa_nil))) (qg_tup fx.nox (pgs_cons (pg_name (i := 2) nd rfl (.inr rfl)) (pgs_cons (pg_name (i := 3) nd rfl (.inl rfl)) pgs_nil))))
    (pss_cons (qs_for PassesOwn.never fx.nox (qi_tup (pv 0)) (qg_tup fx.nox (pgs_cons (pg_name (i := 4) nd rfl (.inl rfl)) (pgs_cons (pg_name (i := 5) nd rfl (.inl rfl)) pgs_nil)))
      (pss_one (ps_dput hu (pv 2) (pe_op op_fdivW (pv 4) (pv 3)) (pe_op op_add (pe_dget2 hu (pv 2) (pe_op op_fdivW (pv 4) (pv 3)) pe_int ⟨rfl, rfl, rfl, rfl⟩) (pv 5)) rfl)))
    (pss_one (ps_ret (pe_callTy call_tuple_of (by rfl) BB.n_tuple (by decide +kernel) (pa_cons
      (qe_lc (own := [("_law_cell", 4)]) (g := gName 4) (tt := tYes) fx.nox nd (qi_list (pe_callB (cq_sortedD fx.nox) (by rfl) BB.n_sorted (by decide +kernel) (pa_cons (pv 2) pa_nil))) (blkOk_by (N := n_lca) (sc := defScope t_lca) (by decide +kernel)) (fun _ _ _ _ _ => pg_name (i := 4) nd rfl (.inl rfl)) (fun _ _ _ _ _ => pts_nil)
        (fun _ _ _ _ _ => pe_tup (pa_cons (pv 4) (pa_cons (pe_dget hu (pv 2) (pv 4) (fun _ _ => rfl)) pa_nil)))) pa_nil))))), ?_⟩
  intro d nd'
  have s0 := same_new (o := .dK []) nd'
  refine ⟨_, rfl, l, rfl, by omega, (by show 2 ≤ sizeLine; decide), fun t nt => ⟨t, _, rfl, SqT.of upd_same, rfl, _, _, rfl, _, _, rfl, rfl, ?_⟩⟩
  have ndt : d ≠ t := ne_of_none upd_same nt
  have s1 : Same H _ := s0.trans (same_new (o := .tup [V.ref d, iN (2 ^ l)]) nt)
  have hp2 : 2 ^ l < 2 ^ 20 := Nat.pow_lt_pow_right (by decide) (by omega)
  have ascAt : ∀ i, Asc 0 N (coarse (2 ^ l) (v.take i)) := fun i => coarse_asc (Nat.two_pow_pos _) (asc_take i hA)
  refine ⟨.ref a, rfl, a, rfl, (hv.same s1).sq, for_view (ja := 4) (jb := 5) hv (fun i σ H2 => Same H H2 ∧ H2 d = some (.dK (kvs (coarse (2 ^ l) (v.take i)))) ∧ ∃ x4 x5 : Option V, σ = [some (.ref a), some (iN l), some (.ref d), some (iN (2 ^ l)), x4, x5]) ⟨s1, (upd_ne ndt).trans upd_same, none, none, rfl⟩ (fun i σ H2 h => h.1) ?_ ?_⟩
  · rintro i e σ H2 he ⟨s2, e2, x4, x5, rfl⟩
    have hi8 : i < 8 := by
      have := (List.getElem?_eq_some_iff.mp he).1
      omega
    refine ⟨.ref d, rfl, d, rfl, .inl ⟨_, .inl e2⟩, _, rfl, _, rfl, _, _, rfl, rfl, wide_div (b := 20) (Int.ofNat_lt.mpr (Nat.two_pow_pos _)) hp2 (by decide) (by decide), _, DGet.k (k := kN (e.1 / 2 ^ l)) e2, _, rfl, ((cf (coarse (2 ^ l) (v.take i)) (e.1 / 2 ^ l) : Nat) : Int), (e.2 : Int), val_kvs _ (ascAt i), rfl,
      _, rfl, _, rfl, _, rfl, _, _, rfl, rfl, wide_div (b := 20) (Int.ofNat_lt.mpr (Nat.two_pow_pos _)) hp2 (by decide) (by decide), d, _, rfl, DPut.k (k := kN (e.1 / 2 ^ l)) e2 ?_, same_at s2 nd', ?_, _, _, rfl⟩
    · unfold kvs
      rw [List.length_map]
      have := coarse_len (s := 2 ^ l) (v := v) i
      exact small1000 (by omega)
    · rw [upd_same, coarse_succ he, ← putK_insC _ _ (ascAt i)]
      rfl
  · rintro σ H2 ⟨s2, e2, x4, x5, rfl⟩
    have A := ascAt v.length
    have L := coarse_len (s := 2 ^ l) (v := v) v.length
    rw [List.take_length] at e2 A L
    refine ⟨_, rfl, d, _, ((coarse (2 ^ l) v).map (·.1)).map fun n : Nat => (n : Int), rfl, .inl e2, kvs_keys _, ?_, fun ys m hperm hsort nm => ?_⟩
    · rw [List.length_map, List.length_map]
      omega
    · have ey := cells_of A hperm hsort
      subst ey
      refine ⟨m, rfl, ⟨_, SqL.of upd_same⟩, fun D nD => lc_list (xs := (((coarse (2 ^ l) v).map (·.1)).map fun n : Nat => (n : Int)).map V.int) (fun i H3 => Same H2 H3 ∧ H3 m = some (.lst ((((coarse (2 ^ l) v).map (·.1)).map fun n : Nat => (n : Int)).map V.int)) ∧ ∃ ps : List Addr, H3 D = some (.lst (ps.map V.ref)) ∧ Prs K H3 ps ((coarse (2 ^ l) v).take i))
        ⟨(same_new nm).trans (same_new nD), (same_new nD) _ _ upd_same, [], upd_same, .nil⟩ (fun i H3 _ h => SqL.of h.2.1) ?_ ?_⟩
      · rintro i x H3 hi ⟨s3, el, ps, eD, hps⟩
        obtain ⟨e, he, rfl⟩ : ∃ e, (coarse (2 ^ l) v)[i]? = some e ∧ x = iN e.1 := by
          simp only [List.getElem?_map] at hi
          cases q : (coarse (2 ^ l) v)[i]? with
          | none => rw [q] at hi; cases hi
          | some e => rw [q] at hi; exact ⟨e, rfl, (Option.some.inj hi).symm⟩
        have hm := List.mem_of_getElem? he
        have lp := PySem.Paired.length hps
        rw [List.length_take] at lp
        have z : DGet H3 d (iN e.1) (some (iN e.2)) := by
          have z := DGet.k (k := kN e.1) (s3 _ _ e2)
          rw [val_get A hm] at z
          exact z
        have nmD : m ≠ D := ne_of_none upd_same nD
        refine ⟨rfl, _, rfl, .ref d, rfl, _, rfl, d, _, rfl, z, (by show 2 ≤ sizeLine; decide), fun u nu => ?_⟩
        have nDu : D ≠ u := ne_of_none eD nu
        have nmu : m ≠ u := ne_of_none el nu
        refine ⟨_, (upd_ne nDu).trans eD, by rw [List.length_map]; exact small1000 (by omega), same_at (s3.trans (same_new nu)) ((same_new nm).free nD), ?_, ps ++ [u], ?_, ?_⟩
        · rw [upd_ne nmD, upd_ne nmu]
          exact el
        · rw [upd_same, List.map_append]
          rfl
        · rw [List.take_add_one, he]
          exact Paired.snoc ((hps.same (same_new nu)).off ((upd_ne nDu).trans eD)) (SqT.of (by rw [upd_ne nDu.symm, upd_same]))
      · rintro H3 ⟨s3, el, ps, eD, hps⟩
        rw [List.length_map, List.length_map, List.length_map, List.take_length] at hps
        exact ⟨D, _, rfl, .inl ⟨SqL.of eD, fun p np => q _ p (s2.trans (s3.trans (same_new np))) ⟨ps, SqT.of upd_same, hps.same (same_new np)⟩⟩⟩
end
end FW

set_option Elab.async false
set_option linter.all false
set_option maxRecDepth 100000
set_option maxHeartbeats 4000000
/-! _law_is_told. -/
namespace FW
open PySem L2 L2H FH FC HotX
theorem cat_at {K : PySem.W.Frag} {H : Hp} {a b : Addr} {xs ys : List V} {Q : VK} (ha : SqT K H a xs) (hb : SqT K H b ys) (hz : xs.length + ys.length ≤ sizeLine) (q : ∀ H' p, Same H H' → SqT K H' p (xs ++ ys) → Q (.ref p) H') : rCatA K (.ref a) (.ref b) H Q := by
  refine ⟨a, b, xs, ys, rfl, rfl, ha, hb, hz, fun e => q H b (Same.refl _) ?_, fun _ e => q H a (Same.refl _) ?_, fun _ _ p np => q _ p (same_new np) (SqT.of upd_same)⟩
  · rw [e, List.nil_append]
    exact hb
  · rw [e, List.append_nil]
    exact ha
theorem row_le {D : Nat} {r : List Nat} (h : Row (2 ^ D) r) : r.length ≤ 2 ^ D := by
  have a := vw_W h (Nat.zero_le D)
  rw [vw_zero h, v0_W, Nat.sub_zero] at a
  exact ch_le_of_pos a
section
variable {P : Program} {w : World} {K : PySem.W.Frag} {mg : Str → Option Value} {base : Heap} {CS CC : Addr}
def spLit (K : PySem.W.Frag) (CS CC : Addr) : Sp := fun vs H Q _ => ∃ (d a : Addr) (ns : List Int) (c sp : Addr) (r : List Nat) (dm B f : Nat) (x : V), vs = [.ref d, .ref c, x, iN f] ∧ DrawAt K H d a ns ∧ ClAt K CC H c sp r ∧ SpAt CS H sp dm B ∧ SpOk dm B ∧ Row (2 ^ (dm * B)) r ∧ r.length ≤ 8 ∧ f ≤ dm * B ∧
  ∀ H', Sd d H H' → DrawAt K H' d a ns → Q (.bl true) H'
theorem ok_lit {f fG fT fR fM fV fA fW fC fK : Addr} {fd fdG fdT fdR fdM fdV fdA fdW fdC fdK : FuncData} (F : Fun K "_law_is_told" "_law_is_told" t_lit f fd) (BB : Bl mg) (TS : TxS K CS) (TC : TxC K CC)
    (GG : FnQ P w K mg base 6 fG fdG p_bgn (spBgn K CS CC)) (gG : mg "beginning" = some (.ref fG)) (kG : PySem.W.keepIn K (.ref fG) = true) (bG : Binds K fdG p_bgn [])
    (GT : FnQ P w K mg base 2 fT fdT p_lta (spLta K)) (gT : mg "_law_take" = some (.ref fT)) (kT : PySem.W.keepIn K (.ref fT) = true) (bT : Binds K fdT p_lta [])
    (GR : FnQ P w K mg base 5 fR fdR p_rdc (spRdc K CS)) (gR : mg "read_code" = some (.ref fR)) (kR : PySem.W.keepIn K (.ref fR) = true) (bR : Binds K fdR p_rdc [])
    (GM : FnQ P w K mg base 1 fM fdM p_cmy (spCmy K CC)) (mM : Meth K CC "many" fM) (bM : Binds K fdM p_cmy [])
    (GV : FnQ P w K mg base 2 fV fdV p_cvw (spCvw K CS CC)) (mV : Meth K CC "view" fV) (bV : Binds K fdV p_cvw [])
    (GA : FnQ P w K mg base 2 fA fdA p_alc (spAlc CS)) (gA : mg "all_clouds" = some (.ref fA)) (kA : PySem.W.keepIn K (.ref fA) = true) (bA : Binds K fdA p_alc [])
    (GW : FnQ P w K mg base 1 fW fdW p_lpw spPow) (gW : mg "_law_power" = some (.ref fW)) (kW : PySem.W.keepIn K (.ref fW) = true) (bW : Binds K fdW p_lpw [])
    (GC : FnQ P w K mg base 2 fC fdC p_cmp (spCmp K CS)) (gC : mg "completions" = some (.ref fC)) (kC : PySem.W.keepIn K (.ref fC) = true) (bC : Binds K fdC p_cmp [])
    (GK : FnQ P w K mg base 2 fK fdK p_lca (spLca K)) (gK : mg "_law_coarse" = some (.ref fK)) (kK : PySem.W.keepIn K (.ref fK) = true) (bK : Binds K fdK p_lca []) : FnOk P w K mg base CX0 7 f fd p_lit (spLit K CS CC) := by
  refine F.ok sc_lit (fun vs H Q E h => ?_) (fun cdv A outer s H vs Q E hr0 h => ?_)
  · obtain ⟨d, a, ns, c, sp, r, dm, B, fi, x, rfl, _⟩ := h
    rfl
  obtain ⟨d, a, ns, c, sp, r, dm, B, fi, x, rfl, hd, hc, hsp, ok, hR, h8, hf, q⟩ := h
  have nd := sc_lit.nd
  have hr : RoomH 6 (A.deeper (PyProof.Rows.envOfC "_law_is_told" (defScope t_lit) s.heap.objs.size f cdv)) := ⟨hr0.dp, hr0.un⟩
  have hr1 := hr.mono (show 1 ≤ 6 by decide)
  have hr2 := hr.mono (show 2 ≤ 6 by decide)
  have hr5 := hr.mono (show 5 ≤ 6 by decide)
  have hm1 := hr0.mono (show 1 ≤ 6 by decide)
  have fx : Fine (cxOf CX0 P w K mg base n_lit "_law_is_told" (defScope t_lit) f cdv A outer s H E).nox := .inl rfl
  refine ⟨_, pss_cons (qs_par (i := 4) (j := 5) fx nd rfl rfl (by decide) rfl rfl (pa_cons (pe_fld (pv 1) rfl) (pa_cons (qe_call GG hr fx (by rfl) gG kG bG (pa_cons (pv 1) (pa_cons (pv 3) pa_nil))) pa_nil)) (by rfl))
    (pss_cons (ps_set (i := 6) nd rfl (.inl rfl) (pe_callTy call_tuple_of (by rfl) BB.n_tuple (by decide +kernel) (pa_cons
      (qe_lc (own := [("_law_turn", 13)]) (g := gName 13) (tt := tYes) fx nd (qi_range1 (by rfl) BB.n_range (pa_cons (qe_call GT hr2 fx (by rfl) gT kT bT (pa_cons (pv 0) (pa_cons pe_int pa_nil))) pa_nil)) (blkOk_by (N := n_lit) (sc := defScope t_lit) (by decide +kernel)) (fun _ _ _ _ _ => pg_name (i := 13) nd rfl (.inl rfl)) (fun _ _ _ _ _ => pts_nil)
        (fun _ _ _ _ _ => qe_call GT hr2 fx.blk (by rfl) gT kT bT (pa_cons (pv 0) (pa_cons pe_int pa_nil)))) pa_nil)))
    (pss_cons (ps_set (i := 7) nd rfl (.inl rfl) (qe_call GR hr5 fx (by rfl) gR kR bR (pa_cons (pv 4) (pa_cons (pe_meth0 (pv 1) TC.cl mM GM.ok hm1 bM .nil pass0) (pa_cons (pv 5) pa_nil)))))
    (pss_cons (ps_if (PW.pt (pw_or (pt_cmpR op_lt (pe_ix ix_tup (pv 7) pe_int (fun _ _ => rfl)) (pv 3) (nomark _)) (pw_or (pt_cmpR op_ne (pe_ix ix_tup (pv 7) pe_int (fun _ _ => rfl)) (pe_callB call_len_seq (by rfl) BB.n_len PySem.boot_len (pa_cons (pv 5) pa_nil)) (nomark _))
        (pw_or1 (pt_cmpR (op_neD (hu64 hr)) (pe_ix ix_tup (pv 7) pe_int (fun _ _ => rfl)) (qe_meth (pv 1) TC.cl mV GV hr2 fx bV (pa_cons (pe_ix ix_tup (pv 7) pe_int (fun _ _ => rfl)) pa_nil)) (nomark _)))))) (pss_one (ps_ret pe_bl)) pss_nil)
    (pss_cons (ps_asg (qe_call GR hr5 fx (by rfl) gR kR bR (pa_cons (pv 4) (pa_cons (pe_meth0 (pv 1) TC.cl mM GM.ok hm1 bM .nil pass0) (pa_cons (pe_op op_catA (pv 5) (pv 6)) pa_nil)))) (qg_tup fx (pgs_cons (pg_name (i := 8) nd rfl (.inl rfl)) (pgs_cons (pg_name (i := 9) nd rfl (.inl rfl)) (pgs_cons (pg_name (i := 10) nd rfl (.inl rfl)) pgs_nil)))))
    (pss_cons (ps_if (PW.pt (pw_or (pt_cmpR op_lt (pv 8) (pv 3) (nomark _)) (pw_or (pt_cmpR op_lt (pv 10) (pe_callB call_len_seq (by rfl) BB.n_len PySem.boot_len (pa_cons (pv 5) pa_nil)) (nomark _))
        (pw_or1 (pt_cmpR (op_neD (hu64 hr)) (qe_call GK hr2 fx (by rfl) gK kK bK (pa_cons (pv 9) (pa_cons (pe_op op_sub (pv 8) (pv 3)) pa_nil))) (qe_meth (pv 1) TC.cl mV GV hr2 fx bV (pa_cons (pv 3) pa_nil)) (nomark _)))))) (pss_one (ps_ret pe_bl)) pss_nil)
    (pss_cons (ps_set (i := 11) nd rfl (.inl rfl) (qe_call GA hr2 fx (by rfl) gA kA bA (pa_cons (pv 4) (pa_cons (pe_meth0 (pv 1) TC.cl mM GM.ok hm1 bM .nil pass0) pa_nil))))
    (pss_cons (ps_if (pt_cmpR op_gt (pe_op op_mulW (qe_call GW hr1 fx (by rfl) gW kW bW (pa_cons (pe_callB call_len_seq (by rfl) BB.n_len PySem.boot_len (pa_cons (pv 5) pa_nil)) pa_nil)) (qe_call GC hr2 fx (by rfl) gC kC bC (pa_cons (pv 4) (pa_cons (pv 3) (pa_cons (qe_meth (pv 1) TC.cl mV GV hr2 fx bV (pa_cons (pv 3) pa_nil)) pa_nil)))))
        (pe_op op_mulW (pv 11) (qe_call GW hr1 fx (by rfl) gW kW bW (pa_cons (pe_op op_mul pe_int (pv 3)) pa_nil))) (nomark _)) (pss_one (ps_ret pe_bl)) pss_nil)
    (pss_cons (ps_if (pt_cmpR (op_eqD (hu64 hr)) (pv 5) (pe_tup pa_nil) (nomark _)) (pss_one (ps_ret pe_bl)) pss_nil)
    (pss_cons (ps_asg (qe_call GR hr5 fx (by rfl) gR kR bR (pa_cons (pv 4) (pa_cons (pe_meth0 (pv 1) TC.cl mM GM.ok hm1 bM .nil pass0) (pa_cons (pe_slice sl_tupA (pv 5) po_none (po_some (pe_un un_neg pe_int))) pa_nil)))) (qg_tup fx (pgs_cons (pg_name (i := 12) nd rfl (.inl rfl)) (pgs_cons (pg_name (i := 9) nd rfl (.inl rfl)) (pgs_cons (pg_name (i := 10) nd rfl (.inl rfl)) pgs_nil)))))
    (pss_one (ps_ret (pe_or (pe_cmpR op_lt (pv 12) (pv 3) (nomark _)) (pe_or (pe_cmpR (op_eqD (hu64 hr)) (pe_slice sl_tupA (pv 5) (po_some (pe_un un_neg pe_int)) po_none) (pe_tup pa_nil) (nomark _))
      (pe_one (pe_cmpR op_eq (pe_callB call_len_seq (by rfl) BB.n_len PySem.boot_len (pa_cons (pe_ix ix_tup (pv 2) (pe_op op_sub (pv 3) pe_int) (fun _ _ => rfl)) pa_nil)) pe_int (nomark _)))))))))))))))), ?_⟩
  obtain ⟨acc, ed⟩ := hd.lst
  obtain ⟨dx, ra, ec, tr⟩ := id hc
  have d3 := ok.d3
  have hle := ok.le
  have bl := beg_le hR ok.le h8 hf
  have bb := beg_bit (dm * B) r fi
  have hm := row_le hR
  -- space, bits
  refine ⟨_, rfl, c, CC, dx, _, _, rfl, ec, TC.cl, TC.nSp, fC_space _ _, _, rfl, _, rfl, c, sp, r, dm, B, fi, rfl, hc, hsp, ok.le, hf, hR, h8, fun H1 b s1 eb => ⟨_, _, rfl, ?_⟩⟩
  -- behind
  refine ⟨_, rfl, d, a, ns, 5, rfl, by decide, hd.same s1, fun H2 k s2 hd2 hk => ?_⟩
  obtain ⟨acc2, ed2⟩ := hd2.lst
  have s12 : Sd d H H2 := (sd_of s1).trans s2
  have ed1 := s1 _ _ ed
  refine ⟨_, rfl, (lt62 (by omega)).1, (lt62 (by omega)).2, fun D nD => lc_range (lo := 0) (fun i H3 => Sd d H2 H3 ∧ DrawAt K H3 d a ns ∧ ∃ l : List Nat, H3 D = some (.lst (iL l)) ∧ l.length = i ∧ ∀ x ∈ l, x < 2) ⟨sd_of (same_new nD), hd2.same (same_new nD), [], upd_same, rfl, (fun x h => by cases h)⟩ ?_ ?_⟩
  · rintro i H3 hi ⟨s3, hd3, l, eD, ll, lb⟩
    have hi : i < k := hi
    have ndD : d ≠ D := ne_of_none ed2 nD
    refine ⟨rfl, _, rfl, d, a, ns, 2, rfl, by decide, hd3, fun H4 r4 s4 hd4 hr4 => ⟨_, s4 _ _ (Ne.symm ndD) eD, by rw [List.length_map]; exact small1000 (by omega), sd_at (s3.trans s4) nD, ?_, l ++ [r4], ?_, ?_, ?_⟩⟩
    · obtain ⟨c4, e4, _⟩ := hd4
      exact hd2.step (sd_at (s3.trans s4) nD) ((upd_ne ndD).trans e4)
    · rw [upd_same]
      unfold iL
      rw [List.map_append]
      rfl
    · rw [List.length_append, ll]
      rfl
    · intro x hx
      rcases List.mem_append.mp hx with m | m
      · exact lb x m
      · rw [List.mem_singleton.mp m]
        exact hr4
  rintro H3 ⟨s3, hd3, l, eD, ll, lb⟩
  have ll : l.length = k := ll
  refine ⟨D, _, rfl, .inl ⟨SqL.of eD, fun t nt => ?_⟩⟩
  have hd4 : DrawAt K (upd H3 t (.tup (iL l))) d a ns := hd3.same (same_new nt)
  have sA : Sd d H (upd H3 t (.tup (iL l))) := (s12.trans s3).trans (sd_of (same_new nt))
  have ht4 : SqT K (upd H3 t (.tup (iL l))) t (iL l) := SqT.of upd_same
  have hb4 : SqT K (upd H3 t (.tup (iL l))) b (iL (beg (dm * B) r fi)) := ((s2.trans s3).trans (sd_of (same_new nt))).tp ed1 (SqT.of eb)
  have hc4 := sA.cl ed hc
  have hsp4 := sA.sp ed hsp
  have ec4 : (upd H3 t (.tup (iL l))) c = some (.ins CC dx (fldsC sp ra)) := sA _ _ (fun z => by rw [z, ed] at ec; cases ec) ec
  have fin : ∀ H', Same (upd H3 t (.tup (iL l))) H' → Q (.bl true) H' := fun H' s' => q H' (sA.trans (sd_of s')) (hd4.same s')
  -- read
  refine ⟨_, rfl, _, rfl, c, dx, _, rfl, ec4, fC_many _ _, c, sp, r, rfl, hc4, _, rfl, sp, dm, B, r.length, b, beg (dm * B) r fi, rfl, hsp4, hle, h8, hm, hb4, bb, by omega, fun g v u e H5 t5 a5 s5 et5 hv5 => ?_⟩
  obtain ⟨g', g1, g2, e'⟩ := read_beg hR hf
  have e := e'.symm.trans e
  injection e with q1 q2
  injection q2 with q2 q3
  subst q1
  subst q2
  subst q3
  -- the first test
  refine ⟨_, rfl, t5, _, 0, _, rfl, rfl, SqT.of et5, rfl, _, rfl, _, _, rfl, rfl, _, rfl, ?_⟩
  rw [decide_eq_false (show ¬ (g' : Int) < (fi : Int) by omega)]
  refine iteF ⟨_, rfl, t5, _, 2, _, rfl, rfl, SqT.of et5, rfl, .ref b, rfl, b, _, rfl, .inr (Same.tp s5 hb4), rfl, _, rfl, iteNS (by rw [List.length_map]) ?_⟩
  refine ⟨_, rfl, t5, _, 1, _, rfl, rfl, SqT.of et5, rfl, _, rfl, c, dx, _, rfl, s5 _ _ ec4, fC_view _ _, _, rfl, t5, _, 0, _, rfl, rfl, SqT.of et5, rfl, c, sp, r, dm, B, g', rfl, hc4.same s5, hsp4.same s5, hle, g2, hR, h8, fun H6 p6 s6 hv6 => ⟨dV _, dV _, dp_dV (hv5.same s6), dp_dV hv6.at_, dV_shaped _, dV_shaped _, _, rfl, ?_⟩⟩
  rw [dV_eqv, decide_eq_true rfl]
  refine iteF ?_
  have s46 := s5.trans s6
  -- the second reading
  refine ⟨_, rfl, _, rfl, c, dx, _, rfl, s46 _ _ ec4, fC_many _ _, c, sp, r, rfl, hc4.same s46, _, rfl, _, rfl, cat_at (Same.tp s46 hb4) (Same.tp s46 ht4) ?_ fun H7 p7 s7 hcat => ?_⟩
  · rw [List.length_map, List.length_map]
    have : (1000 : Nat) ≤ sizeLine := by decide
    omega
  have s47 := s46.trans s7
  have hcat : SqT K H7 p7 (iL (beg (dm * B) r fi ++ l)) := by
    unfold iL
    rw [List.map_append]
    exact hcat
  refine ⟨sp, dm, B, r.length, p7, beg (dm * B) r fi ++ l, rfl, hsp4.same s47, hle, h8, hm, hcat, fun x hx => (List.mem_append.mp hx).elim (bb x) (lb x), by rw [List.length_append]; omega, fun g v u e H8 t8 a8 s8 et8 hv8 => ⟨t8, _, rfl, SqT.of et8, rfl, _, _, rfl, _, _, rfl, _, _, rfl, rfl, ?_⟩⟩
  obtain ⟨gb, wb, ub, eb2, h1, h2, h3, h4, h5, h6, h7⟩ := read_behind hR hf lb
  have e := eb2.symm.trans e
  injection e with q1 q2
  injection q2 with q2 q3
  subst q1
  subst q2
  subst q3
  have s48 := s47.trans s8
  refine ⟨_, rfl, _, rfl, _, _, rfl, rfl, _, rfl, ?_⟩
  rw [decide_eq_false (show ¬ (gb : Int) < (fi : Int) by omega)]
  refine iteF ⟨_, rfl, .ref b, rfl, b, _, rfl, .inr (Same.tp s48 hb4), _, _, rfl, rfl, _, rfl, ?_⟩
  rw [decide_eq_false (show ¬ (ub : Int) < ((iL (beg (dm * B) r fi)).length : Int) by rw [List.length_map]; omega)]
  have wl := len_le_tot h5
  refine iteF ⟨_, rfl, _, rfl, _, rfl, _, _, rfl, rfl, a8, wb, gb - fi, 2 ^ fi, congrArg (fun z => [V.ref a8, V.int z]) (nn_sub h1), hv8, by rw [← Nat.pow_add, show fi + (gb - fi) = gb by omega]; exact h5, by omega, by omega, fun H9 p9 s9 hv9 => ?_⟩
  have s49 := s48.trans s9
  refine ⟨_, rfl, c, dx, _, rfl, s49 _ _ ec4, fC_view _ _, _, rfl, c, sp, r, dm, B, fi, rfl, hc4.same s49, hsp4.same s49, hle, hf, hR, h8, fun H10 p10 s10 hv10 => ⟨dV _, dV _, dp_dV (hv9.same s10), dp_dV hv10.at_, dV_shaped _, dV_shaped _, _, rfl, ?_⟩⟩
  rw [dV_eqv, h7, decide_eq_true rfl]
  refine iteF ?_
  have s410 := s49.trans s10
  -- whole
  refine ⟨_, rfl, _, rfl, c, dx, _, rfl, s410 _ _ ec4, fC_many _ _, c, sp, r, rfl, hc4.same s410, sp, dm, B, r.length, rfl, hsp4.same s410, hle, ?_⟩
  -- what it is worth
  have hworth := beg_worth hR fi hf
  have WL : W (2 ^ (dm * B - fi)) (vw (dm * B) r fi) < 2 ^ 81 := W_lt81 (pow_le1024 (by omega)) (by rw [tot_vw]; exact h8)
  have chL : ch (2 ^ (dm * B)) r.length < 2 ^ 81 := ch_lt81 (pow_le1024 hle) h8
  have pL : 2 ^ (beg (dm * B) r fi).length < 2 ^ 831 := Nat.pow_lt_pow_right (by decide) (by omega)
  have fL : 2 ^ (2 * fi) < 2 ^ 21 := Nat.pow_lt_pow_right (by decide) (by omega)
  refine ⟨.ref b, rfl, b, _, rfl, .inr (Same.tp s410 hb4), (beg (dm * B) r fi).length, by rw [List.length_map], by omega, ?_⟩
  refine ⟨_, rfl, _, rfl, _, rfl, c, dx, _, rfl, s410 _ _ ec4, fC_view _ _, _, rfl, c, sp, r, dm, B, fi, rfl, hc4.same s410, hsp4.same s410, hle, hf, hR, h8, fun H11 p11 s11 hv11 => ?_⟩
  have s411 := s410.trans s11
  refine ⟨sp, dm, B, fi, p11, vw (dm * B) r fi, rfl, hsp4.same s411, hle, hf, hv11.at_, by rw [tot_vw]; exact h8, _, _, rfl, rfl, wide_mul (a := 831) (b := 81) pL WL (by decide) (by decide) (by decide), _, rfl, _, rfl, _, _, rfl, rfl, .inl (by decide), 2 * fi, rfl, by omega, _, _, rfl, rfl, wide_mul (a := 81) (b := 21) chL fL (by decide) (by decide) (by decide), _, _, rfl, rfl, _, rfl, ?_⟩
  rw [decide_eq_false (show ¬ ((ch (2 ^ (dm * B)) r.length : Nat) : Int) * ((2 ^ (2 * fi) : Nat) : Int) < ((2 ^ (beg (dm * B) r fi).length : Nat) : Int) * ((W (2 ^ (dm * B - fi)) (vw (dm * B) r fi) : Nat) : Int) from fun z => Nat.lt_irrefl _ (Nat.lt_of_lt_of_le (Int.ofNat_lt.mp z) hworth))]
  refine iteF ?_
  -- bits == ()
  refine ⟨.ref b, rfl, Nat.zero_le _, fun e0 ne => ⟨dI _, dI [], dp_dI (Same.tp (s411.trans (same_new ne)) hb4), dp_dI (SqT.of upd_same), dI_shaped _, dI_shaped _, _, rfl, ?_⟩⟩
  have s412 : Same (upd H3 t (.tup (iL l))) (upd H11 e0 (.tup [])) := s411.trans (same_new ne)
  rw [dI_eqv]
  by_cases cn : beg (dm * B) r fi = []
  · rw [decide_eq_true cn]
    exact iteT (fin _ s412)
  rw [decide_eq_false cn]
  refine iteF ?_
  -- the third reading
  refine ⟨_, rfl, _, rfl, c, dx, _, rfl, s412 _ _ ec4, fC_many _ _, c, sp, r, rfl, hc4.same s412, .ref b, rfl, 1, rfl, -1, rfl, slice_at (Same.tp s412 hb4) fun H13 p13 s13 hcut => ?_⟩
  have s413 := s412.trans s13
  have hcut : SqT K H13 p13 (iL (beg (dm * B) r fi).dropLast) := by
    rw [cut_last] at hcut
    unfold iL
    rw [List.map_dropLast]
    exact hcut
  refine ⟨sp, dm, B, r.length, p13, (beg (dm * B) r fi).dropLast, rfl, hsp4.same s413, hle, h8, hm, hcut, fun x hx => bb x (List.dropLast_subset _ hx), by rw [List.length_dropLast]; omega, fun g v u e H14 t14 a14 s14 et14 hv14 => ⟨t14, _, rfl, SqT.of et14, rfl, _, _, rfl, _, _, rfl, _, _, rfl, rfl, ?_⟩⟩
  obtain ⟨gl, ul, el, hlt, _⟩ := read_less hR fi hf cn
  have e := el.symm.trans e
  injection e with q1 q2
  subst q1
  refine ⟨_, rfl, _, rfl, _, _, rfl, rfl, _, rfl, ?_⟩
  rw [decide_eq_true (show (gl : Int) < (fi : Int) by omega)]
  exact iteT (fin H14 (s413.trans s14))
end
end FW

set_option Elab.async false
set_option linter.all false
set_option maxRecDepth 100000
set_option maxHeartbeats 4000000
/-! _law_is_only_own. -/
namespace FW
open PySem L2 L2H FH FC HotX
theorem op_neK {X : Cx} {K : PySem.W.Frag} (hK : X.K = K) (h : X.A.units + 64 < cLine) : OpR X (compareOp .NotEq) (rNeD K) := by
  subst hK
  exact op_neD h
theorem len_K {X : Cx} {K : PySem.W.Frag} (hK : X.K = K) : CallR X (.builtin "len") (fun xs H Q => ∃ p ys, xs = [.ref p] ∧ (SqL K H p ys ∨ SqT K H p ys) ∧ Q (.int (ys.length : Int)) H) := by
  subst hK
  exact call_len_seq
theorem takes_none {X : Cx} : L2N.Takes X (fun _ _ _ _ => False) := fun u s' ⟨_, _, _, _, _, _, _, _, _, _, _, _, _, _, _, _, w⟩ => w.elim
section
variable {P : Program} {w : World} {K : PySem.W.Frag} {mg : Str → Option Value} {base : Heap} {CS CC CB CE fIb cc cda : Addr}
def spLio (K : PySem.W.Frag) (CS : Addr) : Sp := fun vs H Q _ => ∃ (p : Addr) (dm B many : Nat) (b : Addr) (bits : List Nat), vs = [.ref p, iN many, .ref b] ∧ SpAt CS H p dm B ∧ SpOk dm B ∧ many ≤ 8 ∧ many ≤ 2 ^ (dm * B) ∧ SqT K H b (iL bits) ∧ (∀ x ∈ bits, x < 2) ∧ bits.length ≤ 1000 ∧ ∀ H', Same H H' → Q (.bl true) H'
theorem ok_lio {f fR fW fG fL : Addr} {fd fdR fdW fdG fdL : FuncData} (F : Fun K "_law_is_only_own" "_law_is_only_own" t_lio f fd) (TS : TxS K CS) (BB : Bl mg) (TB : FX.BadTxt K mg CB CE fIb cc cda)
    (GR : FnQ P w K mg base 5 fR fdR p_rdc (spRdc K CS)) (gR : mg "read_code" = some (.ref fR)) (kR : PySem.W.keepIn K (.ref fR) = true) (bR : Binds K fdR p_rdc [])
    (GW : FnOk P w K mg base (L2N.CX P w) 8 fW fdW p_cwh (spCwh K CS CB)) (gW : mg "check_whole" = some (.ref fW)) (kW : PySem.W.keepIn K (.ref fW) = true) (bW : Binds K fdW p_cwh [])
    (GG : FnQ P w K mg base 6 fG fdG p_bgn (spBgn K CS CC)) (gG : mg "beginning" = some (.ref fG)) (kG : PySem.W.keepIn K (.ref fG) = true) (bG : Binds K fdG p_bgn [])
    (GL : FnQ P w K mg base 7 fL fdL p_lco2 (spLcf K CS CC)) (gL : mg "_law_cloud_of" = some (.ref fL)) (kL : PySem.W.keepIn K (.ref fL) = true) (bL : Binds K fdL p_lco2 []) : FnOk P w K mg base CX0 9 f fd p_lio (spLio K CS) := by
  refine F.ok sc_lio (fun vs H Q E h => ?_) (fun cdv A outer s H vs Q E hr0 h => ?_)
  · obtain ⟨p, dm, B, many, b, bits, rfl, _⟩ := h
    rfl
  obtain ⟨p, dm, B, many, b, bits, rfl, hp, ok, h8, hm, hb, bt, bl, q⟩ := h
  have nd := sc_lio.nd
  have hr : RoomH 8 (A.deeper (PyProof.Rows.envOfC "_law_is_only_own" (defScope t_lio) s.heap.objs.size f cdv)) := ⟨hr0.dp, hr0.un⟩
  have hr7 := hr.mono (show 7 ≤ 8 by decide)
  have hr6 := hr.mono (show 6 ≤ 8 by decide)
  have fx : Fine (cxOf CX0 P w K mg base n_lio "_law_is_only_own" (defScope t_lio) f cdv A outer s H E).nox := .inl rfl
  refine ⟨_, pss_cons (ps_asg (qe_call GR (hr.mono (by decide)) fx (by rfl) gR kR bR (pa_cons (pv 0) (pa_cons (pv 1) (pa_cons (pv 2) pa_nil)))) (qg_tup fx (pgs_cons (pg_name (i := 3) nd rfl (.inl rfl)) (pgs_cons (pg_name (i := 4) nd rfl (.inl rfl)) (pgs_cons (pg_name (i := 5) nd rfl (.inl rfl)) pgs_nil)))))
    (pss_cons (L2N.ps_try_as (i := 7) rfl rfl nd rfl rfl ⟨rfl, by decide, .inl TB.gC⟩ takes_none
        (fun W pn xe tk _ => pss_one (ps_set (i := 6) nd rfl (.inl rfl) (pe_callS GW hr0 (by rfl) gW kW bW (fun σ => L2N.passAt tk σ) (pa_cons (pv 0) (pa_cons (pv 1) (pa_cons (pv 2) pa_nil))))))
        (fun a oe cls d pn hz hf => by
          have fs : Fine ((cxOf CX0 P w K mg base n_lio "_law_is_only_own" (defScope t_lio) f cdv A outer s H E).nox.suite a ((a, oe) :: pn)) := by
            obtain ⟨vs, hvs⟩ := hf
            exact .inr ⟨(a, oe), ⟨rfl, vs, hvs, hz.2.2 vs hvs⟩, List.mem_cons_self⟩
          have hrs : RoomH 8 ((cxOf CX0 P w K mg base n_lio "_law_is_only_own" (defScope t_lio) f cdv A outer s H E).nox.suite a ((a, oe) :: pn)).A := ⟨hr.dp, hr.un⟩
          exact pss_cons (ps_if (PW.pt (pw_or (pt_cmpR op_lt (pv 3) (pe_fldK (K := K) rfl (pv 0) rfl) (nomark _)) (pw_or1 (pt_cmpR op_lt (pv 5) (pe_callB (len_K (K := K) rfl) (by rfl) BB.n_len PySem.boot_len (pa_cons (pv 2) pa_nil)) (nomark _))))) (pss_one (ps_ret pe_bl)) pss_nil)
            (pss_one (ps_ret (pe_cmpR (op_neK (K := K) rfl (hu64 hrs)) (qe_call GG (hrs.mono (by decide)) fs (by rfl) gG kG bG (pa_cons (qe_call GL (hrs.mono (by decide)) fs (by rfl) gL kL bL (pa_cons (pv 0) (pa_cons (pv 4) pa_nil))) (pa_cons (pe_fldK (K := K) rfl (pv 0) rfl) pa_nil))) (pv 2) (nomark _))))))
    (pss_one (ps_ret (pe_and (pe_cmpR (op_eqD (hu64 hr)) (pv 6) (pv 4) (nomark _)) (pe_one (pe_cmpR (op_eqD (hu64 hr)) (qe_call GG hr6 fx (by rfl) gG kG bG (pa_cons (qe_call GL hr7 fx (by rfl) gL kL bL (pa_cons (pv 0) (pa_cons (pv 4) pa_nil))) (pa_cons (pe_fld (pv 0) rfl) pa_nil))) (pv 2) (nomark _))))))), ?_⟩
  obtain ⟨dx, ep⟩ := id hp
  have d3 := ok.d3
  have hle := ok.le
  refine ⟨_, rfl, _, rfl, _, rfl, p, dm, B, many, b, bits, rfl, hp, hle, h8, hm, hb, bt, bl, fun g v u e H1 t a s1 et hv => ⟨t, _, rfl, SqT.of et, rfl, _, _, rfl, _, _, rfl, _, _, rfl, rfl, ?_⟩⟩
  obtain ⟨gle, ule, hA, htot, hone⟩ := rd_full hm bt e
  have hlen : v.length ≤ 8 := by
    have := len_le_tot hA
    omega
  refine ⟨_, rfl, _, rfl, _, rfl, p, dm, B, many, b, bits, rfl, hp.same s1, ok.d0, ok.b0, hle, by omega, ok.b10, h8, hm, Same.tp s1 hb, bt, bl, fun g2 v2 u2 e2 => ?_⟩
  have e3 := e.symm.trans e2
  injection e3 with q1 q2
  injection q2 with q2 q3
  subst q1
  subst q2
  subst q3
  refine ⟨fun bad H2 d s2 ed => ⟨true, TB.te, fun _ x hx => ?_, fun q => nomatch q⟩, fun c1 c2 c3 H2 a2 s2 hv2 => ?_⟩
  · have s12 := s1.trans s2
    refine ⟨_, rfl, _, rfl, p, CS, dx, _, _, rfl, s12 _ _ ep, TS.cl, TS.nDepth, fS_depth _ _, _, _, rfl, rfl, _, rfl, ?_⟩
    by_cases c1 : g < dm * B
    · rw [decide_eq_true (show (g : Int) < ((dm * B : Nat) : Int) from Int.ofNat_lt.mpr c1)]
      exact iteT (iteT (q H2 s12))
    rw [decide_eq_false (show ¬ (g : Int) < ((dm * B : Nat) : Int) from fun z => c1 (Int.ofNat_lt.mp z))]
    have eg : g = dm * B := by omega
    refine iteF ⟨_, rfl, .ref b, rfl, b, _, rfl, .inr (Same.tp s12 hb), _, _, rfl, rfl, _, rfl, ?_⟩
    rw [show ((iL bits).length : Int) = (bits.length : Int) by rw [List.length_map]]
    by_cases c2 : u < bits.length
    · rw [decide_eq_true (show (u : Int) < (bits.length : Int) from Int.ofNat_lt.mpr c2)]
      exact iteT (q H2 s12)
    rw [decide_eq_false (show ¬ (u : Int) < (bits.length : Int) from fun z => c2 (Int.ofNat_lt.mp z))]
    have c3 : beg (dm * B) (v.map (·.1)) (dm * B) ≠ bits := by
      rcases bad with h | h | h
      · exact absurd h c1
      · exact absurd h c2
      · exact h
    have hA' := hA
    rw [eg] at hA'
    refine iteF ⟨_, rfl, .ref a, rfl, p, a, dm, B, v, rfl, hp.same s12, ok.d0, ok.b0, hle, by omega, ok.b10, hv.same s2, hA', hlen, fun H3 c s3 hc => ?_⟩
    have s13 := s12.trans s3
    refine ⟨_, rfl, p, CS, dx, _, _, rfl, s13 _ _ ep, TS.cl, TS.nDepth, fS_depth _ _, c, p, v.map (·.1), dm, B, dm * B, rfl, hc, hp.same s13, hle, Nat.le_refl _, hA'.row, by rw [List.length_map]; exact hlen, fun H4 l s4 el => ?_⟩
    have s14 := s13.trans s4
    refine ⟨.ref b, rfl, dI _, dI bits, dp_dI (SqT.of el), dp_dI (Same.tp s14 hb), dI_shaped _, dI_shaped _, ?_⟩
    rw [dI_eqv, decide_eq_false c3]
    exact q H4 s14
  · have s12 := s1.trans s2
    have hA' := hA
    rw [c1] at hA'
    refine ⟨_, rfl, _, rfl, dV _, dV _, dp_dV hv2, dp_dV (hv.same s2), dV_shaped _, dV_shaped _, _, rfl, ?_⟩
    rw [dV_eqv, decide_eq_true rfl]
    refine iteT ⟨_, rfl, .ref a, rfl, p, a, dm, B, v, rfl, hp.same s12, ok.d0, ok.b0, hle, by omega, ok.b10, hv.same s2, hA', hlen, fun H3 c s3 hc => ?_⟩
    have s13 := s12.trans s3
    refine ⟨_, rfl, p, CS, dx, _, _, rfl, s13 _ _ ep, TS.cl, TS.nDepth, fS_depth _ _, c, p, v.map (·.1), dm, B, dm * B, rfl, hc, hp.same s13, hle, Nat.le_refl _, hA'.row, by rw [List.length_map]; exact hlen, fun H4 l s4 el => ?_⟩
    have s14 := s13.trans s4
    refine ⟨.ref b, rfl, dI _, dI bits, dp_dI (SqT.of el), dp_dI (Same.tp s14 hb), dI_shaped _, dI_shaped _, ?_⟩
    rw [dI_eqv, decide_eq_true c3]
    exact q H4 s14
end
end FW

set_option Elab.async false
set_option linter.all false
set_option maxRecDepth 100000
set_option maxHeartbeats 4000000
/-! enumerate of a tuple, where nothing is handled. -/
namespace FN
open PySem PySem.Spec PyProof.Rows L2 L2H FH FC HotX
section
variable {prog : Program} {w : World} {A : Around} {E : Value → Shared → Prop} {s : Shared}
theorem meets_one {v : Value} {o : Obj} {G : Heap → Prop} (B : Begins v o G) :
    Meets (Builtin.«enumerate.__new__» ⟨[.type "enumerate", v], []⟩) (fun _ R s => G s.heap ∧
      R (.ok (.ret (.ref (s.heap.push o).objs.size))) { s with heap := (s.heap.push o).push { cls := .type "enumerate", data := .fields #[.none, .bool false, .ref s.heap.objs.size, rawInt 0, .none, .none] } }) :=
  .of_wp fun prog w A R s h => by
    obtain ⟨hp, g, dr, tk, os⟩ := s
    obtain ⟨h1, hR⟩ := h
    have sub := sub_enumerate
    have begin_ : ∀ {A' : Around} {E' : Value → Shared → Prop} {Q' : Value → Shared → Prop}, Q' (.ref hp.objs.size) ⟨hp.push o, g, dr, tk, os⟩ → wpAny (model prog w) A' (pyIter v) Q' E' ⟨hp, g, dr, tk, os⟩ :=
      fun q => B.iter prog w _ _ ⟨hp, g, dr, tk, os⟩ _ h1 q
    wp_walk using begin_
    refine wpAny_stack_any fun st => wpAny_pure ?_
    split
    · rename_i c _ _ _ _ _
      cases (c == Value.type "enumerate")
      · wp_walk using begin_
        exact ⟨_, rfl, hR⟩
      · wp_walk using begin_
        exact ⟨_, rfl, hR⟩
    · wp_walk using begin_
      exact ⟨_, rfl, hR⟩
/-- enumerate(t): two new objects -/
theorem enum_tup {t : Addr} {items : Array Value} {Q : Value → Shared → Prop} (ht : s.heap.IsTuple t items)
    (h : ∀ h', IsEnum h' (s.heap.objs.size + 1) s.heap.objs.size 0 .none → h'.IsTupleIter s.heap.objs.size t 0 → (∀ b o, s.heap.get? b = some o → h'.get? b = some o) → Q (.ref (s.heap.objs.size + 1)) { s with heap := h' }) :
    wpAny (model prog w) A (call (.type "enumerate") [.ref t]) Q E s := by
  refine callType_new F.called_enumerate (by decide) (F.typeCall_enumerate_1 _) (F.newCall_enumerate_1 _) (fun obj => F.args_object_init_2 obj _) F.entry_enumerate_new (meets_one (begins_tuple t items)) ⟨ht, ?_⟩
  have hz : (s.heap.push { cls := .type "tuple_iterator", data := .fields #[.ref t, .int 0 0] }).objs.size = s.heap.objs.size + 1 := Heap.size_push ..
  show _ ∧ _
  rw [hz]
  have he : IsEnum ((s.heap.push { cls := .type "tuple_iterator", data := .fields #[.ref t, .int 0 0] }).push { cls := .type "enumerate", data := .fields #[.none, .bool false, .ref s.heap.objs.size, rawInt 0, .none, .none] }) (s.heap.objs.size + 1) s.heap.objs.size 0 .none := by
    have z := Heap.get?_push_size (s.heap.push { cls := .type "tuple_iterator", data := .fields #[.ref t, .int 0 0] }) (o := { cls := .type "enumerate", data := .fields #[.none, .bool false, .ref s.heap.objs.size, rawInt 0, .none, .none] }) rfl
    rw [hz] at z
    exact z
  exact ⟨⟨_, he, rfl⟩, h _ he ⟨_, Heap.get?_push_of_some _ (Heap.get?_push_size _ rfl), rfl, rfl⟩ fun b o x => Heap.get?_push_of_some _ (Heap.get?_push_of_some _ x)⟩
end
/-- the tuple at a, each item in a new pair with its place -/
def Ien (K : PySem.W.Frag) (a : Addr) : It :=
  ⟨fun i H => ∃ (xs : List V) (x : V), SqT K H a xs ∧ xs[i]? = some x, fun i H v H' => ∃ T x, v = .ref T ∧ H T = none ∧ H' = upd H T (.tup [.int (i : Nat), x]) ∧ ∀ xs, SqT K H a xs → xs[i]? = some x, fun i H => ∃ xs : List V, SqT K H a xs ∧ xs.length = i⟩
theorem turn_tup {P : Program} {w : World} {K : PySem.W.Frag} {elts : List Expr} {kk : Nat} {tpos : Pos} (a e it : Addr) :
    Turn P w K (.Tuple elts kk tpos) (Ien K a) [e, it] e (fun i h => (∃ old, IsEnum h e it ((i : Nat) : Int) old) ∧ h.IsTupleIter it a i ∧ e ≠ it ∧ a ≠ it ∧ e ≠ a) where
  mem := by simp
  obj := fun i h st b hb => by
    obtain ⟨⟨old, he⟩, ⟨o, ho, hc, hd⟩, _⟩ := st
    have two : b = e ∨ b = it := by simpa using hb
    rcases two with z | z
    · rw [z]
      exact ⟨_, he, fun v q => nomatch q⟩
    · rw [z]
      exact ⟨o, ho, fun v q => by rw [hd] at q; cases q⟩
  keep := fun i h h' st k => let ⟨⟨old, he⟩, hi, hne⟩ := st; ⟨⟨old, k e (by simp) _ he⟩, hi.at fun o q => k it (by simp) o q, hne⟩
  item := by
    intro X hP hw hK hc i pins s σ H E I hf st hg
    subst hP hw hK
    obtain ⟨⟨old, he⟩, hit, hne, hai, hea⟩ := st
    obtain ⟨xs, x, hq, hx⟩ := hg
    obtain ⟨its, rv, p, hz⟩ := I.tuple hq
    obtain ⟨u, hu, ru⟩ := rv.get hx
    have p : s.heap.IsTuple a its.toArray := p
    have hel : e < s.heap.objs.size := Heap.lt_size he
    have hil : it < s.heap.objs.size := by obtain ⟨_, q, _⟩ := hit; exact Heap.lt_size q
    have hii : i < its.toArray.size := by
      have := (List.getElem?_eq_some_iff.mp hu).1
      simpa using this
    refine wpAny_pyNext_enum_itemD (Draws.tuple (A := X.A.in1) (show X.A.in1.handled = none from I.ok.hd hc) it a hai its.toArray) he ⟨hit, p⟩ hii hne (by simp [hne, hea]) fun y h' tk hy ho hit' hT hsz hk => ?_
    have ey : y = u := by
      have z : its.toArray[i]? = some u := by simpa using hu
      rw [z] at hy
      exact (Option.some.inj hy).symm
    subst ey
    refine ⟨_, rfl, wpAny_letOwnedTupleGo_enum (s := { s with heap := h', toks := tk + 1 }) ho fun h'' he' sb => ?_⟩
    have hT2 : h''.get? s.heap.objs.size = some { cls := .type "tuple", data := .seq #[.int i tk, y] } := (sb.2 _ (Nat.ne_of_gt hel)).trans hT
    have new : ObjOk X.prog X.w (upd H s.heap.objs.size (.tup [.int (i : Nat), x])) h'' s.heap.objs.size (.tup [.int (i : Nat), x]) :=
      ⟨by show 2 ≤ sizeLine; decide, [.int i tk, y], .cons ⟨_, rfl⟩ (.cons ru .nil), ⟨_, hT2, rfl, _, rfl⟩⟩
    have I1 : Inv X pins σ (upd H s.heap.objs.size (.tup [.int (i : Nat), x])) { s with heap := h'', toks := tk + 1 } :=
      I.turnedNew (ch := [e, it]) (t' := tk + 1) (fun b ob hb q => (sb.2 b (fun z => hb (by simp [z]))).trans (hk b ob (fun z => hb (by simp [z])) (fun z => hb (by simp [z])) q)) hf (Nat.le_refl _) new
    refine ⟨.ref s.heap.objs.size, _, I1, rfl, ⟨_, x, rfl, I.hok.fresh (Nat.le_refl _), rfl, fun ys hy => by rw [I.tuple_inj hy hq]; exact hx⟩, ⟨⟨y, ?_⟩, hit'.1.at fun o q => (sb.2 it (Ne.symm hne)).trans q, hne, hai, hea⟩, fun b hb => ?_⟩
    · have e1 : ((i + 1 : Nat) : Int) = (i : Int) + 1 := by omega
      rw [e1]
      exact he'
    · have hb' : b < s.heap.objs.size := by
        have two : b = e ∨ b = it := by simpa using hb
        rcases two with z | z
        · rw [z]
          exact hel
        · rw [z]
          exact hil
      rw [upd_ne (Nat.ne_of_lt hb')]
      exact (hf b hb).1
  done := by
    intro X hP hw hK hc i pins s σ H E I hf st hg
    subst hP hw hK
    obtain ⟨⟨old, he⟩, hit, hne, hai, hea⟩ := st
    obtain ⟨xs, hq, hx⟩ := hg
    obtain ⟨its, rv, p, hz⟩ := I.tuple hq
    have p : s.heap.IsTuple a its.toArray := p
    obtain ⟨f0, f1, f2, f3, f4, f5⟩ := hf it (by simp)
    have hl := rv.length
    have hn : its.toArray.size = i := by
      rw [List.size_toArray]
      omega
    subst hn
    exact wpAny_pyNext_enum_endD (Draws.tuple (A := X.A.in1) (show X.A.in1.handled = none from I.ok.hd hc) it a hai its.toArray) he ⟨hit, p⟩ fun h' eb => ⟨rfl, I.turned (t' := s.toks) (fun b o hb q => eb b o hb q) f0 f1 f3 f4 f5⟩
  self := fun A i s Q E st h => let ⟨⟨_, he⟩, _⟩ := st; wpAny_pyIter_enum he h
def iEnT (K : PySem.W.Frag) (ta : TA) : TI := fun σ H R => ta σ H fun vs H1 => ∃ a xs, vs = [.ref a] ∧ SqT K H1 a xs ∧ R (Ien K a) H1
theorem pi_enumT {X : Cx} {e : Expr} {ta : TA} {p pos tpos : Pos} {elts : List Expr} {kk : Nat} (hg : Gl X "enumerate") (hm : X.mg "enumerate" = none) (ha : PA X [e] ta) (hs : starEach [e] X.env = [(false, eval e X.env)] := by rfl) :
    PI X (.Tuple elts kk tpos) (.Call (.Name "enumerate" p) [e] [] pos) (iEnT X.K ta) := by
  refine ⟨fun pins s σ H R I h => ?_⟩
  refine Call_ (ld_blt I hg hm boot_enumerate (PyProof.Rows.callWith_type1 (thn (ha.run pos pins s σ H _ I h) fun us s1 ⟨vs, H1, I1, r1, q1⟩ => ?_) hs rfl))
  obtain ⟨a, xs, ex, hq, q⟩ := q1
  subst ex
  cases r1 with
  | cons r rr =>
    cases rr
    cases r
    obtain ⟨its, rv, ht, hz⟩ := I1.tuple hq
    have ht : s1.heap.IsTuple a its.toArray := ht
    have hal : a < s1.heap.objs.size := by
      obtain ⟨o, ho, _⟩ := id ht
      exact Heap.lt_size ho
    refine enum_tup ht fun h' he hit hk => wpAny_pyIter_enum he ?_
    have I2 : Inv X pins σ H1 { s1 with heap := h' } := I1.kept (t' := s1.toks) hk
    refine ⟨s1.heap.objs.size + 1, [s1.heap.objs.size + 1, s1.heap.objs.size], _, _, H1, rfl, I2, turn_tup a (s1.heap.objs.size + 1) s1.heap.objs.size, ⟨⟨.none, he⟩, hit, Nat.succ_ne_self _, Nat.ne_of_lt hal, Nat.ne_of_gt (Nat.lt_succ_of_lt hal)⟩, fun b hb => ?_, q⟩
    have two : b = s1.heap.objs.size + 1 ∨ b = s1.heap.objs.size := by simpa using hb
    have hle : s1.heap.objs.size ≤ b := by
      rcases two with z | z
      · rw [z]
        exact Nat.le_add_right _ _
      · rw [z]
        exact Nat.le_refl _
    exact I1.fpOk hle (I1.hok.fresh hle)
end FN

set_option Elab.async false
set_option linter.all false
set_option maxRecDepth 100000
set_option maxHeartbeats 8000000
/-! law. -/
namespace FW
open PySem L2 L2H FH FC HotX
def spLaw (K : PySem.W.Frag) : Sp := fun vs H Q _ => ∃ (a : Addr) (ns : List Int), vs = [.ref a] ∧ SqL K H a (ns.map V.int) ∧ ns.length ≤ 63 ∧ ∀ H', Q (.bl true) H'
section
variable {P : Program} {w : World} {K : PySem.W.Frag} {mg : Str → Option Value} {base : Heap} {CS CC CB CE fIb cc cda : Addr}
theorem ok_law {f fS fC fD fT fG fW fM fV fK fP fE fO : Addr} {fd fdS fdC fdD fdT fdG fdW fdM fdV fdK fdP fdE fdO : FuncData} (F : Fun K "law" "law" t_law f fd) (BB : Bl mg) (TS : TxS K CS) (TC : TxC K CC) (TB : FX.BadTxt K mg CB CE fIb cc cda)
    (GS : FnOk P w K mg base CX0 4 fS fdS p_lsp (spLsp K CS)) (gS : mg "_law_space" = some (.ref fS)) (kS : PySem.W.keepIn K (.ref fS) = true) (bS : Binds K fdS p_lsp [])
    (GC : FnQ P w K mg base 7 fC fdC p_lcl (spLcl K CS CC)) (gC : mg "_law_cloud" = some (.ref fC)) (kC : PySem.W.keepIn K (.ref fC) = true) (bC : Binds K fdC p_lcl [])
    (GD : FnQ P w K mg base 5 fD fdD p_cod (spCod K CS CC)) (gD : mg "code_of" = some (.ref fD)) (kD : PySem.W.keepIn K (.ref fD) = true) (bD : Binds K fdD p_cod [])
    (GT : FnOk P w K mg base CX0 7 fT fdT p_lit (spLit K CS CC)) (gT : mg "_law_is_told" = some (.ref fT)) (kT : PySem.W.keepIn K (.ref fT) = true) (bT : Binds K fdT p_lit [])
    (GG : FnQ P w K mg base 6 fG fdG p_bgn (spBgn K CS CC)) (gG : mg "beginning" = some (.ref fG)) (kG : PySem.W.keepIn K (.ref fG) = true) (bG : Binds K fdG p_bgn [])
    (GW : FnOk P w K mg base (L2N.CX P w) 8 fW fdW p_cwh (spCwh K CS CB)) (gW : mg "check_whole" = some (.ref fW)) (kW : PySem.W.keepIn K (.ref fW) = true) (bW : Binds K fdW p_cwh [])
    (GM : FnQ P w K mg base 1 fM fdM p_cmy (spCmy K CC)) (mM : Meth K CC "many" fM) (bM : Binds K fdM p_cmy [])
    (GV : FnQ P w K mg base 2 fV fdV p_cvw (spCvw K CS CC)) (mV : Meth K CC "view" fV) (bV : Binds K fdV p_cvw [])
    (GK : FnQ P w K mg base 2 fK fdK p_cmp (spCmp K CS)) (gK : mg "completions" = some (.ref fK)) (kK : PySem.W.keepIn K (.ref fK) = true) (bK : Binds K fdK p_cmp [])
    (GP : FnQ P w K mg base 1 fP fdP p_lpw spPow) (gP : mg "_law_power" = some (.ref fP)) (kP : PySem.W.keepIn K (.ref fP) = true) (bP : Binds K fdP p_lpw [])
    (GE : FnQ P w K mg base 2 fE fdE p_lta (spLta K)) (gE : mg "_law_take" = some (.ref fE)) (kE : PySem.W.keepIn K (.ref fE) = true) (bE : Binds K fdE p_lta [])
    (GO : FnOk P w K mg base CX0 9 fO fdO p_lio (spLio K CS)) (gO : mg "_law_is_only_own" = some (.ref fO)) (kO : PySem.W.keepIn K (.ref fO) = true) (bO : Binds K fdO p_lio []) : FnOk P w K mg base CX0 10 f fd p_law (spLaw K) := by
  refine F.ok sc_law (fun vs H Q E h => ?_) (fun cdv A outer s H vs Q E hr0 h => ?_)
  · obtain ⟨a, ns, rfl, _⟩ := h
    rfl
  obtain ⟨a, ns, rfl, ha, hl, q⟩ := h
  have nd := sc_law.nd
  have hr : RoomH 9 (A.deeper (PyProof.Rows.envOfC "law" (defScope t_law) s.heap.objs.size f cdv)) := ⟨hr0.dp, hr0.un⟩
  have hr1 := hr.mono (show 1 ≤ 9 by decide)
  have hr2 := hr.mono (show 2 ≤ 9 by decide)
  have hr5 := hr.mono (show 5 ≤ 9 by decide)
  have hr6 := hr.mono (show 6 ≤ 9 by decide)
  have hr7 := hr.mono (show 7 ≤ 9 by decide)
  have hm1 := hr0.mono (show 1 ≤ 9 by decide)
  have hm4 := hr0.mono (show 4 ≤ 9 by decide)
  have hm7 := hr0.mono (show 7 ≤ 9 by decide)
  have hm8 := hr0.mono (show 8 ≤ 9 by decide)
  have fx : Fine (cxOf CX0 P w K mg base n_law "law" (defScope t_law) f cdv A outer s H E).nox := .inl rfl
  have xf : XfC K CB := ⟨TB.ga, TB.gg, TB.exC, TB.hdC⟩
  refine ⟨_, pss_cons (ps_set (i := 1) nd rfl (.inr rfl) (pe_lst (pa_cons (pv 0) (pa_cons pe_int pa_nil))))
    (pss_cons (qs_for PassesOwn.never fx (qi_range1 (by rfl) BB.n_range (pa_cons pe_int pa_nil)) (pg_name (i := 2) nd rfl (.inl rfl))
      (pss_cons (ps_set (i := 3) nd rfl (.inl rfl) (pe_call GS hm4 (by rfl) gS kS bS .nil pass0 (pa_cons (pv 1) (pa_cons pe_int pa_nil))))
      (pss_cons (ps_set (i := 4) nd rfl (.inr rfl) (qe_call GC hr7 fx (by rfl) gC kC bC (pa_cons (pv 1) (pa_cons (pv 3) (pa_cons pe_int pa_nil)))))
      (pss_cons (ps_set (i := 5) nd rfl (.inr rfl) (qe_call GD hr5 fx (by rfl) gD kD bD (pa_cons (pv 4) pa_nil)))
      (pss_cons (ps_if (PW.pt (pw_or (pt_cmpR op_ne (pe_callB call_len_seq (by rfl) BB.n_len PySem.boot_len (pa_cons (pv 5) pa_nil)) (pe_fld (pv 3) rfl) (nomark _)) (pw_or1 (pt_not (pt_val (pe_callB (cq_all fx) (by rfl) BB.n_all (by decide +kernel) (pa_cons
          (qe_lc (own := [("_law_fineness", 6)]) (g := gName 6) (tt := tYes) fx nd (qi_range1 (by rfl) BB.n_range (pa_cons (pe_op op_add (pe_fld (pv 3) rfl) pe_int) pa_nil)) (blkOk_by (N := n_law) (sc := defScope t_law) (by decide +kernel)) (fun _ _ _ _ _ => pg_name (i := 6) nd rfl (.inl rfl)) (fun _ _ _ _ _ => pts_nil)
            (fun _ _ _ _ _ => pe_call GT hm7 (by rfl) gT kT bT .nil pass0 (pa_cons (pv 1) (pa_cons (pv 4) (pa_cons (pv 5) (pa_cons (pv 6) pa_nil)))))) pa_nil))))))) (pss_one (ps_ret pe_bl)) pss_nil)
      (pss_cons (ps_set (i := 7) nd rfl (.inr rfl) (qe_call GG hr6 fx (by rfl) gG kG bG (pa_cons (pv 4) (pa_cons (pe_fld (pv 3) rfl) pa_nil))))
      (pss_cons (ps_set (i := 8) nd rfl (.inl rfl) (pe_tup pa_nil))
      (pss_cons (qs_for PassesOwn.never fx (qi_tup (pv 5)) (pg_name (i := 9) nd rfl (.inl rfl)) (pss_one (ps_set (i := 8) nd rfl (.inl rfl) (pe_op op_catA (pv 8) (pv 9)))))
      (pss_cons (ps_if (PW.pt (pw_or (pt_cmpR (op_neD (hu64 hr)) (pv 7) (pv 8) (nomark _)) (pw_or1 (pt_cmpR (op_neD (hu64 hr)) (pe_callS GW hm8 (by rfl) gW kW bW (fun σ => L2N.passAt takes_none σ) (pa_cons (pv 3) (pa_cons (pe_meth0 (pv 4) TC.cl mM GM.ok hm1 bM .nil pass0) (pa_cons (pv 7) pa_nil))))
          (qe_meth (pv 4) TC.cl mV GV hr2 fx bV (pa_cons (pe_fld (pv 3) rfl) pa_nil)) (nomark _))))) (pss_one (ps_ret pe_bl)) pss_nil)
      (pss_cons (qs_for PassesOwn.never fx (qi_range1 (by rfl) BB.n_range (pa_cons (pe_fld (pv 3) rfl) pa_nil)) (pg_name (i := 6) nd rfl (.inl rfl))
        (pss_cons (qs_par (i := 10) (j := 11) fx nd rfl rfl (by decide) rfl rfl (pa_cons (qe_meth (pv 4) TC.cl mV GV hr2 fx bV (pa_cons (pv 6) pa_nil)) (pa_cons (qe_meth (pv 4) TC.cl mV GV hr2 fx bV (pa_cons (pe_op op_add (pv 6) pe_int) pa_nil)) pa_nil)) (by rfl))
        (pss_cons (ps_set (i := 12) nd rfl (.inl rfl) (pe_cmpR op_eq (qe_call GK hr2 fx (by rfl) gK kK bK (pa_cons (pv 3) (pa_cons (pv 6) (pa_cons (pv 10) pa_nil)))) (qe_call GK hr2 fx (by rfl) gK kK bK (pa_cons (pv 3) (pa_cons (pe_op op_add (pv 6) pe_int) (pa_cons (pv 11) pa_nil)))) (nomark _)))
        (pss_one (ps_if (PW.pt (pw_or (pt_cmpR op_ne (pv 12) (pe_cmpR (op_eqD (hu64 hr)) (pe_ix ix_tup (pv 5) (pv 6) (fun _ _ => rfl)) (pe_tup pa_nil) (nomark _)) (nomark _)) (pw_or1 (PW.pt (pw_and (pt_cmpR op_gt (pe_callB call_len_seq (by rfl) BB.n_len PySem.boot_len (pa_cons (pe_ix ix_tup (pv 5) (pv 6) (fun _ _ => rfl)) pa_nil)) pe_int (nomark _))
          (pw_and1 (pt_cmpR op_ge (pe_op op_mulW (qe_call GP hr1 fx (by rfl) gP kP bP (pa_cons (pe_callB call_len_seq (by rfl) BB.n_len PySem.boot_len (pa_cons (pe_ix ix_tup (pv 5) (pv 6) (fun _ _ => rfl)) pa_nil)) pa_nil)) (qe_call GK hr2 fx (by rfl) gK kK bK (pa_cons (pv 3) (pa_cons (pe_op op_add (pv 6) pe_int) (pa_cons (pv 11) pa_nil)))))
            (pe_op op_mulW pe_int (qe_call GK hr2 fx (by rfl) gK kK bK (pa_cons (pv 3) (pa_cons (pv 6) (pa_cons (pv 10) pa_nil))))) (nomark _)))))))) (pss_one (ps_ret pe_bl)) pss_nil)))))
      (pss_cons (ps_set (i := 13) nd rfl (.inl rfl) (pe_callTy call_tuple_of (by rfl) BB.n_tuple (by decide +kernel) (pa_cons
          (pe_lc (own := [("_law_at", 16), ("_law_bit", 17)]) (g := gTup K 2 (gCons (gName 16) (gCons (gName 17) gNil))) (tt := tYes) rfl nd (FN.pi_enumT (by rfl) BB.n_enumerate (pa_cons (pv 7) pa_nil)) (blkOk_by (N := n_law) (sc := defScope t_law) (by decide +kernel))
            (fun _ _ _ _ _ => pg_tup rfl (pgs_cons (pg_name (i := 16) nd rfl (.inl rfl)) (pgs_cons (pg_name (i := 17) nd rfl (.inl rfl)) pgs_nil))) (fun _ _ _ _ _ => pts_nil)
            (fun _ _ _ _ _ => pe_ifExp (pt_cmpR op_eq (pv 16) (qe_call GE hr2 (.inl (by rfl)) (by rfl) gE kE bE (pa_cons (pv 1) (pa_cons (pe_callB (len_K (K := K) rfl) (by rfl) BB.n_len PySem.boot_len (pa_cons (pv 7) pa_nil)) pa_nil))) (nomark _)) (pe_op op_sub pe_int (pv 17)) (pv 17))) pa_nil)))
      (pss_cons (ps_if (pt_not (pt_val (pe_call GO hr0 (by rfl) gO kO bO .nil pass0 (pa_cons (pv 3) (pa_cons (pe_meth0 (pv 4) TC.cl mM GM.ok hm1 bM .nil pass0) (pa_cons (pv 13) pa_nil)))))) (pss_one (ps_ret pe_bl)) pss_nil)
      (pss_one (qs_for PassesOwn.never fx (qi_tup (pe_tup (pa_cons (pe_op op_catA (pv 7) (pe_tup (pa_cons pe_int pa_nil))) (pa_cons (pe_slice sl_tupA (pv 7) po_none (po_some (pe_un un_neg pe_int))) pa_nil)))) (pg_name (i := 14) nd rfl (.inl rfl))
        (pss_one (ps_if (pt_cmpR (op_neD (hu64 hr)) (pv 14) (pv 7) (nomark _))
          (pss_one (L2N.ps_try_as (i := 15) rfl rfl nd rfl rfl ⟨rfl, by decide, .inl TB.gC⟩ takes_none
            (fun W pn xe tk _ => pss_cons (ps_expr (pe_callS GW hm8 (by rfl) gW kW bW (fun σ => L2N.passAt tk σ) (pa_cons (pv 3) (pa_cons (pe_meth0 (pv 4) TC.cl mM GM.ok hm1 bM .nil pass0) (pa_cons (pv 14) pa_nil))))) (pss_one (ps_ret pe_bl)))
            (fun a oe cls d pn hz hf => pss_one (ps_if (pt_cmpR op_gt (pe_xf xf TB.noN hz.zc hf (pv 15)) (pe_callB (len_K (K := K) rfl) (by rfl) BB.n_len PySem.boot_len (pa_cons (pv 7) pa_nil)) (nomark _)) (pss_one (ps_ret pe_bl)) pss_nil)))) pss_nil))))))))))))))))
    (pss_one (ps_ret pe_bl))), ?_⟩
  -- draw = [script, 0]
  refine ⟨.ref a, rfl, (by show 2 ≤ sizeLine; decide), fun d nd' => ?_⟩
  have hd0 : DrawAt K (upd H d (.lst [.ref a, .int 0])) d a ns := ⟨0, upd_same, (same_new nd').seq ha, hl⟩
  refine ⟨2, rfl, by decide, by decide, for_range (lo := 0) (n := 2) (fun _ σ H1 => DrawAt K H1 d a ns ∧ ∃ x2 x3 x4 x5 x6 x7 x8 x9 x10 x11 x12 x13 x14 x15 : Option V, σ = [some (.ref a), some (.ref d), x2, x3, x4, x5, x6, x7, x8, x9, x10, x11, x12, x13, x14, x15, none, none])
    ⟨hd0, none, none, none, none, none, none, none, none, none, none, none, none, none, none, rfl⟩ ?_ (fun σ H1 h => q H1)⟩
  rintro turn σ H1 _ ⟨hd1, x2, x3, x4, x5, x6, x7, x8, x9, x10, x11, x12, x13, x14, x15, rfl⟩
  -- space, cloud, code
  refine ⟨_, rfl, d, a, ns, rfl, hd1, fun H2 p dm B s2 hd2 hp2 ok => ?_⟩
  obtain ⟨acc2, ed2⟩ := hd2.lst
  refine ⟨_, rfl, _, rfl, d, a, ns, p, dm, B, 8, rfl, by decide, hd2, hp2, ok, fun H3 c r s3 hd3 hc3 hR h8 => ?_⟩
  have hp3 := s3.sp ed2 hp2
  have hle := ok.le
  have d3 := ok.d3
  refine ⟨_, rfl, c, p, r, dm, B, rfl, hc3, hp3, hle, hR, h8, fun H4 t ls s4 et hls4 => ?_⟩
  have hd4 := hd3.same s4
  have hc4 := hc3.same s4
  have hp4 := hp3.same s4
  obtain ⟨acc4, ed4⟩ := hd4.lst
  have lp := PySem.Paired.length hls4
  rw [List.length_map, List.length_range] at lp
  -- the first test
  obtain ⟨dxp, ep4⟩ := id hp4
  refine ⟨.ref t, rfl, t, _, rfl, .inr (SqT.of et), _, rfl, p, CS, dxp, _, _, rfl, ep4, TS.cl, TS.nDepth, fS_depth _ _, rfl, _, rfl, iteNS (by rw [List.length_map, lp]) ?_⟩
  refine ⟨_, rfl, p, CS, dxp, _, _, rfl, ep4, TS.cl, TS.nDepth, fS_depth _ _, _, _, rfl, rfl, ((dm * B + 1 : Nat) : Int), rfl, (lt62 (by omega)).1, (lt62 (by omega)).2, fun D1 nD1 => lc_range (lo := 0) (fun i H5 => Sd d H4 H5 ∧ DrawAt K H5 d a ns ∧ H5 D1 = some (.lst ((List.replicate i true).map V.bl))) ⟨sd_of (same_new nD1), hd4.same (same_new nD1), upd_same⟩ ?_ ?_⟩
  · rintro i H5 hi ⟨s5, hd5, e5⟩
    have hi : i < dm * B + 1 := hi
    have ndD : d ≠ D1 := ne_of_none ed4 nD1
    refine ⟨rfl, _, rfl, _, rfl, _, rfl, _, rfl, d, a, ns, c, p, r, dm, B, i, .ref t, ?_, hd5, s5.cl ed4 hc4, s5.sp ed4 hp4, ok, hR, h8, by omega, fun H6 s6 hd6 => ⟨_, s6 _ _ (Ne.symm ndD) e5, ?_, sd_at (s5.trans s6) nD1, ?_, ?_⟩⟩
    · exact congrArg (fun z => [V.ref d, V.ref c, V.ref t, V.int z]) (by omega)
    · rw [List.length_map, List.length_replicate]
      exact small1000 (by omega)
    · obtain ⟨c6, e6, _⟩ := hd6
      exact hd4.step (sd_at (s5.trans s6) nD1) ((upd_ne ndD).trans e6)
    · rw [upd_same, List.replicate_succ', List.map_append]
      rfl
  rintro H5 ⟨s5, hd5, e5⟩
  refine ⟨D1, List.replicate ((dm * B + 1 : Nat) : Int).toNat true, rfl, SqL.of e5, true, congrArg V.bl (by simp), iteF ?_⟩
  have hc5 := s5.cl ed4 hc4
  have hp5 := s5.sp ed4 hp4
  have ht5 : SqT K H5 t (ls.map V.ref) := s5.tp ed4 (SqT.of et)
  have hls5 := s5.pts ed4 hls4
  clear hc4 hp4 hls4 hc3 hp3 hp2
  obtain ⟨dxp, ep5⟩ := id hp5
  obtain ⟨dxc, rac, ec5, trc⟩ := id hc5
  have bl := beg_le hR hle h8 (Nat.le_refl (dm * B))
  have bb := beg_bit (dm * B) r (dm * B)
  have hm := row_le hR
  -- bits, joined
  refine ⟨_, rfl, _, rfl, p, CS, dxp, _, _, rfl, ep5, TS.cl, TS.nDepth, fS_depth _ _, c, p, r, dm, B, dm * B, rfl, hc5, hp5, hle, Nat.le_refl _, hR, h8, fun H6 b s6 eb => ⟨Nat.zero_le _, fun j nj => ?_⟩⟩
  have sj := same_new (o := .tup []) nj
  have s56 : Same H5 (upd H6 j (.tup [])) := s6.trans sj
  have hcs : ((List.range (dm * B)).map (FC.codeAt (dm * B) r)).length = dm * B := by rw [List.length_map, List.length_range]
  refine ⟨_, rfl, t, rfl, ⟨_, Same.tp s56 ht5⟩, for_tup (xs := ls.map V.ref) (fun i σ H7 => Same H5 H7 ∧ SqT K H7 b (iL (beg (dm * B) r (dm * B))) ∧ ∃ (j7 : Addr) (x9 : Option V), SqT K H7 j7 (iL (((List.range (dm * B)).map (FC.codeAt (dm * B) r)).take i).flatten) ∧ σ = [some (.ref a), some (.ref d), some (.int (0 + (turn : Int))), some (.ref p), some (.ref c), some (.ref t), x6, some (.ref b), some (.ref j7), x9, x10, x11, x12, x13, x14, x15, none, none])
    ⟨s56, Same.tp sj (SqT.of eb), j, x9, SqT.of upd_same, rfl⟩ (fun i σ H7 _ h => Same.tp h.1 ht5) ?_ ?_⟩
  · rintro i x σ H7 hi ⟨s7, hb7, j7, y9, hj7, rfl⟩
    obtain ⟨l, cd, rfl, hcd, hl7⟩ := pts_get (hls5.same s7) hi
    have hfl := flat_take_le ((List.range (dm * B)).map (FC.codeAt (dm * B) r)) (i + 1)
    rw [← beg_flat, take_flat hcd, List.length_append] at hfl
    refine ⟨.ref j7, rfl, .ref l, rfl, cat_at hj7 hl7 ?_ fun H8 j8 s8 hj8 => ⟨s7.trans s8, Same.tp s8 hb7, j8, some (.ref l), ?_, rfl⟩⟩
    · rw [List.length_map, List.length_map]
      have : (1000 : Nat) ≤ sizeLine := by decide
      omega
    · rw [take_flat hcd]
      unfold iL
      rw [List.map_append]
      exact hj8
  rintro σ H7 ⟨s7, hb7, j7, y9, hj7, rfl⟩
  rw [List.length_map, lp, List.take_of_length_le (by rw [hcs]; exact Nat.le_refl _), ← beg_flat] at hj7
  have ec7 := s7 _ _ ec5
  have ep7 := s7 _ _ ep5
  -- the second test
  refine ⟨.ref b, rfl, .ref j7, rfl, dI _, dI _, dp_dI hb7, dp_dI hj7, dI_shaped _, dI_shaped _, _, rfl, ?_⟩
  rw [dI_eqv, decide_eq_true rfl]
  refine iteF ?_
  have eall := read_all hR (rest := []) (fun b h => by cases h)
  rw [List.append_nil] at eall
  refine ⟨_, rfl, _, rfl, c, dxc, _, rfl, ec7, fC_many _ _, c, p, r, rfl, hc5.same s7, .ref b, rfl, p, dm, B, r.length, b, beg (dm * B) r (dm * B), rfl, hp5.same s7, ok.d0, ok.b0, hle, by omega, ok.b10, h8, hm, hb7, bb, by omega, fun g v u e => ?_⟩
  have e := eall.symm.trans e
  injection e with q1 q2
  injection q2 with q2 q3
  subst q1
  subst q2
  subst q3
  have hkeys : (vw (dm * B) r (dm * B)).map (·.1) = r := by rw [vw_last hR, ones_keys]
  refine ⟨fun bad => ?_, fun _ _ _ H8 a8 s8 hv8 => ?_⟩
  · exfalso
    rcases bad with h | h | h
    · omega
    · omega
    · rw [hkeys] at h
      exact h rfl
  have s78 := s7.trans s8
  refine ⟨_, rfl, c, dxc, _, rfl, s78 _ _ ec5, fC_view _ _, _, rfl, p, CS, dxp, _, _, rfl, s78 _ _ ep5, TS.cl, TS.nDepth, fS_depth _ _, c, p, r, dm, B, dm * B, rfl, hc5.same s78, hp5.same s78, hle, Nat.le_refl _, hR, h8, fun H9 p9 s9 hv9 => ⟨dV _, dV _, dp_dV (hv8.same s9), dp_dV hv9.at_, dV_shaped _, dV_shaped _, _, rfl, ?_⟩⟩
  rw [dV_eqv, decide_eq_true rfl]
  refine iteF ?_
  have s79 := s78.trans s9
  -- levels
  refine ⟨_, rfl, p, CS, dxp, _, _, rfl, s79 _ _ ep5, TS.cl, TS.nDepth, fS_depth _ _, _, rfl, (lt62 (by omega)).1, (lt62 (by omega)).2, for_range (lo := 0) (fun _ σ H10 => Same H9 H10 ∧ ∃ x6 x10 x11 x12 : Option V, σ = [some (.ref a), some (.ref d), some (.int (0 + (turn : Int))), some (.ref p), some (.ref c), some (.ref t), x6, some (.ref b), some (.ref j7), y9, x10, x11, x12, x13, x14, x15, none, none])
    ⟨Same.refl _, _, _, _, _, rfl⟩ ?_ ?_⟩
  · rintro i σ H10 hi ⟨s10, z6, z10, z11, z12, rfl⟩
    have hi : i < dm * B := hi
    have sA := s79.trans s10
    have ei : ((0 : Int) + (i : Int)) = (i : Int) := by omega
    refine ⟨_, rfl, c, dxc, _, rfl, sA _ _ ec5, fC_view _ _, _, rfl, c, p, r, dm, B, i, congrArg (fun z => [V.ref c, V.int z]) ei, hc5.same sA, hp5.same sA, hle, by omega, hR, h8, fun Ha pa sa hva => ?_⟩
    have sB := sA.trans sa
    refine ⟨_, rfl, c, dxc, _, rfl, sB _ _ ec5, fC_view _ _, _, rfl, _, _, rfl, rfl, c, p, r, dm, B, i + 1, congrArg (fun z => [V.ref c, V.int z]) (by omega), hc5.same sB, hp5.same sB, hle, hi, hR, h8, fun Hb pb sb hvb => ⟨_, _, rfl, ?_⟩⟩
    have sC := sB.trans sb
    have t8 : tot (vw (dm * B) r i) ≤ 8 := by rw [tot_vw]; exact h8
    have t8' : tot (vw (dm * B) r (i + 1)) ≤ 8 := by rw [tot_vw]; exact h8
    -- same
    refine ⟨_, rfl, _, rfl, _, rfl, p, dm, B, i, pa, vw (dm * B) r i, congrArg (fun z => [V.ref p, V.int z, V.ref pa]) ei, hp5.same sC, hle, by omega, (hva.same sb).at_, t8, _, rfl, _, rfl, _, _, rfl, rfl, _, rfl, p, dm, B, i + 1, pb, vw (dm * B) r (i + 1), congrArg (fun z => [V.ref p, V.int z, V.ref pb]) (by omega), hp5.same sC, hle, hi, hvb.at_, t8', rfl, ?_⟩
    -- the code of this level
    have hg : ((List.range (dm * B)).map (FC.codeAt (dm * B) r))[i]? = some (FC.codeAt (dm * B) r i) := by rw [List.getElem?_map, List.getElem?_range hi]; rfl
    obtain ⟨l, hl1⟩ : ∃ l, ls[i]? = some l := ⟨_, List.getElem?_eq_getElem (by omega)⟩
    have hx : (ls.map V.ref)[i]? = some (.ref l) := by rw [List.getElem?_map, hl1]; rfl
    obtain ⟨l', cd, e1, hcd, hl5⟩ := pts_get hls5 hx
    cases e1
    rw [hg] at hcd
    cases hcd
    have gi : atI (ls.map V.ref) (i : Int) = some (.ref l) := atI_nat hx
    refine ⟨_, rfl, .ref t, rfl, _, rfl, t, ls.map V.ref, (i : Int), .ref l, rfl, congrArg V.int ei, Same.tp sC ht5, gi, Nat.zero_le _, fun e0 ne => ?_⟩
    have sD := sC.trans (same_new (o := .tup []) ne)
    refine ⟨dI (FC.codeAt (dm * B) r i), dI [], dp_dI (Same.tp sD hl5), dp_dI (SqT.of upd_same), dI_shaped _, dI_shaped _, rfl, _, rfl, ?_⟩
    rw [dI_eqv]
    refine iteNS ?_ ?_
    · have hn := codeAt_nil hR hi
      by_cases z : FC.codeAt (dm * B) r i = []
      · rw [decide_eq_true z, decide_eq_true (congrArg iN (hn.mp z))]
      · rw [decide_eq_false z, decide_eq_false (show ¬ iN (W (2 ^ (dm * B - i)) (vw (dm * B) r i)) = iN (W (2 ^ (dm * B - (i + 1))) (vw (dm * B) r (i + 1))) from fun w => z (hn.mpr (Int.ofNat.inj (V.int.inj w))))]
    refine ⟨.ref t, rfl, _, rfl, t, ls.map V.ref, (i : Int), .ref l, rfl, congrArg V.int ei, Same.tp sD ht5, gi, l, _, rfl, .inr (Same.tp sD hl5), _, _, rfl, rfl, _, rfl, ?_⟩
    by_cases pos : 0 < (FC.codeAt (dm * B) r i).length
    · rw [decide_eq_true (show (0 : Int) < ((iL (FC.codeAt (dm * B) r i)).length : Int) by rw [List.length_map]; omega)]
      have cost := codeAt_cost hR hi pos
      have cl := code_le hR hle h8 hi
      have W1 : W (2 ^ (dm * B - i)) (vw (dm * B) r i) < 2 ^ 81 := W_lt81 (pow_le1024 (by omega)) t8
      have W2 : W (2 ^ (dm * B - (i + 1))) (vw (dm * B) r (i + 1)) < 2 ^ 81 := W_lt81 (pow_le1024 (by omega)) t8'
      have pL : 2 ^ (FC.codeAt (dm * B) r i).length < 2 ^ 84 := Nat.pow_lt_pow_right (by decide) (by omega)
      refine iteT ⟨.ref t, rfl, _, rfl, t, ls.map V.ref, (i : Int), .ref l, rfl, congrArg V.int ei, Same.tp sD ht5, gi, l, _, rfl, .inr (Same.tp sD hl5), (FC.codeAt (dm * B) r i).length, by rw [List.length_map], by omega, _, rfl, _, rfl, _, _, rfl, rfl, _, rfl, p, dm, B, i + 1, pb, vw (dm * B) r (i + 1), congrArg (fun z => [V.ref p, V.int z, V.ref pb]) (by omega), hp5.same sD, hle, hi, (hvb.same (same_new ne)).at_, t8',
        _, _, rfl, rfl, wide_mul (a := 84) (b := 81) pL W2 (by decide) (by decide) (by decide), _, rfl, _, rfl, _, rfl, p, dm, B, i, pa, vw (dm * B) r i, congrArg (fun z => [V.ref p, V.int z, V.ref pa]) ei, hp5.same sD, hle, by omega, ((hva.same sb).same (same_new ne)).at_, t8, _, _, rfl, rfl, wide_mul (i := 4) (a := 3) (b := 81) (by decide) W1 (by decide) (by decide) (by decide), _, _, rfl, rfl, _, rfl, ?_⟩
      rw [decide_eq_false (show ¬ (4 : Int) * ((W (2 ^ (dm * B - i)) (vw (dm * B) r i) : Nat) : Int) ≤ ((2 ^ (FC.codeAt (dm * B) r i).length : Nat) : Int) * ((W (2 ^ (dm * B - (i + 1))) (vw (dm * B) r (i + 1)) : Nat) : Int) from fun z => Nat.lt_irrefl _ (Nat.lt_of_lt_of_le cost (Int.ofNat_le.mp z)))]
      exact iteF ⟨s10.trans ((sa.trans sb).trans (same_new ne)), _, _, _, _, rfl⟩
    · rw [decide_eq_false (show ¬ (0 : Int) < ((iL (FC.codeAt (dm * B) r i)).length : Int) by rw [List.length_map]; omega)]
      exact iteF (iteF ⟨s10.trans ((sa.trans sb).trans (same_new ne)), _, _, _, _, rfl⟩)
  rintro σ H10 ⟨s10, z6, z10, z11, z12, rfl⟩
  have sA := s79.trans s10
  have hcA := hc5.same sA
  have hpA := hp5.same sA
  have hdA := hd5.same sA
  have hbA : SqT K H10 b (iL (beg (dm * B) r (dm * B))) := Same.tp (((s8.trans s9).trans s10)) hb7
  obtain ⟨accA, edA⟩ := hdA.lst
  -- turned
  refine ⟨.ref b, rfl, b, iL (beg (dm * B) r (dm * B)), rfl, hbA, fun D2 nD2 => ⟨fun i m H11 => m = (beg (dm * B) r (dm * B)).length - i ∧ i ≤ (beg (dm * B) r (dm * B)).length ∧ Sd d H10 H11 ∧ DrawAt K H11 d a ns ∧ ∃ l : List Nat, H11 D2 = some (.lst (iL l)) ∧ l.length = i ∧ ∀ x ∈ l, x < 2,
    ⟨_, rfl, Nat.zero_le _, sd_of (same_new nD2), hdA.same (same_new nD2), [], upd_same, rfl, (fun x h => by cases h)⟩, ?_⟩⟩
  rintro i m H11 ⟨rfl, hi, s11, hd11, l, eD, ll, lb⟩
  have hb11 := s11.tp edA hbA
  have ndD : d ≠ D2 := ne_of_none edA nD2
  by_cases hlt : i < (beg (dm * B) r (dm * B)).length
  · obtain ⟨bt, hbt⟩ : ∃ bt, (beg (dm * B) r (dm * B))[i]? = some bt := ⟨_, List.getElem?_eq_getElem hlt⟩
    have hx : (iL (beg (dm * B) r (dm * B)))[i]? = some (iN bt) := by unfold iL; rw [List.getElem?_map, hbt]; rfl
    have bt2 : bt < 2 := bb bt (List.mem_of_getElem? hbt)
    refine .inr ⟨⟨_, _, hb11, hx⟩, fun H' => Sd d H10 H' ∧ DrawAt K H' d a ns ∧ ∃ l : List Nat, H' D2 = some (.lst (iL l)) ∧ l.length = i + 1 ∧ ∀ x ∈ l, x < 2, fun H' h => ⟨_, by omega, rfl, hlt, h⟩, fun x H' y => ?_⟩
    obtain ⟨T, xi, rfl, nT, rfl, hy⟩ := y
    have ex : xi = iN bt := Option.some.inj ((hy _ hb11).symm.trans hx)
    subst ex
    have sT := same_new (o := .tup [.int (i : Nat), iN bt]) nT
    refine ⟨T, _, rfl, SqT.of upd_same, rfl, _, _, rfl, _, _, rfl, rfl, rfl, ?_⟩
    have fin : ∀ (v : Nat) (H12 : Hp), v < 2 → Sd d (upd H11 T (.tup [.int (i : Nat), iN bt])) H12 → DrawAt K H12 d a ns → ∃ acc, H12 D2 = some (.lst acc) ∧ acc.length < sizeLine ∧ (fun H' => Sd d H10 H' ∧ DrawAt K H' d a ns ∧ ∃ l : List Nat, H' D2 = some (.lst (iL l)) ∧ l.length = i + 1 ∧ ∀ x ∈ l, x < 2) (upd H12 D2 (.lst (acc ++ [iN v]))) := by
      intro v H12 v2 s12 hd12
      have sQ : Sd d H10 H12 := (s11.trans (sd_of sT)).trans s12
      refine ⟨_, s12 _ _ (Ne.symm ndD) (sT _ _ eD), by rw [List.length_map]; exact small1000 (by omega), sd_at sQ nD2, ?_, l ++ [v], ?_, ?_, ?_⟩
      · obtain ⟨c12, e12, _⟩ := hd12
        exact hdA.step (sd_at sQ nD2) ((upd_ne ndD).trans e12)
      · rw [upd_same]
        unfold iL
        rw [List.map_append]
        rfl
      · rw [List.length_append, ll]
        rfl
      · intro x hx
        rcases List.mem_append.mp hx with h | h
        · exact lb x h
        · rw [List.mem_singleton.mp h]
          exact v2
    refine ⟨_, rfl, _, rfl, .ref b, rfl, b, _, rfl, .inr (Same.tp sT hb11), d, a, ns, (beg (dm * B) r (dm * B)).length, congrArg (fun z => [V.ref d, V.int z]) (by rw [List.length_map]), by omega, hd11.same sT, fun H12 r12 s12 hd12 hr12 => ⟨rfl, _, rfl, ite2 (fun _ => ?_) (fun _ => ?_)⟩⟩
    · refine ⟨_, rfl, _, _, rfl, rfl, ?_⟩
      have e1 : (1 : Int) - (bt : Int) = ((1 - bt : Nat) : Int) := by omega
      have hf := fin (1 - bt) H12 (by omega) s12 hd12
      rw [show iN (1 - bt) = V.int ((1 : Int) - (bt : Int)) from congrArg V.int e1.symm] at hf
      exact hf
    · exact ⟨_, rfl, fin bt H12 bt2 s12 hd12⟩
  have ei : i = (beg (dm * B) r (dm * B)).length := by omega
  refine .inl ⟨⟨_, hb11, by rw [List.length_map]; exact ei.symm⟩, D2, _, rfl, .inl ⟨SqL.of eD, fun t2 nt2 => ?_⟩⟩
  have st2 := same_new (o := .tup (iL l)) nt2
  have hdB := hd11.same st2
  have sB : Sd d H10 (upd H11 t2 (.tup (iL l))) := s11.trans (sd_of st2)
  have hcB := sB.cl edA hcA
  have hpB := sB.sp edA hpA
  have hbB := sB.tp edA hbA
  have htB : SqT K (upd H11 t2 (.tup (iL l))) t2 (iL l) := SqT.of upd_same
  obtain ⟨dxB, raB, ecB, _⟩ := id hcB
  -- only own
  refine ⟨_, rfl, _, rfl, c, dxB, _, rfl, ecB, fC_many _ _, c, p, r, rfl, hcB, _, rfl, p, dm, B, r.length, t2, l, rfl, hpB, ok, h8, hm, htB, lb, by omega, fun H13 s13 => ⟨true, rfl, iteF ?_⟩⟩
  have hdC := hdB.same s13
  have hcC := hcB.same s13
  have hpC := hpB.same s13
  have hbC := Same.tp s13 hbB
  have ecC := s13 _ _ ecB
  -- the wrong ones
  refine ⟨_, rfl, (by show 1 ≤ sizeLine; decide), fun z nz => cat_at (Same.tp (same_new nz) hbC) (SqT.of upd_same) ?_ fun H14 w1 s14 hw1 => ⟨.ref b, rfl, 1, rfl, -1, rfl, slice_at (Same.tp ((same_new nz).trans s14) hbC) fun H15 w2 s15 hw2 => ⟨(by show 2 ≤ sizeLine; decide), fun tt ntt => ?_⟩⟩⟩
  · rw [List.length_map]
    show _ + 1 ≤ sizeLine
    have : (1000 : Nat) ≤ sizeLine := by decide
    omega
  have sD := (((same_new (o := .tup [.int 0]) nz).trans s14).trans s15).trans (same_new (o := .tup [.ref w1, .ref w2]) ntt)
  have hw1 : SqT K H14 w1 (iL (beg (dm * B) r (dm * B) ++ [0])) := by
    unfold iL
    rw [List.map_append]
    exact hw1
  have hw2 : SqT K H15 w2 (iL (beg (dm * B) r (dm * B)).dropLast) := by
    rw [cut_last] at hw2
    unfold iL
    rw [List.map_dropLast]
    exact hw2
  have hw1' := Same.tp (s15.trans (same_new (o := .tup [.ref w1, .ref w2]) ntt)) hw1
  have hw2' := Same.tp (same_new (o := .tup [.ref w1, .ref w2]) ntt) hw2
  have hbD := Same.tp sD hbC
  have hcD := hcC.same sD
  have hpD := hpC.same sD
  have hdD := hdC.same sD
  have ecD := sD _ _ ecC
  refine ⟨tt, rfl, ⟨_, SqT.of upd_same⟩, for_tup (xs := [.ref w1, .ref w2]) (fun _ σ H16 => Same (upd H15 tt (.tup [.ref w1, .ref w2])) H16 ∧ ∃ x14 x15 : Option V, σ = [some (.ref a), some (.ref d), some (.int (0 + (turn : Int))), some (.ref p), some (.ref c), some (.ref t), z6, some (.ref b), some (.ref j7), y9, z10, z11, z12, some (.ref t2), x14, x15, none, none])
    ⟨Same.refl _, _, _, rfl⟩ (fun i σ H16 _ h => Same.tp h.1 (SqT.of upd_same)) ?_ (fun σ H16 h => ?_)⟩
  · rintro i y σ H16 hi ⟨s16, y14, y15, rfl⟩
    obtain ⟨w, l2, rfl, hw, hcase⟩ : ∃ (w : Addr) (l2 : List Nat), y = .ref w ∧ SqT K H16 w (iL l2) ∧ (l2 = beg (dm * B) r (dm * B) ++ [0] ∨ l2 = (beg (dm * B) r (dm * B)).dropLast) := by
      match i, hi with
      | 0, hi => exact ⟨w1, _, (Option.some.inj hi).symm, Same.tp s16 hw1', .inl rfl⟩
      | 1, hi => exact ⟨w2, _, (Option.some.inj hi).symm, Same.tp s16 hw2', .inr rfl⟩
    have hbE := Same.tp s16 hbD
    refine ⟨.ref w, rfl, .ref b, rfl, dI l2, dI _, dp_dI hw, dp_dI hbE, dI_shaped _, dI_shaped _, _, rfl, ?_⟩
    rw [dI_eqv]
    by_cases cw : l2 = beg (dm * B) r (dm * B)
    · rw [decide_eq_true cw]
      exact iteF ⟨s16, _, _, rfl⟩
    rw [decide_eq_false cw]
    have l2b : ∀ x ∈ l2, x < 2 := by
      rcases hcase with h | h
      · rw [h]
        intro x hx
        rcases List.mem_append.mp hx with h | h
        · exact bb x h
        · rw [List.mem_singleton.mp h]
          decide
      · rw [h]
        exact fun x hx => bb x (List.dropLast_subset _ hx)
    have l2l : l2.length ≤ 1000 := by
      rcases hcase with h | h
      · rw [h, List.length_append]
        show _ + 1 ≤ 1000
        omega
      · rw [h, List.length_dropLast]
        omega
    -- what is read of it
    obtain ⟨gw, vw', uw, ew, hbad, hle2⟩ : ∃ gw vw' uw, rd (dm * B) 0 (v0 r.length) l2 = (gw, vw', uw) ∧ (gw < dm * B ∨ uw < l2.length) ∧ uw ≤ (beg (dm * B) r (dm * B)).length := by
      rcases hcase with h | h
      · have z := read_all hR (rest := [0]) (fun b h => by rw [List.mem_singleton.mp h]; decide)
        rw [← h] at z
        refine ⟨_, _, _, z, .inr ?_, Nat.le_refl _⟩
        rw [h, List.length_append]
        exact Nat.lt_succ_self _
      · have cn : beg (dm * B) r (dm * B) ≠ [] := fun z => cw (by rw [h, z]; rfl)
        obtain ⟨g, u, z, hg, hu⟩ := read_less hR (dm * B) (Nat.le_refl _) cn
        rw [← h] at z
        exact ⟨_, _, _, z, .inl hg, hu⟩
    refine iteT ⟨_, rfl, _, rfl, c, dxB, _, rfl, s16 _ _ ecD, fC_many _ _, c, p, r, rfl, hcD.same s16, .ref w, rfl, p, dm, B, r.length, w, l2, rfl, hpD.same s16, ok.d0, ok.b0, hle, by omega, ok.b10, h8, hm, hw, l2b, l2l, fun g v u e => ?_⟩
    have e := ew.symm.trans e
    injection e with q1 q2
    injection q2 with q2 q3
    subst q1
    subst q2
    subst q3
    refine ⟨fun _ H17 d17 s17 e17 => ⟨true, TB.te, fun _ x hx => ?_, fun q => nomatch q⟩, fun c1 c2 _ => ?_⟩
    · refine ⟨.ref x, rfl, rfl, rfl, d17, _, iN uw, rfl, e17, rfl, .ref b, rfl, b, _, rfl, .inr (Same.tp s17 hbE), _, _, rfl, rfl, _, rfl, ?_⟩
      rw [decide_eq_false (show ¬ ((iL (beg (dm * B) r (dm * B))).length : Int) < (uw : Int) by rw [List.length_map]; omega)]
      exact iteF ⟨s16.trans s17, _, _, rfl⟩
    · exfalso
      rcases hbad with h | h
      · omega
      · omega
  obtain ⟨s16, y14, y15, rfl⟩ := h
  exact ⟨hdD.same s16, _, _, _, _, _, _, _, _, _, _, _, _, _, _, rfl⟩
end
end FW

set_option Elab.async false
set_option linter.all false
set_option maxRecDepth 100000
set_option maxHeartbeats 0
namespace FW
open PySem L2 L2H FH HotX
theorem all_mk {w : World} {K : PySem.W.Frag} {h : Heap} {mg : Str → Option Value} {fa CC CS CB CE cc cda fIb f_isw f_pow f_cho f_bof f_nof f_cin f_cmy f_cvw f_cof f_cmp f_alc f_hal f_sah f_nar f_fha f_fby f_sho f_lco f_cod f_bgn f_lrd f_rdc f_cwh f_sin f_spt f_sck f_swv f_spo f_lnu f_lta f_lpi f_lpw f_lsp f_lpt f_lps f_lcl f_lca f_lit f_lio f_lco2 f_law : Addr} (X : K.In h) (G : h.Ns mainGlobals mg) (hfa : mg "law" = some (.ref fa))
    {od_isw an_isw od_pow an_pow od_cho an_cho od_bof an_bof od_nof an_nof od_cin an_cin od_cmy an_cmy od_cvw an_cvw od_cof an_cof od_cmp an_cmp od_alc an_alc od_hal an_hal od_sah an_sah od_nar an_nar od_fha an_fha od_fby an_fby od_sho an_sho od_lco an_lco od_cod an_cod od_bgn an_bgn od_lrd an_lrd od_rdc an_rdc od_cwh an_cwh od_sin an_sin od_spt an_spt od_sck an_sck od_swv an_swv od_spo an_spo od_lnu an_lnu od_lta an_lta od_lpi an_lpi od_lpw an_lpw od_lsp an_lsp od_lpt an_lpt od_lps an_lps od_lcl an_lcl od_lca an_lca od_lit an_lit od_lio an_lio od_lco2 an_lco2 od_law an_law : Option Addr} {sl_isw sl_pow sl_cho sl_bof sl_nof sl_cin sl_cmy sl_cvw sl_cof sl_cmp sl_alc sl_hal sl_sah sl_nar sl_fha sl_fby sl_sho sl_lco sl_cod sl_bgn sl_lrd sl_rdc sl_cwh sl_sin sl_spt sl_sck sl_swv sl_spo sl_lnu sl_lta sl_lpi sl_lpw sl_lsp sl_lpt sl_lps sl_lcl sl_lca sl_lit sl_lio sl_lco2 sl_law : Array (Option Value)} {oc_isw kV_isw dc_isw pm_isw cd_isw ct_isw oc_pow kV_pow dc_pow pm_pow cd_pow ct_pow oc_cho kV_cho dc_cho pm_cho cd_cho ct_cho oc_bof kV_bof dc_bof pm_bof cd_bof ct_bof oc_nof kV_nof dc_nof pm_nof cd_nof ct_nof oc_cin kV_cin dc_cin pm_cin cd_cin ct_cin oc_cmy kV_cmy dc_cmy pm_cmy cd_cmy ct_cmy oc_cvw kV_cvw dc_cvw pm_cvw cd_cvw ct_cvw oc_cof kV_cof dc_cof pm_cof cd_cof ct_cof oc_cmp kV_cmp dc_cmp pm_cmp cd_cmp ct_cmp oc_alc kV_alc dc_alc pm_alc cd_alc ct_alc oc_hal kV_hal dc_hal pm_hal cd_hal ct_hal oc_sah kV_sah dc_sah pm_sah cd_sah ct_sah oc_nar kV_nar dc_nar pm_nar cd_nar ct_nar oc_fha kV_fha dc_fha pm_fha cd_fha ct_fha oc_fby kV_fby dc_fby pm_fby cd_fby ct_fby oc_sho kV_sho dc_sho pm_sho cd_sho ct_sho oc_lco kV_lco dc_lco pm_lco cd_lco ct_lco oc_cod kV_cod dc_cod pm_cod cd_cod ct_cod oc_bgn kV_bgn dc_bgn pm_bgn cd_bgn ct_bgn oc_lrd kV_lrd dc_lrd pm_lrd cd_lrd ct_lrd oc_rdc kV_rdc dc_rdc pm_rdc cd_rdc ct_rdc oc_cwh kV_cwh dc_cwh pm_cwh cd_cwh ct_cwh oc_sin kV_sin dc_sin pm_sin cd_sin ct_sin oc_spt kV_spt dc_spt pm_spt cd_spt ct_spt oc_sck kV_sck dc_sck pm_sck cd_sck ct_sck oc_swv kV_swv dc_swv pm_swv cd_swv ct_swv oc_spo kV_spo dc_spo pm_spo cd_spo ct_spo oc_lnu kV_lnu dc_lnu pm_lnu cd_lnu ct_lnu oc_lta kV_lta dc_lta pm_lta cd_lta ct_lta oc_lpi kV_lpi dc_lpi pm_lpi cd_lpi ct_lpi oc_lpw kV_lpw dc_lpw pm_lpw cd_lpw ct_lpw oc_lsp kV_lsp dc_lsp pm_lsp cd_lsp ct_lsp oc_lpt kV_lpt dc_lpt pm_lpt cd_lpt ct_lpt oc_lps kV_lps dc_lps pm_lps cd_lps ct_lps oc_lcl kV_lcl dc_lcl pm_lcl cd_lcl ct_lcl oc_lca kV_lca dc_lca pm_lca cd_lca ct_lca oc_lit kV_lit dc_lit pm_lit cd_lit ct_lit oc_lio kV_lio dc_lio pm_lio cd_lio ct_lio oc_lco2 kV_lco2 dc_lco2 pm_lco2 cd_lco2 ct_lco2 oc_law kV_law dc_law pm_law cd_law ct_law : Value} {tk1 tk2 xtf : Tok}
    {xnm xq ynm yq : Str} {yN : Addr} {ybs ysub : List Value} {ysn : List Str} {yab yhd : Bool} {ycol : Option Bool} {ydd : Option Addr} {y0 y1 y2 y3 y5 : Option Value} {yi : String} {xN : Addr} {xbs xsub : List Value} {xsn : List Str} {xab : Bool} {xcol : Option Bool} {xdd : Option Addr} {x0 x1 x2 x3 x5 : Option Value} {xoc xdoc xpm xct ccl dcl : Value} {xod xan cld cdd : Option Addr} {xosl csl ccs : Array (Option Value)} {dvs : Array Value}
    (g_CC : PySem.W.nsIn K mainGlobals "Cloud" = some (some (.ref CC)))
    (pg_CC : PySem.W.plainGet K CC Str.empty = true)
    (hd_CC : PySem.W.hasDictIn K CC = true)
    (po_CC : PySem.W.plainOver K CC = true)
    (sa_CC : PySem.W.findIn K (.ref CC) "__setattr__" = some (some (.builtin "object.__setattr__")))
    (mk_CC : PySem.W.makesIn K CC = true)
    (kc_CC : PySem.W.keepIn K (.ref CC) = true)
    (n_CC_space : PySem.W.findIn K (.ref CC) "space" = some none)
    (n_CC_row : PySem.W.findIn K (.ref CC) "row" = some none)
    (g_CS : PySem.W.nsIn K mainGlobals "Space" = some (some (.ref CS)))
    (pg_CS : PySem.W.plainGet K CS Str.empty = true)
    (hd_CS : PySem.W.hasDictIn K CS = true)
    (po_CS : PySem.W.plainOver K CS = true)
    (sa_CS : PySem.W.findIn K (.ref CS) "__setattr__" = some (some (.builtin "object.__setattr__")))
    (mk_CS : PySem.W.makesIn K CS = true)
    (kc_CS : PySem.W.keepIn K (.ref CS) = true)
    (n_CS_dimensions : PySem.W.findIn K (.ref CS) "dimensions" = some none)
    (n_CS_bits : PySem.W.findIn K (.ref CS) "bits" = some none)
    (n_CS_depth : PySem.W.findIn K (.ref CS) "depth" = some none)
    (n_CS_side : PySem.W.findIn K (.ref CS) "side" = some none)
    (g_md : PySem.W.nsIn K mainGlobals "MOST_DIMENSIONS" = some (some (.int 3 tk1)))
    (g_mb : PySem.W.nsIn K mainGlobals "MOST_BITS" = some (some (.int 10 tk2)))
    (b_gC : PySem.W.nsIn K mainGlobals "BadCode" = some (some (.ref CB)))
    (b_cls : K.lookup CB = some (excClassObj xnm xq CB xN xbs (FX.bmB CE) true xsn xsub xab xcol xdd x0 x1 x2 x3 x5 "Exception.__new__"))
    (b_sa : PySem.W.findIn K (.ref CB) "__setattr__" = some (some (.builtin "object.__setattr__")))
    (b_ga : PySem.W.findIn K (.ref CB) "__getattribute__" = some (some (.builtin "BaseException.__getattribute__")))
    (b_gg : PySem.W.findIn K (.ref CB) "__getattr__" = some none)
    (b_noN : PySem.W.findIn K (.ref CB) "many" = some none)
    (b_iC : PySem.W.findIn K (.ref CB) "__init__" = some (some (.ref fIb)))
    (b_tC : PySem.W.typeIn K (.ref fIb) = some (.type "function"))
    (b_kC : PySem.W.keepIn K (.ref CB) = true)
    (b_exC : PySem.W.subIn K (.ref CB) (.type "BaseException") = some true)
    (b_tyC : PySem.W.typeIn K (.ref CB) = some (.type "type"))
    (b_hdC : PySem.W.hasDictIn K CB = true)
    (b_mC : PySem.W.mroIn K CB (.ref CB) = some true)
    (b_mE : PySem.W.mroIn K CB (.type "Exception") = some true)
    (b_mO : PySem.W.mroIn K CB (.type "object") = some true)
    (b_ecl : K.lookup CE = some (excClassObj ynm yq CE yN ybs ESX.exTail yhd ysn ysub yab ycol ydd y0 y1 y2 y3 y5 yi))
    (b_efi : PySem.W.findIn K (.ref CE) "__init__" = some (some (.builtin "Exception.__init__")))
    (b_tp : PySem.W.nsIn K cStatics "thirdparty.any" = some none)
    (b_su : PySem.W.nsIn K mainGlobals "super" = some none)
    (b_fn : K.lookup fIb = some ⟨xoc, xod, .func (PySem.W.ksFn "__init__" "BadCode.__init__" (defArgs FX.t_bad) (defBody FX.t_bad) (defScope FX.t_bad) .none .none xdoc xpm xan (.ref cda) xct cc), xosl⟩)
    (b_cd : PySem.W.codeIn K (.ref cda) "BadCode.__init__" = true)
    (b_cell : K.lookup cc = some ⟨ccl, cld, .cell (some (.ref CB)), csl⟩)
    (b_code : K.lookup cda = some ⟨dcl, cdd, .fields dvs, ccs⟩)
    (b_hvs : dvs[2]? = some (.str FW.progFile xtf))
    (z_isinstance : PySem.W.nsIn K mainGlobals "isinstance" = some none)
    (z_int : PySem.W.nsIn K mainGlobals "int" = some none)
    (z_bool : PySem.W.nsIn K mainGlobals "bool" = some none)
    (z_range : PySem.W.nsIn K mainGlobals "range" = some none)
    (z_min : PySem.W.nsIn K mainGlobals "min" = some none)
    (z_max : PySem.W.nsIn K mainGlobals "max" = some none)
    (z_tuple : PySem.W.nsIn K mainGlobals "tuple" = some none)
    (z_sorted : PySem.W.nsIn K mainGlobals "sorted" = some none)
    (z_dict : PySem.W.nsIn K mainGlobals "dict" = some none)
    (z_sum : PySem.W.nsIn K mainGlobals "sum" = some none)
    (z_len : PySem.W.nsIn K mainGlobals "len" = some none)
    (z_all : PySem.W.nsIn K mainGlobals "all" = some none)
    (z_abs : PySem.W.nsIn K mainGlobals "abs" = some none)
    (z_enumerate : PySem.W.nsIn K mainGlobals "enumerate" = some none)
    (a_isw : PySem.W.nsIn K mainGlobals "is_whole" = some (some (.ref f_isw)))
    (l_isw : K.lookup f_isw = some ⟨oc_isw, od_isw, .func (PySem.W.fnOf "is_whole" "is_whole" (defArgs t_isw) (defBody t_isw) (defScope t_isw) .none kV_isw dc_isw pm_isw an_isw cd_isw ct_isw), sl_isw⟩)
    (c_isw : PySem.W.codeIn K cd_isw "is_whole" = true)
    (k_isw : PySem.W.keepIn K (.ref f_isw) = true)
    (a_pow : PySem.W.nsIn K mainGlobals "power" = some (some (.ref f_pow)))
    (l_pow : K.lookup f_pow = some ⟨oc_pow, od_pow, .func (PySem.W.fnOf "power" "power" (defArgs t_pow) (defBody t_pow) (defScope t_pow) .none kV_pow dc_pow pm_pow an_pow cd_pow ct_pow), sl_pow⟩)
    (c_pow : PySem.W.codeIn K cd_pow "power" = true)
    (k_pow : PySem.W.keepIn K (.ref f_pow) = true)
    (a_cho : PySem.W.nsIn K mainGlobals "choices" = some (some (.ref f_cho)))
    (l_cho : K.lookup f_cho = some ⟨oc_cho, od_cho, .func (PySem.W.fnOf "choices" "choices" (defArgs t_cho) (defBody t_cho) (defScope t_cho) .none kV_cho dc_cho pm_cho an_cho cd_cho ct_cho), sl_cho⟩)
    (c_cho : PySem.W.codeIn K cd_cho "choices" = true)
    (k_cho : PySem.W.keepIn K (.ref f_cho) = true)
    (a_bof : PySem.W.nsIn K mainGlobals "bits_of" = some (some (.ref f_bof)))
    (l_bof : K.lookup f_bof = some ⟨oc_bof, od_bof, .func (PySem.W.fnOf "bits_of" "bits_of" (defArgs t_bof) (defBody t_bof) (defScope t_bof) .none kV_bof dc_bof pm_bof an_bof cd_bof ct_bof), sl_bof⟩)
    (c_bof : PySem.W.codeIn K cd_bof "bits_of" = true)
    (k_bof : PySem.W.keepIn K (.ref f_bof) = true)
    (a_nof : PySem.W.nsIn K mainGlobals "number_of" = some (some (.ref f_nof)))
    (l_nof : K.lookup f_nof = some ⟨oc_nof, od_nof, .func (PySem.W.fnOf "number_of" "number_of" (defArgs t_nof) (defBody t_nof) (defScope t_nof) .none kV_nof dc_nof pm_nof an_nof cd_nof ct_nof), sl_nof⟩)
    (c_nof : PySem.W.codeIn K cd_nof "number_of" = true)
    (k_nof : PySem.W.keepIn K (.ref f_nof) = true)
    (a_cin : PySem.W.findIn K (.ref CC) "__init__" = some (some (.ref f_cin)))
    (i_cin : PySem.W.isFn K (.ref f_cin) = true)
    (l_cin : K.lookup f_cin = some ⟨oc_cin, od_cin, .func (PySem.W.fnOf "__init__" "Cloud.__init__" (defArgs t_cin) (defBody t_cin) (defScope t_cin) .none kV_cin dc_cin pm_cin an_cin cd_cin ct_cin), sl_cin⟩)
    (c_cin : PySem.W.codeIn K cd_cin "Cloud.__init__" = true)
    (k_cin : PySem.W.keepIn K (.ref f_cin) = true)
    (a_cmy : PySem.W.findIn K (.ref CC) "many" = some (some (.ref f_cmy)))
    (i_cmy : PySem.W.isFn K (.ref f_cmy) = true)
    (l_cmy : K.lookup f_cmy = some ⟨oc_cmy, od_cmy, .func (PySem.W.fnOf "many" "Cloud.many" (defArgs t_cmy) (defBody t_cmy) (defScope t_cmy) .none kV_cmy dc_cmy pm_cmy an_cmy cd_cmy ct_cmy), sl_cmy⟩)
    (c_cmy : PySem.W.codeIn K cd_cmy "Cloud.many" = true)
    (k_cmy : PySem.W.keepIn K (.ref f_cmy) = true)
    (a_cvw : PySem.W.findIn K (.ref CC) "view" = some (some (.ref f_cvw)))
    (i_cvw : PySem.W.isFn K (.ref f_cvw) = true)
    (l_cvw : K.lookup f_cvw = some ⟨oc_cvw, od_cvw, .func (PySem.W.fnOf "view" "Cloud.view" (defArgs t_cvw) (defBody t_cvw) (defScope t_cvw) .none kV_cvw dc_cvw pm_cvw an_cvw cd_cvw ct_cvw), sl_cvw⟩)
    (c_cvw : PySem.W.codeIn K cd_cvw "Cloud.view" = true)
    (k_cvw : PySem.W.keepIn K (.ref f_cvw) = true)
    (a_cof : PySem.W.nsIn K mainGlobals "cloud_of" = some (some (.ref f_cof)))
    (l_cof : K.lookup f_cof = some ⟨oc_cof, od_cof, .func (PySem.W.fnOf "cloud_of" "cloud_of" (defArgs t_cof) (defBody t_cof) (defScope t_cof) .none kV_cof dc_cof pm_cof an_cof cd_cof ct_cof), sl_cof⟩)
    (c_cof : PySem.W.codeIn K cd_cof "cloud_of" = true)
    (k_cof : PySem.W.keepIn K (.ref f_cof) = true)
    (a_cmp : PySem.W.nsIn K mainGlobals "completions" = some (some (.ref f_cmp)))
    (l_cmp : K.lookup f_cmp = some ⟨oc_cmp, od_cmp, .func (PySem.W.fnOf "completions" "completions" (defArgs t_cmp) (defBody t_cmp) (defScope t_cmp) .none kV_cmp dc_cmp pm_cmp an_cmp cd_cmp ct_cmp), sl_cmp⟩)
    (c_cmp : PySem.W.codeIn K cd_cmp "completions" = true)
    (k_cmp : PySem.W.keepIn K (.ref f_cmp) = true)
    (a_alc : PySem.W.nsIn K mainGlobals "all_clouds" = some (some (.ref f_alc)))
    (l_alc : K.lookup f_alc = some ⟨oc_alc, od_alc, .func (PySem.W.fnOf "all_clouds" "all_clouds" (defArgs t_alc) (defBody t_alc) (defScope t_alc) .none kV_alc dc_alc pm_alc an_alc cd_alc ct_alc), sl_alc⟩)
    (c_alc : PySem.W.codeIn K cd_alc "all_clouds" = true)
    (k_alc : PySem.W.keepIn K (.ref f_alc) = true)
    (a_hal : PySem.W.nsIn K mainGlobals "halved" = some (some (.ref f_hal)))
    (l_hal : K.lookup f_hal = some ⟨oc_hal, od_hal, .func (PySem.W.fnOf "halved" "halved" (defArgs t_hal) (defBody t_hal) (defScope t_hal) .none kV_hal dc_hal pm_hal an_hal cd_hal ct_hal), sl_hal⟩)
    (c_hal : PySem.W.codeIn K cd_hal "halved" = true)
    (k_hal : PySem.W.keepIn K (.ref f_hal) = true)
    (a_sah : PySem.W.nsIn K mainGlobals "share_ahead" = some (some (.ref f_sah)))
    (l_sah : K.lookup f_sah = some ⟨oc_sah, od_sah, .func (PySem.W.fnOf "share_ahead" "share_ahead" (defArgs t_sah) (defBody t_sah) (defScope t_sah) .none kV_sah dc_sah pm_sah an_sah cd_sah ct_sah), sl_sah⟩)
    (c_sah : PySem.W.codeIn K cd_sah "share_ahead" = true)
    (k_sah : PySem.W.keepIn K (.ref f_sah) = true)
    (a_nar : PySem.W.nsIn K mainGlobals "narrowed" = some (some (.ref f_nar)))
    (l_nar : K.lookup f_nar = some ⟨oc_nar, od_nar, .func (PySem.W.fnOf "narrowed" "narrowed" (defArgs t_nar) (defBody t_nar) (defScope t_nar) .none kV_nar dc_nar pm_nar an_nar cd_nar ct_nar), sl_nar⟩)
    (c_nar : PySem.W.codeIn K cd_nar "narrowed" = true)
    (k_nar : PySem.W.keepIn K (.ref f_nar) = true)
    (a_fha : PySem.W.nsIn K mainGlobals "first_half" = some (some (.ref f_fha)))
    (l_fha : K.lookup f_fha = some ⟨oc_fha, od_fha, .func (PySem.W.fnOf "first_half" "first_half" (defArgs t_fha) (defBody t_fha) (defScope t_fha) .none kV_fha dc_fha pm_fha an_fha cd_fha ct_fha), sl_fha⟩)
    (c_fha : PySem.W.codeIn K cd_fha "first_half" = true)
    (k_fha : PySem.W.keepIn K (.ref f_fha) = true)
    (a_fby : PySem.W.nsIn K mainGlobals "finer_by" = some (some (.ref f_fby)))
    (l_fby : K.lookup f_fby = some ⟨oc_fby, od_fby, .func (PySem.W.fnOf "finer_by" "finer_by" (defArgs t_fby) (defBody t_fby) (defScope t_fby) .none kV_fby dc_fby pm_fby an_fby cd_fby ct_fby), sl_fby⟩)
    (c_fby : PySem.W.codeIn K cd_fby "finer_by" = true)
    (k_fby : PySem.W.keepIn K (.ref f_fby) = true)
    (a_sho : PySem.W.nsIn K mainGlobals "shortest" = some (some (.ref f_sho)))
    (l_sho : K.lookup f_sho = some ⟨oc_sho, od_sho, .func (PySem.W.fnOf "shortest" "shortest" (defArgs t_sho) (defBody t_sho) (defScope t_sho) .none kV_sho dc_sho pm_sho an_sho cd_sho ct_sho), sl_sho⟩)
    (c_sho : PySem.W.codeIn K cd_sho "shortest" = true)
    (k_sho : PySem.W.keepIn K (.ref f_sho) = true)
    (a_lco : PySem.W.nsIn K mainGlobals "level_code" = some (some (.ref f_lco)))
    (l_lco : K.lookup f_lco = some ⟨oc_lco, od_lco, .func (PySem.W.fnOf "level_code" "level_code" (defArgs t_lco) (defBody t_lco) (defScope t_lco) .none kV_lco dc_lco pm_lco an_lco cd_lco ct_lco), sl_lco⟩)
    (c_lco : PySem.W.codeIn K cd_lco "level_code" = true)
    (k_lco : PySem.W.keepIn K (.ref f_lco) = true)
    (a_cod : PySem.W.nsIn K mainGlobals "code_of" = some (some (.ref f_cod)))
    (l_cod : K.lookup f_cod = some ⟨oc_cod, od_cod, .func (PySem.W.fnOf "code_of" "code_of" (defArgs t_cod) (defBody t_cod) (defScope t_cod) .none kV_cod dc_cod pm_cod an_cod cd_cod ct_cod), sl_cod⟩)
    (c_cod : PySem.W.codeIn K cd_cod "code_of" = true)
    (k_cod : PySem.W.keepIn K (.ref f_cod) = true)
    (a_bgn : PySem.W.nsIn K mainGlobals "beginning" = some (some (.ref f_bgn)))
    (l_bgn : K.lookup f_bgn = some ⟨oc_bgn, od_bgn, .func (PySem.W.fnOf "beginning" "beginning" (defArgs t_bgn) (defBody t_bgn) (defScope t_bgn) .none kV_bgn dc_bgn pm_bgn an_bgn cd_bgn ct_bgn), sl_bgn⟩)
    (c_bgn : PySem.W.codeIn K cd_bgn "beginning" = true)
    (k_bgn : PySem.W.keepIn K (.ref f_bgn) = true)
    (a_lrd : PySem.W.nsIn K mainGlobals "level_read" = some (some (.ref f_lrd)))
    (l_lrd : K.lookup f_lrd = some ⟨oc_lrd, od_lrd, .func (PySem.W.fnOf "level_read" "level_read" (defArgs t_lrd) (defBody t_lrd) (defScope t_lrd) .none kV_lrd dc_lrd pm_lrd an_lrd cd_lrd ct_lrd), sl_lrd⟩)
    (c_lrd : PySem.W.codeIn K cd_lrd "level_read" = true)
    (k_lrd : PySem.W.keepIn K (.ref f_lrd) = true)
    (a_rdc : PySem.W.nsIn K mainGlobals "read_code" = some (some (.ref f_rdc)))
    (l_rdc : K.lookup f_rdc = some ⟨oc_rdc, od_rdc, .func (PySem.W.fnOf "read_code" "read_code" (defArgs t_rdc) (defBody t_rdc) (defScope t_rdc) .none kV_rdc dc_rdc pm_rdc an_rdc cd_rdc ct_rdc), sl_rdc⟩)
    (c_rdc : PySem.W.codeIn K cd_rdc "read_code" = true)
    (k_rdc : PySem.W.keepIn K (.ref f_rdc) = true)
    (a_cwh : PySem.W.nsIn K mainGlobals "check_whole" = some (some (.ref f_cwh)))
    (l_cwh : K.lookup f_cwh = some ⟨oc_cwh, od_cwh, .func (PySem.W.fnOf "check_whole" "check_whole" (defArgs t_cwh) (defBody t_cwh) (defScope t_cwh) .none kV_cwh dc_cwh pm_cwh an_cwh cd_cwh ct_cwh), sl_cwh⟩)
    (c_cwh : PySem.W.codeIn K cd_cwh "check_whole" = true)
    (k_cwh : PySem.W.keepIn K (.ref f_cwh) = true)
    (a_sin : PySem.W.findIn K (.ref CS) "__init__" = some (some (.ref f_sin)))
    (i_sin : PySem.W.isFn K (.ref f_sin) = true)
    (l_sin : K.lookup f_sin = some ⟨oc_sin, od_sin, .func (PySem.W.fnOf "__init__" "Space.__init__" (defArgs t_sin) (defBody t_sin) (defScope t_sin) .none kV_sin dc_sin pm_sin an_sin cd_sin ct_sin), sl_sin⟩)
    (c_sin : PySem.W.codeIn K cd_sin "Space.__init__" = true)
    (k_sin : PySem.W.keepIn K (.ref f_sin) = true)
    (a_spt : PySem.W.findIn K (.ref CS) "is_point" = some (some (.ref f_spt)))
    (i_spt : PySem.W.isFn K (.ref f_spt) = true)
    (l_spt : K.lookup f_spt = some ⟨oc_spt, od_spt, .func (PySem.W.fnOf "is_point" "Space.is_point" (defArgs t_spt) (defBody t_spt) (defScope t_spt) .none kV_spt dc_spt pm_spt an_spt cd_spt ct_spt), sl_spt⟩)
    (c_spt : PySem.W.codeIn K cd_spt "Space.is_point" = true)
    (k_spt : PySem.W.keepIn K (.ref f_spt) = true)
    (a_sck : PySem.W.findIn K (.ref CS) "check_point" = some (some (.ref f_sck)))
    (i_sck : PySem.W.isFn K (.ref f_sck) = true)
    (l_sck : K.lookup f_sck = some ⟨oc_sck, od_sck, .func (PySem.W.fnOf "check_point" "Space.check_point" (defArgs t_sck) (defBody t_sck) (defScope t_sck) .none kV_sck dc_sck pm_sck an_sck cd_sck ct_sck), sl_sck⟩)
    (c_sck : PySem.W.codeIn K cd_sck "Space.check_point" = true)
    (k_sck : PySem.W.keepIn K (.ref f_sck) = true)
    (a_swv : PySem.W.findIn K (.ref CS) "woven" = some (some (.ref f_swv)))
    (i_swv : PySem.W.isFn K (.ref f_swv) = true)
    (l_swv : K.lookup f_swv = some ⟨oc_swv, od_swv, .func (PySem.W.fnOf "woven" "Space.woven" (defArgs t_swv) (defBody t_swv) (defScope t_swv) .none kV_swv dc_swv pm_swv an_swv cd_swv ct_swv), sl_swv⟩)
    (c_swv : PySem.W.codeIn K cd_swv "Space.woven" = true)
    (k_swv : PySem.W.keepIn K (.ref f_swv) = true)
    (a_spo : PySem.W.findIn K (.ref CS) "point_of" = some (some (.ref f_spo)))
    (i_spo : PySem.W.isFn K (.ref f_spo) = true)
    (l_spo : K.lookup f_spo = some ⟨oc_spo, od_spo, .func (PySem.W.fnOf "point_of" "Space.point_of" (defArgs t_spo) (defBody t_spo) (defScope t_spo) .none kV_spo dc_spo pm_spo an_spo cd_spo ct_spo), sl_spo⟩)
    (c_spo : PySem.W.codeIn K cd_spo "Space.point_of" = true)
    (k_spo : PySem.W.keepIn K (.ref f_spo) = true)
    (a_lnu : PySem.W.nsIn K mainGlobals "_law_number" = some (some (.ref f_lnu)))
    (l_lnu : K.lookup f_lnu = some ⟨oc_lnu, od_lnu, .func (PySem.W.fnOf "_law_number" "_law_number" (defArgs t_lnu) (defBody t_lnu) (defScope t_lnu) .none kV_lnu dc_lnu pm_lnu an_lnu cd_lnu ct_lnu), sl_lnu⟩)
    (c_lnu : PySem.W.codeIn K cd_lnu "_law_number" = true)
    (k_lnu : PySem.W.keepIn K (.ref f_lnu) = true)
    (a_lta : PySem.W.nsIn K mainGlobals "_law_take" = some (some (.ref f_lta)))
    (l_lta : K.lookup f_lta = some ⟨oc_lta, od_lta, .func (PySem.W.fnOf "_law_take" "_law_take" (defArgs t_lta) (defBody t_lta) (defScope t_lta) .none kV_lta dc_lta pm_lta an_lta cd_lta ct_lta), sl_lta⟩)
    (c_lta : PySem.W.codeIn K cd_lta "_law_take" = true)
    (k_lta : PySem.W.keepIn K (.ref f_lta) = true)
    (a_lpi : PySem.W.nsIn K mainGlobals "_law_pick" = some (some (.ref f_lpi)))
    (l_lpi : K.lookup f_lpi = some ⟨oc_lpi, od_lpi, .func (PySem.W.fnOf "_law_pick" "_law_pick" (defArgs t_lpi) (defBody t_lpi) (defScope t_lpi) .none kV_lpi dc_lpi pm_lpi an_lpi cd_lpi ct_lpi), sl_lpi⟩)
    (c_lpi : PySem.W.codeIn K cd_lpi "_law_pick" = true)
    (k_lpi : PySem.W.keepIn K (.ref f_lpi) = true)
    (a_lpw : PySem.W.nsIn K mainGlobals "_law_power" = some (some (.ref f_lpw)))
    (l_lpw : K.lookup f_lpw = some ⟨oc_lpw, od_lpw, .func (PySem.W.fnOf "_law_power" "_law_power" (defArgs t_lpw) (defBody t_lpw) (defScope t_lpw) .none kV_lpw dc_lpw pm_lpw an_lpw cd_lpw ct_lpw), sl_lpw⟩)
    (c_lpw : PySem.W.codeIn K cd_lpw "_law_power" = true)
    (k_lpw : PySem.W.keepIn K (.ref f_lpw) = true)
    (a_lsp : PySem.W.nsIn K mainGlobals "_law_space" = some (some (.ref f_lsp)))
    (l_lsp : K.lookup f_lsp = some ⟨oc_lsp, od_lsp, .func (PySem.W.fnOf "_law_space" "_law_space" (defArgs t_lsp) (defBody t_lsp) (defScope t_lsp) .none kV_lsp dc_lsp pm_lsp an_lsp cd_lsp ct_lsp), sl_lsp⟩)
    (c_lsp : PySem.W.codeIn K cd_lsp "_law_space" = true)
    (k_lsp : PySem.W.keepIn K (.ref f_lsp) = true)
    (a_lpt : PySem.W.nsIn K mainGlobals "_law_point" = some (some (.ref f_lpt)))
    (l_lpt : K.lookup f_lpt = some ⟨oc_lpt, od_lpt, .func (PySem.W.fnOf "_law_point" "_law_point" (defArgs t_lpt) (defBody t_lpt) (defScope t_lpt) .none kV_lpt dc_lpt pm_lpt an_lpt cd_lpt ct_lpt), sl_lpt⟩)
    (c_lpt : PySem.W.codeIn K cd_lpt "_law_point" = true)
    (k_lpt : PySem.W.keepIn K (.ref f_lpt) = true)
    (a_lps : PySem.W.nsIn K mainGlobals "_law_points" = some (some (.ref f_lps)))
    (l_lps : K.lookup f_lps = some ⟨oc_lps, od_lps, .func (PySem.W.fnOf "_law_points" "_law_points" (defArgs t_lps) (defBody t_lps) (defScope t_lps) .none kV_lps dc_lps pm_lps an_lps cd_lps ct_lps), sl_lps⟩)
    (c_lps : PySem.W.codeIn K cd_lps "_law_points" = true)
    (k_lps : PySem.W.keepIn K (.ref f_lps) = true)
    (a_lcl : PySem.W.nsIn K mainGlobals "_law_cloud" = some (some (.ref f_lcl)))
    (l_lcl : K.lookup f_lcl = some ⟨oc_lcl, od_lcl, .func (PySem.W.fnOf "_law_cloud" "_law_cloud" (defArgs t_lcl) (defBody t_lcl) (defScope t_lcl) .none kV_lcl dc_lcl pm_lcl an_lcl cd_lcl ct_lcl), sl_lcl⟩)
    (c_lcl : PySem.W.codeIn K cd_lcl "_law_cloud" = true)
    (k_lcl : PySem.W.keepIn K (.ref f_lcl) = true)
    (a_lca : PySem.W.nsIn K mainGlobals "_law_coarse" = some (some (.ref f_lca)))
    (l_lca : K.lookup f_lca = some ⟨oc_lca, od_lca, .func (PySem.W.fnOf "_law_coarse" "_law_coarse" (defArgs t_lca) (defBody t_lca) (defScope t_lca) .none kV_lca dc_lca pm_lca an_lca cd_lca ct_lca), sl_lca⟩)
    (c_lca : PySem.W.codeIn K cd_lca "_law_coarse" = true)
    (k_lca : PySem.W.keepIn K (.ref f_lca) = true)
    (a_lit : PySem.W.nsIn K mainGlobals "_law_is_told" = some (some (.ref f_lit)))
    (l_lit : K.lookup f_lit = some ⟨oc_lit, od_lit, .func (PySem.W.fnOf "_law_is_told" "_law_is_told" (defArgs t_lit) (defBody t_lit) (defScope t_lit) .none kV_lit dc_lit pm_lit an_lit cd_lit ct_lit), sl_lit⟩)
    (c_lit : PySem.W.codeIn K cd_lit "_law_is_told" = true)
    (k_lit : PySem.W.keepIn K (.ref f_lit) = true)
    (a_lio : PySem.W.nsIn K mainGlobals "_law_is_only_own" = some (some (.ref f_lio)))
    (l_lio : K.lookup f_lio = some ⟨oc_lio, od_lio, .func (PySem.W.fnOf "_law_is_only_own" "_law_is_only_own" (defArgs t_lio) (defBody t_lio) (defScope t_lio) .none kV_lio dc_lio pm_lio an_lio cd_lio ct_lio), sl_lio⟩)
    (c_lio : PySem.W.codeIn K cd_lio "_law_is_only_own" = true)
    (k_lio : PySem.W.keepIn K (.ref f_lio) = true)
    (a_lco2 : PySem.W.nsIn K mainGlobals "_law_cloud_of" = some (some (.ref f_lco2)))
    (l_lco2 : K.lookup f_lco2 = some ⟨oc_lco2, od_lco2, .func (PySem.W.fnOf "_law_cloud_of" "_law_cloud_of" (defArgs t_lco2) (defBody t_lco2) (defScope t_lco2) .none kV_lco2 dc_lco2 pm_lco2 an_lco2 cd_lco2 ct_lco2), sl_lco2⟩)
    (c_lco2 : PySem.W.codeIn K cd_lco2 "_law_cloud_of" = true)
    (k_lco2 : PySem.W.keepIn K (.ref f_lco2) = true)
    (a_law : PySem.W.nsIn K mainGlobals "law" = some (some (.ref f_law)))
    (l_law : K.lookup f_law = some ⟨oc_law, od_law, .func (PySem.W.fnOf "law" "law" (defArgs t_law) (defBody t_law) (defScope t_law) .none kV_law dc_law pm_law an_law cd_law ct_law), sl_law⟩)
    (c_law : PySem.W.codeIn K cd_law "law" = true)
    (k_law : PySem.W.keepIn K (.ref f_law) = true)
    : ∃ fd : FuncData, (∀ (s : Shared) (v : Value), BindsTo s fd ⟨[v], []⟩ [("_law_script", v)]) ∧ ∀ base : Heap, K.In base → base.Ns mainGlobals mg → FnOk PySem.Challenge.rw_finecloud_k53_whole_progress.prog w K mg base CX0 10 fa fd ["_law_script"] (spLaw K) := by
  have e := hfa.symm.trans (PySem.W.mg_of X G a_law)
  cases e
  have F_isw := fun_mk (st := t_isw) l_isw c_isw k_isw
  have b_isw := F_isw.binds (ps := p_isw) fun _ _ _ _ _ _ us hl => match us, hl with | [_, _, _], _ => rfl
  have m_isw := PySem.W.mg_of X G a_isw
  have F_pow := fun_mk (st := t_pow) l_pow c_pow k_pow
  have b_pow := F_pow.binds (ps := p_pow) fun _ _ _ _ _ _ us hl => match us, hl with | [_], _ => rfl
  have m_pow := PySem.W.mg_of X G a_pow
  have F_cho := fun_mk (st := t_cho) l_cho c_cho k_cho
  have b_cho := F_cho.binds (ps := p_cho) fun _ _ _ _ _ _ us hl => match us, hl with | [_, _], _ => rfl
  have m_cho := PySem.W.mg_of X G a_cho
  have F_bof := fun_mk (st := t_bof) l_bof c_bof k_bof
  have b_bof := F_bof.binds (ps := p_bof) fun _ _ _ _ _ _ us hl => match us, hl with | [_, _], _ => rfl
  have m_bof := PySem.W.mg_of X G a_bof
  have F_nof := fun_mk (st := t_nof) l_nof c_nof k_nof
  have b_nof := F_nof.binds (ps := p_nof) fun _ _ _ _ _ _ us hl => match us, hl with | [_], _ => rfl
  have m_nof := PySem.W.mg_of X G a_nof
  have F_cin := fun_mk (st := t_cin) l_cin c_cin k_cin
  have b_cin := F_cin.binds (ps := p_cin) fun _ _ _ _ _ _ us hl => match us, hl with | [_, _, _], _ => rfl
  have F_cmy := fun_mk (st := t_cmy) l_cmy c_cmy k_cmy
  have b_cmy := F_cmy.binds (ps := p_cmy) fun _ _ _ _ _ _ us hl => match us, hl with | [_], _ => rfl
  have F_cvw := fun_mk (st := t_cvw) l_cvw c_cvw k_cvw
  have b_cvw := F_cvw.binds (ps := p_cvw) fun _ _ _ _ _ _ us hl => match us, hl with | [_, _], _ => rfl
  have F_cof := fun_mk (st := t_cof) l_cof c_cof k_cof
  have b_cof := F_cof.binds (ps := p_cof) fun _ _ _ _ _ _ us hl => match us, hl with | [_, _], _ => rfl
  have m_cof := PySem.W.mg_of X G a_cof
  have F_cmp := fun_mk (st := t_cmp) l_cmp c_cmp k_cmp
  have b_cmp := F_cmp.binds (ps := p_cmp) fun _ _ _ _ _ _ us hl => match us, hl with | [_, _, _], _ => rfl
  have m_cmp := PySem.W.mg_of X G a_cmp
  have F_alc := fun_mk (st := t_alc) l_alc c_alc k_alc
  have b_alc := F_alc.binds (ps := p_alc) fun _ _ _ _ _ _ us hl => match us, hl with | [_, _], _ => rfl
  have m_alc := PySem.W.mg_of X G a_alc
  have F_hal := fun_mk (st := t_hal) l_hal c_hal k_hal
  have b_hal := F_hal.binds (ps := p_hal) fun _ _ _ _ _ _ us hl => match us, hl with | [_, _], _ => rfl
  have m_hal := PySem.W.mg_of X G a_hal
  have F_sah := fun_mk (st := t_sah) l_sah c_sah k_sah
  have b_sah := F_sah.binds (ps := p_sah) fun _ _ _ _ _ _ us hl => match us, hl with | [_, _, _], _ => rfl
  have m_sah := PySem.W.mg_of X G a_sah
  have F_nar := fun_mk (st := t_nar) l_nar c_nar k_nar
  have b_nar := F_nar.binds (ps := p_nar) fun _ _ _ _ _ _ us hl => match us, hl with | [_, _, _, _], _ => rfl
  have m_nar := PySem.W.mg_of X G a_nar
  have F_fha := fun_mk (st := t_fha) l_fha c_fha k_fha
  have b_fha := F_fha.binds (ps := p_fha) fun _ _ _ _ _ _ us hl => match us, hl with | [_, _, _, _], _ => rfl
  have m_fha := PySem.W.mg_of X G a_fha
  have F_fby := fun_mk (st := t_fby) l_fby c_fby k_fby
  have b_fby := F_fby.binds (ps := p_fby) fun _ _ _ _ _ _ us hl => match us, hl with | [_, _, _, _], _ => rfl
  have m_fby := PySem.W.mg_of X G a_fby
  have F_sho := fun_mk (st := t_sho) l_sho c_sho k_sho
  have b_sho := F_sho.binds (ps := p_sho) fun _ _ _ _ _ _ us hl => match us, hl with | [_, _, _], _ => rfl
  have m_sho := PySem.W.mg_of X G a_sho
  have F_lco := fun_mk (st := t_lco) l_lco c_lco k_lco
  have b_lco := F_lco.binds (ps := p_lco) fun _ _ _ _ _ _ us hl => match us, hl with | [_, _], _ => rfl
  have m_lco := PySem.W.mg_of X G a_lco
  have F_cod := fun_mk (st := t_cod) l_cod c_cod k_cod
  have b_cod := F_cod.binds (ps := p_cod) fun _ _ _ _ _ _ us hl => match us, hl with | [_], _ => rfl
  have m_cod := PySem.W.mg_of X G a_cod
  have F_bgn := fun_mk (st := t_bgn) l_bgn c_bgn k_bgn
  have b_bgn := F_bgn.binds (ps := p_bgn) fun _ _ _ _ _ _ us hl => match us, hl with | [_, _], _ => rfl
  have m_bgn := PySem.W.mg_of X G a_bgn
  have F_lrd := fun_mk (st := t_lrd) l_lrd c_lrd k_lrd
  have b_lrd := F_lrd.binds (ps := p_lrd) fun _ _ _ _ _ _ us hl => match us, hl with | [_, _, _, _], _ => rfl
  have m_lrd := PySem.W.mg_of X G a_lrd
  have F_rdc := fun_mk (st := t_rdc) l_rdc c_rdc k_rdc
  have b_rdc := F_rdc.binds (ps := p_rdc) fun _ _ _ _ _ _ us hl => match us, hl with | [_, _, _], _ => rfl
  have m_rdc := PySem.W.mg_of X G a_rdc
  have F_cwh := fun_mk (st := t_cwh) l_cwh c_cwh k_cwh
  have b_cwh := F_cwh.binds (ps := p_cwh) fun _ _ _ _ _ _ us hl => match us, hl with | [_, _, _], _ => rfl
  have m_cwh := PySem.W.mg_of X G a_cwh
  have F_sin := fun_mk (st := t_sin) l_sin c_sin k_sin
  have b_sin := F_sin.binds (ps := p_sin) fun _ _ _ _ _ _ us hl => match us, hl with | [_, _, _], _ => rfl
  have F_spt := fun_mk (st := t_spt) l_spt c_spt k_spt
  have b_spt := F_spt.binds (ps := p_spt) fun _ _ _ _ _ _ us hl => match us, hl with | [_, _], _ => rfl
  have F_sck := fun_mk (st := t_sck) l_sck c_sck k_sck
  have b_sck := F_sck.binds (ps := p_sck) fun _ _ _ _ _ _ us hl => match us, hl with | [_, _], _ => rfl
  have F_swv := fun_mk (st := t_swv) l_swv c_swv k_swv
  have b_swv := F_swv.binds (ps := p_swv) fun _ _ _ _ _ _ us hl => match us, hl with | [_, _], _ => rfl
  have F_spo := fun_mk (st := t_spo) l_spo c_spo k_spo
  have b_spo := F_spo.binds (ps := p_spo) fun _ _ _ _ _ _ us hl => match us, hl with | [_, _], _ => rfl
  have F_lnu := fun_mk (st := t_lnu) l_lnu c_lnu k_lnu
  have b_lnu := F_lnu.binds (ps := p_lnu) fun _ _ _ _ _ _ us hl => match us, hl with | [_, _], _ => rfl
  have m_lnu := PySem.W.mg_of X G a_lnu
  have F_lta := fun_mk (st := t_lta) l_lta c_lta k_lta
  have b_lta := F_lta.binds (ps := p_lta) fun _ _ _ _ _ _ us hl => match us, hl with | [_, _], _ => rfl
  have m_lta := PySem.W.mg_of X G a_lta
  have F_lpi := fun_mk (st := t_lpi) l_lpi c_lpi k_lpi
  have b_lpi := F_lpi.binds (ps := p_lpi) fun _ _ _ _ _ _ us hl => match us, hl with | [_, _], _ => rfl
  have m_lpi := PySem.W.mg_of X G a_lpi
  have F_lpw := fun_mk (st := t_lpw) l_lpw c_lpw k_lpw
  have b_lpw := F_lpw.binds (ps := p_lpw) fun _ _ _ _ _ _ us hl => match us, hl with | [_], _ => rfl
  have m_lpw := PySem.W.mg_of X G a_lpw
  have F_lsp := fun_mk (st := t_lsp) l_lsp c_lsp k_lsp
  have b_lsp := F_lsp.binds (ps := p_lsp) fun _ _ _ _ _ _ us hl => match us, hl with | [_, _], _ => rfl
  have m_lsp := PySem.W.mg_of X G a_lsp
  have F_lpt := fun_mk (st := t_lpt) l_lpt c_lpt k_lpt
  have b_lpt := F_lpt.binds (ps := p_lpt) fun _ _ _ _ _ _ us hl => match us, hl with | [_, _], _ => rfl
  have m_lpt := PySem.W.mg_of X G a_lpt
  have F_lps := fun_mk (st := t_lps) l_lps c_lps k_lps
  have b_lps := F_lps.binds (ps := p_lps) fun _ _ _ _ _ _ us hl => match us, hl with | [_, _, _], _ => rfl
  have m_lps := PySem.W.mg_of X G a_lps
  have F_lcl := fun_mk (st := t_lcl) l_lcl c_lcl k_lcl
  have b_lcl := F_lcl.binds (ps := p_lcl) fun _ _ _ _ _ _ us hl => match us, hl with | [_, _, _], _ => rfl
  have m_lcl := PySem.W.mg_of X G a_lcl
  have F_lca := fun_mk (st := t_lca) l_lca c_lca k_lca
  have b_lca := F_lca.binds (ps := p_lca) fun _ _ _ _ _ _ us hl => match us, hl with | [_, _], _ => rfl
  have m_lca := PySem.W.mg_of X G a_lca
  have F_lit := fun_mk (st := t_lit) l_lit c_lit k_lit
  have b_lit := F_lit.binds (ps := p_lit) fun _ _ _ _ _ _ us hl => match us, hl with | [_, _, _, _], _ => rfl
  have m_lit := PySem.W.mg_of X G a_lit
  have F_lio := fun_mk (st := t_lio) l_lio c_lio k_lio
  have b_lio := F_lio.binds (ps := p_lio) fun _ _ _ _ _ _ us hl => match us, hl with | [_, _, _], _ => rfl
  have m_lio := PySem.W.mg_of X G a_lio
  have F_lco2 := fun_mk (st := t_lco2) l_lco2 c_lco2 k_lco2
  have b_lco2 := F_lco2.binds (ps := p_lco2) fun _ _ _ _ _ _ us hl => match us, hl with | [_, _], _ => rfl
  have m_lco2 := PySem.W.mg_of X G a_lco2
  have F_law := fun_mk (st := t_law) l_law c_law k_law
  have b_law := F_law.binds (ps := p_law) fun _ _ _ _ _ _ us hl => match us, hl with | [_], _ => rfl
  have m_law := PySem.W.mg_of X G a_law
  have BB : Bl mg := ⟨PySem.W.mg_none_of X G z_isinstance, PySem.W.mg_none_of X G z_int, PySem.W.mg_none_of X G z_bool, PySem.W.mg_none_of X G z_range, PySem.W.mg_none_of X G z_min, PySem.W.mg_none_of X G z_max, PySem.W.mg_none_of X G z_tuple, PySem.W.mg_none_of X G z_sorted, PySem.W.mg_none_of X G z_dict, PySem.W.mg_none_of X G z_sum, PySem.W.mg_none_of X G z_len, PySem.W.mg_none_of X G z_all, PySem.W.mg_none_of X G z_abs, PySem.W.mg_none_of X G z_enumerate⟩
  have TS : TxS K CS := ⟨⟨pg_CS, hd_CS, po_CS, sa_CS⟩, n_CS_dimensions, n_CS_bits, n_CS_depth, n_CS_side⟩
  have TC : TxC K CC := ⟨⟨pg_CC, hd_CC, po_CC, sa_CC⟩, n_CC_space, n_CC_row⟩
  have TB : FX.BadTxt K mg CB CE fIb cc cda := ⟨PySem.W.mg_of X G b_gC, ⟨_, _, _, _, _, _, _, _, _, _, _, _, _, _, b_cls⟩, b_sa, b_ga, b_gg, b_noN, b_iC, b_tC, b_kC, b_exC, b_tyC, b_hdC, FX.te_of b_exC b_tyC b_mC, b_mC, b_mE, b_mO, FX.al_of b_ecl b_efi, b_tp, PySem.W.mg_none_of X G b_su, ⟨_, _, _, b_cell⟩, ⟨_, _, _, _, _, b_code, b_hvs⟩, ⟨_, _, _, _, _, _, _, b_fn, b_cd⟩⟩
  have M_C : Mk K CC f_cin := ⟨mk_CC, a_cin, i_cin, kc_CC⟩
  have M_S : Mk K CS f_sin := ⟨mk_CS, a_sin, i_sin, kc_CS⟩
  have gC := PySem.W.mg_of X G g_CC
  have gS := PySem.W.mg_of X G g_CS
  have gMd := PySem.W.mg_of X G g_md
  have gMb := PySem.W.mg_of X G g_mb
  refine ⟨PySem.W.fnOf "law" "law" (defArgs t_law) (defBody t_law) (defScope t_law) .none kV_law dc_law pm_law an_law cd_law ct_law, fun s v => .of_eq rfl, fun base _ _ => ?_⟩
  have G_isw := q_isw (P := PySem.Challenge.rw_finecloud_k53_whole_progress.prog) (w := w) (base := base) F_isw BB
  have G_pow := q_pow (P := PySem.Challenge.rw_finecloud_k53_whole_progress.prog) (w := w) (base := base) F_pow BB
  have G_lpw := q_lpw (P := PySem.Challenge.rw_finecloud_k53_whole_progress.prog) (w := w) (base := base) F_lpw BB
  have G_cho := q_cho (P := PySem.Challenge.rw_finecloud_k53_whole_progress.prog) (w := w) (base := base) F_cho BB
  have G_bof := q_bof (P := PySem.Challenge.rw_finecloud_k53_whole_progress.prog) (w := w) (base := base) F_bof BB
  have G_nof := q_nof (P := PySem.Challenge.rw_finecloud_k53_whole_progress.prog) (w := w) (base := base) F_nof BB
  have G_cmp := q_cmp (P := PySem.Challenge.rw_finecloud_k53_whole_progress.prog) (w := w) (base := base) F_cmp TS G_pow m_pow k_pow b_pow G_cho m_cho k_cho b_cho
  have G_alc := q_alc (P := PySem.Challenge.rw_finecloud_k53_whole_progress.prog) (w := w) (base := base) F_alc TS G_pow m_pow k_pow b_pow G_cho m_cho k_cho b_cho
  have G_sah := q_sah (P := PySem.Challenge.rw_finecloud_k53_whole_progress.prog) (w := w) (base := base) F_sah BB G_cho m_cho k_cho b_cho
  have G_hal := q_hal (P := PySem.Challenge.rw_finecloud_k53_whole_progress.prog) (w := w) (base := base) F_hal BB
  have G_nar := q_nar (P := PySem.Challenge.rw_finecloud_k53_whole_progress.prog) (w := w) (base := base) F_nar TS G_pow m_pow k_pow b_pow G_cho m_cho k_cho b_cho G_cmp m_cmp k_cmp b_cmp G_hal m_hal k_hal b_hal G_sah m_sah k_sah b_sah
  have G_fha := q_fha (P := PySem.Challenge.rw_finecloud_k53_whole_progress.prog) (w := w) (base := base) F_fha G_cho m_cho k_cho b_cho
  have G_fby := q_fby (P := PySem.Challenge.rw_finecloud_k53_whole_progress.prog) (w := w) (base := base) F_fby TS BB G_pow m_pow k_pow b_pow G_cho m_cho k_cho b_cho G_cmp m_cmp k_cmp b_cmp G_fha m_fha k_fha b_fha
  have G_sho := q_sho (P := PySem.Challenge.rw_finecloud_k53_whole_progress.prog) (w := w) (base := base) F_sho G_pow m_pow k_pow b_pow G_bof m_bof k_bof b_bof
  have G_lrd := q_lrd (P := PySem.Challenge.rw_finecloud_k53_whole_progress.prog) (w := w) (base := base) F_lrd TS BB G_pow m_pow k_pow b_pow G_nof m_nof k_nof b_nof G_cmp m_cmp k_cmp b_cmp G_fby m_fby k_fby b_fby
  have G_spt := q_spt (P := PySem.Challenge.rw_finecloud_k53_whole_progress.prog) (w := w) (base := base) F_spt TS BB G_isw m_isw k_isw b_isw
  have G_sck := q_sck (P := PySem.Challenge.rw_finecloud_k53_whole_progress.prog) (w := w) (base := base) F_sck TS G_spt ⟨a_spt, i_spt, k_spt⟩ b_spt
  have G_swv := q_swv (P := PySem.Challenge.rw_finecloud_k53_whole_progress.prog) (w := w) (base := base) F_swv TS BB G_sck ⟨a_sck, i_sck, k_sck⟩ b_sck
  have G_spo := q_spo (P := PySem.Challenge.rw_finecloud_k53_whole_progress.prog) (w := w) (base := base) F_spo TS BB G_pow m_pow k_pow b_pow
  have G_sin := q_sin (P := PySem.Challenge.rw_finecloud_k53_whole_progress.prog) (w := w) (base := base) F_sin TS gMd gMb G_isw m_isw k_isw b_isw G_pow m_pow k_pow b_pow
  have G_cin := q_cin (P := PySem.Challenge.rw_finecloud_k53_whole_progress.prog) (w := w) (base := base) F_cin TS TC BB G_swv ⟨a_swv, i_swv, k_swv⟩ b_swv
  have G_cmy := q_cmy (P := PySem.Challenge.rw_finecloud_k53_whole_progress.prog) (w := w) (base := base) F_cmy TC BB
  have G_cvw := q_cvw (P := PySem.Challenge.rw_finecloud_k53_whole_progress.prog) (w := w) (base := base) F_cvw TS TC BB G_pow m_pow k_pow b_pow
  have G_cof := q_cof (P := PySem.Challenge.rw_finecloud_k53_whole_progress.prog) (w := w) (base := base) F_cof TS M_C gC G_cin b_cin G_spo ⟨a_spo, i_spo, k_spo⟩ b_spo
  have G_lco2 := q_lco2 (P := PySem.Challenge.rw_finecloud_k53_whole_progress.prog) (w := w) (base := base) F_lco2 TS M_C gC G_cin b_cin G_spo ⟨a_spo, i_spo, k_spo⟩ b_spo
  have G_lco := q_lco (P := PySem.Challenge.rw_finecloud_k53_whole_progress.prog) (w := w) (base := base) F_lco TC G_cvw ⟨a_cvw, i_cvw, k_cvw⟩ b_cvw G_nar m_nar k_nar b_nar G_sho m_sho k_sho b_sho
  have G_cod := q_cod (P := PySem.Challenge.rw_finecloud_k53_whole_progress.prog) (w := w) (base := base) F_cod TC TS BB G_lco m_lco k_lco b_lco
  have G_bgn := q_bgn (P := PySem.Challenge.rw_finecloud_k53_whole_progress.prog) (w := w) (base := base) F_bgn BB G_cod m_cod k_cod b_cod
  have G_rdc := q_rdc (P := PySem.Challenge.rw_finecloud_k53_whole_progress.prog) (w := w) (base := base) F_rdc TS G_alc m_alc k_alc b_alc G_lrd m_lrd k_lrd b_lrd
  have G_cwh := ok_cwh (P := PySem.Challenge.rw_finecloud_k53_whole_progress.prog) (w := w) (base := base) F_cwh TS BB TB rfl G_rdc m_rdc k_rdc b_rdc G_cof m_cof k_cof b_cof G_bgn m_bgn k_bgn b_bgn
  have G_lnu := q_lnu (P := PySem.Challenge.rw_finecloud_k53_whole_progress.prog) (w := w) (base := base) F_lnu BB
  have G_lta := q_lta (P := PySem.Challenge.rw_finecloud_k53_whole_progress.prog) (w := w) (base := base) F_lta BB G_lnu m_lnu k_lnu b_lnu
  have G_lpi := q_lpi (P := PySem.Challenge.rw_finecloud_k53_whole_progress.prog) (w := w) (base := base) F_lpi BB G_lta m_lta k_lta b_lta
  have G_lpt := q_lpt (P := PySem.Challenge.rw_finecloud_k53_whole_progress.prog) (w := w) (base := base) F_lpt BB TS G_lta m_lta k_lta b_lta
  have G_lps := q_lps (P := PySem.Challenge.rw_finecloud_k53_whole_progress.prog) (w := w) (base := base) F_lps BB G_lta m_lta k_lta b_lta G_lpt m_lpt k_lpt b_lpt
  have G_lcl := q_lcl (P := PySem.Challenge.rw_finecloud_k53_whole_progress.prog) (w := w) (base := base) F_lcl M_C gC G_cin b_cin G_lps m_lps k_lps b_lps
  have G_lsp := ok_lsp (P := PySem.Challenge.rw_finecloud_k53_whole_progress.prog) (w := w) (base := base) F_lsp BB M_S gS G_sin b_sin G_lpi m_lpi k_lpi b_lpi
  have G_lca := q_lca (P := PySem.Challenge.rw_finecloud_k53_whole_progress.prog) (w := w) (base := base) F_lca BB G_lpw m_lpw k_lpw b_lpw
  have G_lit := ok_lit (P := PySem.Challenge.rw_finecloud_k53_whole_progress.prog) (w := w) (base := base) F_lit BB TS TC G_bgn m_bgn k_bgn b_bgn G_lta m_lta k_lta b_lta G_rdc m_rdc k_rdc b_rdc G_cmy ⟨a_cmy, i_cmy, k_cmy⟩ b_cmy G_cvw ⟨a_cvw, i_cvw, k_cvw⟩ b_cvw G_alc m_alc k_alc b_alc G_lpw m_lpw k_lpw b_lpw G_cmp m_cmp k_cmp b_cmp G_lca m_lca k_lca b_lca
  have G_lio := ok_lio (P := PySem.Challenge.rw_finecloud_k53_whole_progress.prog) (w := w) (base := base) F_lio TS BB TB G_rdc m_rdc k_rdc b_rdc G_cwh m_cwh k_cwh b_cwh G_bgn m_bgn k_bgn b_bgn G_lco2 m_lco2 k_lco2 b_lco2
  exact ok_law F_law BB TS TC TB G_lsp m_lsp k_lsp b_lsp G_lcl m_lcl k_lcl b_lcl G_cod m_cod k_cod b_cod G_lit m_lit k_lit b_lit G_bgn m_bgn k_bgn b_bgn G_cwh m_cwh k_cwh b_cwh G_cmy ⟨a_cmy, i_cmy, k_cmy⟩ b_cmy G_cvw ⟨a_cvw, i_cvw, k_cvw⟩ b_cvw G_cmp m_cmp k_cmp b_cmp G_lpw m_lpw k_lpw b_lpw G_lta m_lta k_lta b_lta G_lio m_lio k_lio b_lio
end FW
open PySem PySem.W PyProof.Rows
set_option maxRecDepth 100000 in
set_option maxHeartbeats 0 in
theorem PySem.Challenge.cw_finecloud_k53_whole_progress_holds : PySem.Challenge.rw_finecloud_k53_whole_progress.Holds := by
  w_on; o_law; k_head; (case hw => w_witness2)
  k_fill
  refine L2.walk_of (l := PySem.Challenge.rw_finecloud_k53_whole_progress) (n := 63) (k := 10) (x := "_law_script") (CX := fun _ => L2.CX0) (sp := fun w => FW.spLaw _) rfl (by decide) rfl ⟨rfl, by decide, by decide⟩ (fun w h Y => PySem.W.kIn_of Y) ?F (fun _ _ a ns hl _ hS => ⟨a, ns, rfl, hS, hl, fun _ => rfl⟩) (fun _ _ _ _ _ h => h)
  case F =>
    intro w mg fa h KX G hmg
    refine' FW.all_mk KX G hmg ?g_CC ?pg_CC ?hd_CC ?po_CC ?sa_CC ?mk_CC ?kc_CC ?n_CC_space ?n_CC_row ?g_CS ?pg_CS ?hd_CS ?po_CS ?sa_CS ?mk_CS ?kc_CS ?n_CS_dimensions ?n_CS_bits ?n_CS_depth ?n_CS_side ?g_md ?g_mb ?b_gC ?b_cls ?b_sa ?b_ga ?b_gg ?b_noN ?b_iC ?b_tC ?b_kC ?b_exC ?b_tyC ?b_hdC ?b_mC ?b_mE ?b_mO ?b_ecl ?b_efi ?b_tp ?b_su ?b_fn ?b_cd ?b_cell ?b_code ?b_hvs ?z_isinstance ?z_int ?z_bool ?z_range ?z_min ?z_max ?z_tuple ?z_sorted ?z_dict ?z_sum ?z_len ?z_all ?z_abs ?z_enumerate ?a_isw ?l_isw ?c_isw ?k_isw ?a_pow ?l_pow ?c_pow ?k_pow ?a_cho ?l_cho ?c_cho ?k_cho ?a_bof ?l_bof ?c_bof ?k_bof ?a_nof ?l_nof ?c_nof ?k_nof ?a_cin ?i_cin ?l_cin ?c_cin ?k_cin ?a_cmy ?i_cmy ?l_cmy ?c_cmy ?k_cmy ?a_cvw ?i_cvw ?l_cvw ?c_cvw ?k_cvw ?a_cof ?l_cof ?c_cof ?k_cof ?a_cmp ?l_cmp ?c_cmp ?k_cmp ?a_alc ?l_alc ?c_alc ?k_alc ?a_hal ?l_hal ?c_hal ?k_hal ?a_sah ?l_sah ?c_sah ?k_sah ?a_nar ?l_nar ?c_nar ?k_nar ?a_fha ?l_fha ?c_fha ?k_fha ?a_fby ?l_fby ?c_fby ?k_fby ?a_sho ?l_sho ?c_sho ?k_sho ?a_lco ?l_lco ?c_lco ?k_lco ?a_cod ?l_cod ?c_cod ?k_cod ?a_bgn ?l_bgn ?c_bgn ?k_bgn ?a_lrd ?l_lrd ?c_lrd ?k_lrd ?a_rdc ?l_rdc ?c_rdc ?k_rdc ?a_cwh ?l_cwh ?c_cwh ?k_cwh ?a_sin ?i_sin ?l_sin ?c_sin ?k_sin ?a_spt ?i_spt ?l_spt ?c_spt ?k_spt ?a_sck ?i_sck ?l_sck ?c_sck ?k_sck ?a_swv ?i_swv ?l_swv ?c_swv ?k_swv ?a_spo ?i_spo ?l_spo ?c_spo ?k_spo ?a_lnu ?l_lnu ?c_lnu ?k_lnu ?a_lta ?l_lta ?c_lta ?k_lta ?a_lpi ?l_lpi ?c_lpi ?k_lpi ?a_lpw ?l_lpw ?c_lpw ?k_lpw ?a_lsp ?l_lsp ?c_lsp ?k_lsp ?a_lpt ?l_lpt ?c_lpt ?k_lpt ?a_lps ?l_lps ?c_lps ?k_lps ?a_lcl ?l_lcl ?c_lcl ?k_lcl ?a_lca ?l_lca ?c_lca ?k_lca ?a_lit ?l_lit ?c_lit ?k_lit ?a_lio ?l_lio ?c_lio ?k_lio ?a_lco2 ?l_lco2 ?c_lco2 ?k_lco2 ?a_law ?l_law ?c_law ?k_law
    (case g_CC => k_is)
    (case pg_CC => k_is)
    (case hd_CC => k_is)
    (case po_CC => k_is)
    (case sa_CC => k_is)
    (case mk_CC => k_is)
    (case kc_CC => k_is)
    (case n_CC_space => k_is)
    (case n_CC_row => k_is)
    (case g_CS => k_is)
    (case pg_CS => k_is)
    (case hd_CS => k_is)
    (case po_CS => k_is)
    (case sa_CS => k_is)
    (case mk_CS => k_is)
    (case kc_CS => k_is)
    (case n_CS_dimensions => k_is)
    (case n_CS_bits => k_is)
    (case n_CS_depth => k_is)
    (case n_CS_side => k_is)
    (case g_md => k_is)
    (case g_mb => k_is)
    (case b_gC => k_is)
    (case b_cls => k_is)
    (case b_sa => k_is)
    (case b_ga => k_is)
    (case b_gg => k_is)
    (case b_noN => k_is)
    (case b_iC => k_is)
    (case b_tC => k_is)
    (case b_kC => k_is)
    (case b_exC => k_is)
    (case b_tyC => k_is)
    (case b_hdC => k_is)
    (case b_mC => k_is)
    (case b_mE => k_is)
    (case b_mO => k_is)
    (case b_ecl => k_is)
    (case b_efi => k_is)
    (case b_tp => k_is)
    (case b_su => k_is)
    (case b_fn => k_is)
    (case b_cd => k_is)
    (case b_cell => k_is)
    (case b_code => k_is)
    (case b_hvs => rfl)
    (case z_isinstance => k_is)
    (case z_int => k_is)
    (case z_bool => k_is)
    (case z_range => k_is)
    (case z_min => k_is)
    (case z_max => k_is)
    (case z_tuple => k_is)
    (case z_sorted => k_is)
    (case z_dict => k_is)
    (case z_sum => k_is)
    (case z_len => k_is)
    (case z_all => k_is)
    (case z_abs => k_is)
    (case z_enumerate => k_is)
    (case a_isw => k_is)
    (case l_isw => k_is)
    (case c_isw => k_is)
    (case k_isw => k_is)
    (case a_pow => k_is)
    (case l_pow => k_is)
    (case c_pow => k_is)
    (case k_pow => k_is)
    (case a_cho => k_is)
    (case l_cho => k_is)
    (case c_cho => k_is)
    (case k_cho => k_is)
    (case a_bof => k_is)
    (case l_bof => k_is)
    (case c_bof => k_is)
    (case k_bof => k_is)
    (case a_nof => k_is)
    (case l_nof => k_is)
    (case c_nof => k_is)
    (case k_nof => k_is)
    (case a_cin => k_is)
    (case i_cin => k_is)
    (case l_cin => k_is)
    (case c_cin => k_is)
    (case k_cin => k_is)
    (case a_cmy => k_is)
    (case i_cmy => k_is)
    (case l_cmy => k_is)
    (case c_cmy => k_is)
    (case k_cmy => k_is)
    (case a_cvw => k_is)
    (case i_cvw => k_is)
    (case l_cvw => k_is)
    (case c_cvw => k_is)
    (case k_cvw => k_is)
    (case a_cof => k_is)
    (case l_cof => k_is)
    (case c_cof => k_is)
    (case k_cof => k_is)
    (case a_cmp => k_is)
    (case l_cmp => k_is)
    (case c_cmp => k_is)
    (case k_cmp => k_is)
    (case a_alc => k_is)
    (case l_alc => k_is)
    (case c_alc => k_is)
    (case k_alc => k_is)
    (case a_hal => k_is)
    (case l_hal => k_is)
    (case c_hal => k_is)
    (case k_hal => k_is)
    (case a_sah => k_is)
    (case l_sah => k_is)
    (case c_sah => k_is)
    (case k_sah => k_is)
    (case a_nar => k_is)
    (case l_nar => k_is)
    (case c_nar => k_is)
    (case k_nar => k_is)
    (case a_fha => k_is)
    (case l_fha => k_is)
    (case c_fha => k_is)
    (case k_fha => k_is)
    (case a_fby => k_is)
    (case l_fby => k_is)
    (case c_fby => k_is)
    (case k_fby => k_is)
    (case a_sho => k_is)
    (case l_sho => k_is)
    (case c_sho => k_is)
    (case k_sho => k_is)
    (case a_lco => k_is)
    (case l_lco => k_is)
    (case c_lco => k_is)
    (case k_lco => k_is)
    (case a_cod => k_is)
    (case l_cod => k_is)
    (case c_cod => k_is)
    (case k_cod => k_is)
    (case a_bgn => k_is)
    (case l_bgn => k_is)
    (case c_bgn => k_is)
    (case k_bgn => k_is)
    (case a_lrd => k_is)
    (case l_lrd => k_is)
    (case c_lrd => k_is)
    (case k_lrd => k_is)
    (case a_rdc => k_is)
    (case l_rdc => k_is)
    (case c_rdc => k_is)
    (case k_rdc => k_is)
    (case a_cwh => k_is)
    (case l_cwh => k_is)
    (case c_cwh => k_is)
    (case k_cwh => k_is)
    (case a_sin => k_is)
    (case i_sin => k_is)
    (case l_sin => k_is)
    (case c_sin => k_is)
    (case k_sin => k_is)
    (case a_spt => k_is)
    (case i_spt => k_is)
    (case l_spt => k_is)
    (case c_spt => k_is)
    (case k_spt => k_is)
    (case a_sck => k_is)
    (case i_sck => k_is)
    (case l_sck => k_is)
    (case c_sck => k_is)
    (case k_sck => k_is)
    (case a_swv => k_is)
    (case i_swv => k_is)
    (case l_swv => k_is)
    (case c_swv => k_is)
    (case k_swv => k_is)
    (case a_spo => k_is)
    (case i_spo => k_is)
    (case l_spo => k_is)
    (case c_spo => k_is)
    (case k_spo => k_is)
    (case a_lnu => k_is)
    (case l_lnu => k_is)
    (case c_lnu => k_is)
    (case k_lnu => k_is)
    (case a_lta => k_is)
    (case l_lta => k_is)
    (case c_lta => k_is)
    (case k_lta => k_is)
    (case a_lpi => k_is)
    (case l_lpi => k_is)
    (case c_lpi => k_is)
    (case k_lpi => k_is)
    (case a_lpw => k_is)
    (case l_lpw => k_is)
    (case c_lpw => k_is)
    (case k_lpw => k_is)
    (case a_lsp => k_is)
    (case l_lsp => k_is)
    (case c_lsp => k_is)
    (case k_lsp => k_is)
    (case a_lpt => k_is)
    (case l_lpt => k_is)
    (case c_lpt => k_is)
    (case k_lpt => k_is)
    (case a_lps => k_is)
    (case l_lps => k_is)
    (case c_lps => k_is)
    (case k_lps => k_is)
    (case a_lcl => k_is)
    (case l_lcl => k_is)
    (case c_lcl => k_is)
    (case k_lcl => k_is)
    (case a_lca => k_is)
    (case l_lca => k_is)
    (case c_lca => k_is)
    (case k_lca => k_is)
    (case a_lit => k_is)
    (case l_lit => k_is)
    (case c_lit => k_is)
    (case k_lit => k_is)
    (case a_lio => k_is)
    (case l_lio => k_is)
    (case c_lio => k_is)
    (case k_lio => k_is)
    (case a_lco2 => k_is)
    (case l_lco2 => k_is)
    (case c_lco2 => k_is)
    (case k_lco2 => k_is)
    (case a_law => k_is)
    (case l_law => k_is)
    (case c_law => k_is)
    (case k_law => k_is)


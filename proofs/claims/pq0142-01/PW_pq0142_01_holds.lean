import PyProof.Rows.All
import Wide.All
import OpenK.AllK
import Wide.FinOn
import Lean
import PySem.Challenge.RW_pq0142_01
set_option Elab.async false
set_option maxRecDepth 100000
set_option linter.unusedVariables false
namespace Mine
section
/-! the plain functions -/
noncomputable def figsN (n : Nat) : Nat := if n < 10 then 1 else figsN (n / 10) + 1
termination_by n
noncomputable def figs (n : Int) : Int := figsN n.toNat
theorem figsN_pos (n : Nat) : 1 ≤ figsN n := by
  unfold figsN; split <;> omega
theorem figsN_lt (n : Nat) : n < 10 ^ figsN n := by
  induction n using Nat.strongRecOn with
  | _ n ih =>
    rw [figsN]
    split
    · simpa using (by assumption : n < 10)
    · have := ih (n / 10) (by omega)
      rw [Nat.pow_succ]
      omega
theorem figsN_le (n : Nat) (h : 10 ≤ n) : 10 ^ (figsN n - 1) ≤ n := by
  induction n using Nat.strongRecOn with
  | _ n ih =>
    rw [figsN, if_neg (by omega)]
    by_cases h2 : 10 ≤ n / 10
    · have := ih (n / 10) (by omega) h2
      have p := figsN_pos (n / 10)
      obtain ⟨k, hk⟩ : ∃ k, figsN (n / 10) = k + 1 := ⟨figsN (n / 10) - 1, by omega⟩
      rw [hk] at this ⊢
      simp only [Nat.add_sub_cancel] at this ⊢
      rw [Nat.pow_succ]
      omega
    · have : figsN (n / 10) = 1 := by rw [figsN, if_pos (by omega)]
      rw [this]
      simpa using h
theorem figsN_unique {n k : Nat} (hk : 1 ≤ k) (hlt : n < 10 ^ k) (hle : k = 1 ∨ 10 ^ (k - 1) ≤ n) : figsN n = k := by
  have a := figsN_lt n
  have p := figsN_pos n
  rcases Nat.lt_trichotomy (figsN n) k with h | h | h
  · rcases hle with h1 | h1
    · omega
    · have : 10 ^ figsN n ≤ 10 ^ (k - 1) := Nat.pow_le_pow_right (by omega) (by omega)
      omega
  · exact h
  · by_cases h10 : 10 ≤ n
    · have b := figsN_le n h10
      have : 10 ^ k ≤ 10 ^ (figsN n - 1) := Nat.pow_le_pow_right (by omega) (by omega)
      omega
    · have : figsN n = 1 := by rw [figsN, if_pos (by omega)]
      omega
theorem figs_unique {n : Int} {k : Nat} (hk : 1 ≤ k) (hlt : n < 10 ^ k) (hle : k = 1 ∨ (10 : Int) ^ (k - 1) ≤ n) : figs n = k := by
  unfold figs
  rw [figsN_unique hk]
  · have : (n.toNat : Int) < ((10 ^ k : Nat) : Int) := by
      rcases Int.lt_or_le n 0 with h | h
      · rw [Int.toNat_of_nonpos (by omega)]
        exact Int.ofNat_lt.mpr (Nat.pow_pos (by omega))
      · rw [Int.toNat_of_nonneg h]
        simpa using hlt
    exact Int.ofNat_lt.mp this
  · rcases hle with h | h
    · exact .inl h
    · refine .inr ?_
      have h0 : (0 : Int) ≤ 10 ^ (k - 1) := Int.le_of_lt (Int.pow_pos (by decide))
      have : ((10 ^ (k - 1) : Nat) : Int) ≤ (n.toNat : Int) := by
        rw [Int.toNat_of_nonneg (by omega)]
        simpa using h
      exact Int.ofNat_le.mp this
noncomputable def rounded (n p : Int) : Int :=
  if p ≤ 0 then n else if figs n + 1 < p then 0 else
  if 10 ^ p.toNat < 2 * n.fmod (10 ^ p.toNat) ∨ (2 * n.fmod (10 ^ p.toNat) = 10 ^ p.toNat ∧ (n.fdiv (10 ^ p.toNat)).fmod 2 = 1) then n.fdiv (10 ^ p.toNat) + 1 else n.fdiv (10 ^ p.toNat)
noncomputable def absI (c : Int) : Int := if c < 0 then -c else c
noncomputable def stripN (n : Nat) (e : Int) : Nat × Int := if n = 0 then (n, e) else if n % 10 = 0 then stripN (n / 10) (e + 1) else (n, e)
termination_by n
noncomputable def stripI (n e : Int) : Int × Int := (((stripN n.toNat e).1 : Int), (stripN n.toNat e).2)
noncomputable def made1 (c e d : Int) : Int × Int := if 0 < figs (absI c) - d then (rounded (absI c) (figs (absI c) - d), e + (figs (absI c) - d)) else (absI c, e)
noncomputable def made2 (c : Int) (r : Int × Int) : Option (Int × Int) :=
  if 99 < r.2 + figs r.1 - 1 then none else if r.2 + figs r.1 - 1 < -99 then some (0, 0) else some (if c < 0 then -r.1 else r.1, r.2)
noncomputable def made (c e d : Int) : Option (Int × Int) :=
  if (made1 c e d).1 = 0 then some (0, 0) else made2 c (stripI (made1 c e d).1 (made1 c e d).2)
noncomputable def wholeNear (c e : Int) : Int := if 0 ≤ e then c * 10 ^ e.toNat else if c < 0 then -(rounded (absI c) (-e)) else rounded (absI c) (-e)
noncomputable def fitsB (n b : Int) : Bool := decide (-(2 ^ (b - 1).toNat) ≤ n ∧ n < 2 ^ (b - 1).toNat)
theorem nat_of {x : Int} (h : 0 ≤ x) : ∃ k : Nat, x = k := ⟨x.toNat, (Int.toNat_of_nonneg h).symm⟩
theorem fm10 (k : Nat) : (k : Int).fmod 10 = ((k % 10 : Nat) : Int) := Int.fmod_eq_emod_of_nonneg _ (by decide)
theorem fd10 (k : Nat) : (k : Int).fdiv 10 = ((k / 10 : Nat) : Int) := Int.fdiv_eq_ediv_of_nonneg _ (by decide)
theorem stripI_nat (k : Nat) (e : Int) : stripI k e = (((stripN k e).1 : Int), (stripN k e).2) := rfl
theorem stripI_step {x e : Int} (h0 : 0 < x) (h : x.fmod 10 = 0) : stripI x e = stripI (x.fdiv 10) (e + 1) ∧ 0 < x.fdiv 10 ∧ (x.fdiv 10).toNat < x.toNat := by
  obtain ⟨k, rfl⟩ := nat_of (Int.le_of_lt h0)
  have hk : 0 < k := Int.natCast_pos.mp h0
  rw [fm10] at h
  have hm : k % 10 = 0 := Int.ofNat.inj h
  have e1 : stripN k e = stripN (k / 10) (e + 1) := by rw [stripN, if_neg (Nat.ne_of_gt hk), if_pos hm]
  rw [fd10, stripI_nat, stripI_nat, e1]
  exact ⟨rfl, Int.natCast_pos.mpr (Nat.div_pos (Nat.le_of_dvd hk (Nat.dvd_of_mod_eq_zero hm)) (by decide)), Nat.div_lt_self hk (by decide)⟩
theorem stripI_stop {x e : Int} (h0 : 0 < x) (h : ¬ x.fmod 10 = 0) : stripI x e = (x, e) := by
  obtain ⟨k, rfl⟩ := nat_of (Int.le_of_lt h0)
  rw [fm10] at h
  rw [stripI_nat, stripN, if_neg (Nat.ne_of_gt (Int.natCast_pos.mp h0)), if_neg fun z => h (congrArg Int.ofNat z)]
theorem figs_pos (n : Int) : 1 ≤ figs n := by
  have := figsN_pos n.toNat
  unfold figs; omega
theorem rounded_nonneg {n p : Int} (h : 0 ≤ n) : 0 ≤ rounded n p := by
  have h1 : 0 ≤ n.fdiv (10 ^ p.toNat) := Int.fdiv_nonneg h (Int.le_of_lt (Int.pow_pos (by decide)))
  unfold rounded
  (repeat' split) <;> omega
theorem absI_nonneg (c : Int) : 0 ≤ absI c := by unfold absI; split <;> omega
theorem made_zero {c e d : Int} {p : Int × Int} (h : made c e d = some p) (h0 : (made1 c e d).1 = 0) : p = (0, 0) := by
  unfold made at h
  rw [if_pos h0] at h
  exact (Option.some.inj h).symm
theorem made_tail {c e d x e' : Int} {p : Int × Int} (h : made c e d = some p) (h0 : (made1 c e d).1 ≠ 0) (hst : stripI x e' = stripI (made1 c e d).1 (made1 c e d).2) (hs : stripI x e' = (x, e')) : made2 c (x, e') = some p := by
  unfold made at h
  rw [if_neg h0, ← hst, hs] at h
  exact h
noncomputable def alike (c1 e1 c2 e2 : Int) : Int × Int × Int := (c1 * 10 ^ (e1 - min e1 e2).toNat, c2 * 10 ^ (e2 - min e1 e2).toNat, min e1 e2)
noncomputable def dAdd (c1 e1 c2 e2 d : Int) : Option (Int × Int) := made ((alike c1 e1 c2 e2).1 + (alike c1 e1 c2 e2).2.1) (alike c1 e1 c2 e2).2.2 d
noncomputable def withRest (w r e : Int) : Int × Int := if r = 0 then (w, e) else (w * 10 + 1, e - 1)
noncomputable def cmpI (x y : Int) : Int := (if y < x then 1 else 0) - (if x < y then 1 else 0)
noncomputable def dCompare (c1 e1 c2 e2 : Int) : Int := cmpI (alike c1 e1 c2 e2).1 (alike c1 e1 c2 e2).2.1
noncomputable def divPlaces (c1 c2 d : Int) : Int := d + 2 + max 0 (figs (absI c2) - figs (absI c1))
noncomputable def divQ (c1 e1 c2 e2 d : Int) : Int × Int :=
  withRest ((absI c1 * 10 ^ (divPlaces c1 c2 d).toNat).fdiv (absI c2)) ((absI c1 * 10 ^ (divPlaces c1 c2 d).toNat).fmod (absI c2)) (e1 - e2 - divPlaces c1 c2 d)
noncomputable def divC (c1 e1 c2 e2 d : Int) : Int := if (decide (c1 < 0) == decide (c2 < 0)) = true then (divQ c1 e1 c2 e2 d).1 else 0 - (divQ c1 e1 c2 e2 d).1
end
section
/-! whole numbers as decimals -/
noncomputable def lawGo (n : Int) (t : Int) : Int × Int := if n ≠ 0 ∧ n.fmod 10 = 0 then lawGo (n.fdiv 10) (t + 1) else (n, t)
termination_by n.natAbs
decreasing_by
  rename_i h
  rw [Int.fdiv_eq_ediv_of_nonneg _ (by decide)]
  rw [Int.fmod_eq_emod_of_nonneg _ (by decide)] at h
  omega
noncomputable def lawDec (n : Int) : Int × Int := lawGo n 0
theorem lawGo_pow {m : Int} (h0 : m ≠ 0) (h1 : m % 10 ≠ 0) : ∀ (t : Nat) (s : Int), lawGo (m * 10 ^ t) s = (m, s + t)
  | 0, s => by
    rw [lawGo, if_neg]
    · simp
    · rw [Int.fmod_eq_emod_of_nonneg _ (by decide)]; simp only [Int.pow_zero, Int.mul_one]; exact fun q => h1 q.2
  | t + 1, s => by
    have e : m * 10 ^ (t + 1) = (m * 10 ^ t) * 10 := by rw [Int.pow_succ, Int.mul_assoc]
    have hz : m * 10 ^ t ≠ 0 := Int.mul_ne_zero h0 (Int.ne_of_gt (Int.pow_pos (by decide)))
    have ih := lawGo_pow h0 h1 t (s + 1)
    rw [e, lawGo, if_pos]
    · rw [Int.fdiv_eq_ediv_of_nonneg _ (by decide), Int.mul_ediv_cancel _ (by decide), ih]
      refine Prod.ext rfl ?_
      show s + 1 + (t : Int) = s + ((t + 1 : Nat) : Int)
      omega
    · rw [Int.fmod_eq_emod_of_nonneg _ (by decide)]
      refine ⟨?_, by omega⟩
      generalize m * 10 ^ t = z at hz
      omega
theorem lawDec_pow {m : Int} (h0 : m ≠ 0) (h1 : m % 10 ≠ 0) (t : Nat) : lawDec (m * 10 ^ t) = (m, (t : Int)) := by
  unfold lawDec; rw [lawGo_pow h0 h1]; simp
theorem lawDec_zero : lawDec 0 = (0, 0) := by
  unfold lawDec; rw [lawGo, if_neg]; simp
/-- every number but nought is a coefficient without a nought at its end, times a power of ten -/
theorem core_of : ∀ (k : Nat) (n : Int), n.natAbs ≤ k → n ≠ 0 → ∃ (m : Int) (t : Nat), n = m * 10 ^ t ∧ m ≠ 0 ∧ m % 10 ≠ 0
  | 0, n, h, h0 => by omega
  | k + 1, n, h, h0 => by
    by_cases h1 : n % 10 = 0
    · obtain ⟨m, t, e, a, b⟩ := core_of k (n / 10) (by omega) (by omega)
      refine ⟨m, t + 1, ?_, a, b⟩
      have : n = (n / 10) * 10 := by omega
      rw [this, e, Int.pow_succ, Int.mul_assoc]
    · exact ⟨n, 0, by simp, h0, h1⟩
theorem core (n : Int) (h0 : n ≠ 0) : ∃ (m : Int) (t : Nat), n = m * 10 ^ t ∧ m ≠ 0 ∧ m % 10 ≠ 0 ∧ lawDec n = (m, (t : Int)) := by
  obtain ⟨m, t, e, a, b⟩ := core_of _ n (Nat.le_refl _) h0
  exact ⟨m, t, e, a, b, by rw [e]; exact lawDec_pow a b t⟩
theorem absI_mul10 (m : Int) (t : Nat) : absI (m * 10 ^ t) = absI m * 10 ^ t := by
  have p : (0 : Int) < 10 ^ t := Int.pow_pos (by decide)
  unfold absI
  by_cases h : m < 0
  · rw [if_pos h, if_pos (Int.mul_neg_of_neg_of_pos h p), Int.neg_mul]
  · rw [if_neg h, if_neg (Int.not_lt.mpr (Int.mul_nonneg (Int.not_lt.mp h) (Int.le_of_lt p)))]
theorem absI_eq (m : Int) : absI m = m.natAbs := by unfold absI; split <;> omega
theorem stripN_pow {m : Nat} (h0 : m ≠ 0) (h1 : m % 10 ≠ 0) : ∀ (t : Nat) (e : Int), stripN (m * 10 ^ t) e = (m, e + t)
  | 0, e => by rw [stripN, if_neg (by simpa using h0), if_neg (by simpa using h1)]; simp
  | t + 1, e => by
    have q : m * 10 ^ (t + 1) = (m * 10 ^ t) * 10 := by rw [Nat.pow_succ, Nat.mul_assoc]
    have hz : m * 10 ^ t ≠ 0 := Nat.mul_ne_zero h0 (Nat.ne_of_gt (Nat.pow_pos (by decide)))
    rw [q, stripN, if_neg (by omega), if_pos (by omega), Nat.mul_div_cancel _ (by decide), stripN_pow h0 h1 t]
    refine Prod.ext rfl ?_
    show e + 1 + (t : Int) = e + ((t + 1 : Nat) : Int)
    omega
theorem toNat_mul10 (k t : Nat) : ((k : Int) * 10 ^ t).toNat = k * 10 ^ t := by
  rw [show (10 : Int) ^ t = ((10 ^ t : Nat) : Int) from (Int.natCast_pow 10 t).symm, ← Int.natCast_mul, Int.toNat_natCast]
theorem stripI_pow {m : Int} (h0 : 0 < m) (h1 : m % 10 ≠ 0) (t : Nat) (e : Int) : stripI (m * 10 ^ t) e = (m, e + t) := by
  obtain ⟨k, rfl⟩ := nat_of (Int.le_of_lt h0)
  unfold stripI
  rw [toNat_mul10, stripN_pow (Nat.ne_of_gt (Int.natCast_pos.mp h0)) fun z => h1 (congrArg Int.ofNat z)]
theorem figsN_mul10 (n : Nat) (h : n ≠ 0) : ∀ t : Nat, figsN (n * 10 ^ t) = figsN n + t
  | 0 => by simp
  | t + 1 => by
    have hz : n * 10 ^ t ≠ 0 := Nat.mul_ne_zero h (Nat.ne_of_gt (Nat.pow_pos (by decide)))
    rw [show n * 10 ^ (t + 1) = (n * 10 ^ t) * 10 by rw [Nat.pow_succ, Nat.mul_assoc], figsN, if_neg (by omega), Nat.mul_div_cancel _ (by decide), figsN_mul10 n h t]
    omega
theorem figs_mul10 {m : Int} (h : 0 < m) (t : Nat) : figs (m * 10 ^ t) = figs m + t := by
  obtain ⟨k, rfl⟩ := nat_of (Int.le_of_lt h)
  unfold figs
  rw [toNat_mul10, Int.toNat_natCast, figsN_mul10 _ (Nat.ne_of_gt (Int.natCast_pos.mp h))]
  exact Int.natCast_add _ _
theorem figsN_le_of_lt {n k : Nat} (hk : 1 ≤ k) (h : n < 10 ^ k) : figsN n ≤ k := by
  by_cases h10 : 10 ≤ n
  · have a := figsN_le n h10
    have : 10 ^ (figsN n - 1) < 10 ^ k := Nat.lt_of_le_of_lt a h
    have := (Nat.pow_lt_pow_iff_right (by decide : 1 < 10)).mp this
    omega
  · rw [figsN, if_pos (by omega)]; exact hk
theorem figs_le_of_lt {n : Int} {k : Nat} (hk : 1 ≤ k) (h : n < 10 ^ k) : figs n ≤ k := by
  unfold figs
  refine Int.ofNat_le.mpr (figsN_le_of_lt hk ?_)
  rcases Int.lt_or_le n 0 with h0 | h0
  · rw [Int.toNat_of_nonpos (by omega)]; exact Nat.pow_pos (by decide)
  · have : (n.toNat : Int) < ((10 ^ k : Nat) : Int) := by rw [Int.toNat_of_nonneg h0]; simpa using h
    exact Int.ofNat_lt.mp this
theorem absI_pos {m : Int} (h : m ≠ 0) : 0 < absI m := by rw [absI_eq]; exact Int.natCast_pos.mpr (Int.natAbs_pos.mpr h)
theorem absI_mod {m : Int} (h : m % 10 ≠ 0) : absI m % 10 ≠ 0 := by rw [absI_eq]; omega
theorem figs_0 : figs (absI 0) = 1 := by
  unfold figs
  rw [show (absI 0).toNat = 0 from rfl, figsN, if_pos (by decide)]; rfl
theorem sg_mul {m x : Int} {t : Nat} (e : x = m * 10 ^ t) : (if x < 0 then -absI m else absI m) = m := by
  have p : (0 : Int) < 10 ^ t := Int.pow_pos (by decide)
  subst e
  unfold absI
  by_cases hc : m < 0
  · rw [if_pos (Int.mul_neg_of_neg_of_pos hc p), if_pos hc, Int.neg_neg]
  · rw [if_neg (Int.not_lt.mpr (Int.mul_nonneg (Int.not_lt.mp hc) (Int.le_of_lt p))), if_neg hc]
theorem made2_in {c x e : Int} (h1 : e + figs x ≤ 100) (h2 : -98 ≤ e + figs x) : made2 c (x, e) = some (if c < 0 then -x else x, e) := by
  unfold made2
  rw [if_neg (by show ¬ 99 < e + figs x - 1; omega), if_neg (by show ¬ e + figs x - 1 < -99; omega)]
theorem made_of {c e d x e' y v : Int} (h1 : made1 c e d = (x, e')) (h0 : x ≠ 0) (h2 : stripI x e' = (y, v)) (h3 : v + figs y ≤ 100) (h4 : -98 ≤ v + figs y) : made c e d = some (if c < 0 then -y else y, v) := by
  unfold made
  rw [h1]
  exact (if_neg h0).trans ((congrArg (made2 c) h2).trans (made2_in h3 h4))
theorem made_0 {e d : Int} (h : 30 ≤ d) : made 0 e d = some (0, 0) := by
  have h1 : made1 0 e d = (0, e) := by unfold made1; rw [figs_0, if_neg (Int.not_lt.mpr (by omega))]; rfl
  unfold made
  rw [h1]
  rfl
theorem absI_lt0 {n : Int} {k : Nat} (h : n.natAbs < 10 ^ k) : absI n < 10 ^ k := by
  rw [absI_eq, show (10 : Int) ^ k = ((10 ^ k : Nat) : Int) from (Int.natCast_pow 10 k).symm]
  exact Int.ofNat_lt.mpr h
/-- a number of no more than d figures, made a decimal: its own worth -/
theorem made_whole {c d : Int} {e : Nat} (hd : 30 ≤ d) (h : (c * 10 ^ e).natAbs < 10 ^ 29) : made c (e : Int) d = some (lawDec (c * 10 ^ e)) := by
  by_cases h0 : c = 0
  · subst h0
    rw [Int.zero_mul, lawDec_zero]
    exact made_0 hd
  · obtain ⟨m, t, e1, a, b, _⟩ := core c h0
    have hm : absI c = absI m * 10 ^ t := by rw [e1, absI_mul10]
    have hf2 : figs (absI c) = figs (absI m) + t := by rw [hm, figs_mul10 (absI_pos a)]
    have hf : figs (absI c) + e ≤ (29 : Nat) := by
      rw [← figs_mul10 (absI_pos h0), ← absI_mul10]
      exact figs_le_of_lt (by decide) (absI_lt0 h)
    have f1 := figs_pos (absI m)
    rw [made_of (y := absI m) (v := (e : Int) + t) (if_neg (Int.not_lt.mpr (by omega))) (Int.ne_of_gt (absI_pos h0)) (by rw [hm]; exact stripI_pow (absI_pos a) (absI_mod b) t e) (by omega) (by omega), sg_mul e1, e1, Int.mul_assoc, ← Int.pow_add, lawDec_pow a b, Int.natCast_add, Int.add_comm]
theorem lawDec_worth (n : Int) : ∃ t : Nat, (lawDec n).2 = t ∧ (lawDec n).1 * 10 ^ t = n := by
  by_cases h : n = 0
  · subst h; exact ⟨0, by rw [lawDec_zero]; rfl, by rw [lawDec_zero]; rfl⟩
  · obtain ⟨m, t, e, _, _, q⟩ := core n h
    exact ⟨t, by rw [q], by rw [q]; exact e.symm⟩
theorem natAbs_le_mul10 (m : Int) (t : Nat) : m.natAbs ≤ (m * 10 ^ t).natAbs := by
  rw [Int.natAbs_mul]
  exact Nat.le_mul_of_pos_right _ (by rw [Int.natAbs_pow]; exact Nat.pow_pos (by decide))
theorem lawDec_le (n : Int) : (lawDec n).1.natAbs ≤ n.natAbs := by
  obtain ⟨t, _, e⟩ := lawDec_worth n
  rw [← e]
  have := natAbs_le_mul10 (lawDec n).1 t
  rw [e] at this ⊢
  exact this
theorem lawDec_exp {n : Int} {k : Nat} (h : n.natAbs < 10 ^ k) : (lawDec n).2 ≤ k := by
  by_cases h0 : n = 0
  · subst h0; rw [lawDec_zero]; show (0 : Int) ≤ k; omega
  · obtain ⟨m, t, e, a, _, q⟩ := core n h0
    rw [q]
    have : 10 ^ t < 10 ^ k := by
      refine Nat.lt_of_le_of_lt ?_ h
      rw [e, Int.natAbs_mul, Int.natAbs_pow]
      exact Nat.le_mul_of_pos_left _ (by omega)
    have := (Nat.pow_lt_pow_iff_right (by decide : 1 < 10)).mp this
    show (t : Int) ≤ k
    omega
end
section
theorem min_cast (t v : Nat) : min (t : Int) v = ((min t v : Nat) : Int) := by omega
theorem sub_min_l (t v : Nat) : ((t : Int) - min (t : Int) v).toNat = t - min t v := by
  rw [min_cast]; exact Int.toNat_sub t (min t v)
theorem sub_min_r (t v : Nat) : ((v : Int) - min (t : Int) v).toNat = v - min t v := by
  rw [min_cast]; exact Int.toNat_sub v (min t v)
theorem alike_law (a b : Int) : ∃ l : Nat, (alike (lawDec a).1 (lawDec a).2 (lawDec b).1 (lawDec b).2).2.2 = l ∧
    (alike (lawDec a).1 (lawDec a).2 (lawDec b).1 (lawDec b).2).1 * 10 ^ l = a ∧ (alike (lawDec a).1 (lawDec a).2 (lawDec b).1 (lawDec b).2).2.1 * 10 ^ l = b := by
  obtain ⟨t, e1, e2⟩ := lawDec_worth a
  obtain ⟨v, f1, f2⟩ := lawDec_worth b
  refine ⟨min t v, ?_, ?_, ?_⟩
  · unfold alike; simp only; rw [e1, f1, min_cast]
  · unfold alike; simp only
    rw [e1, f1, sub_min_l, Int.mul_assoc, ← Int.pow_add, Nat.sub_add_cancel (Nat.min_le_left t v), e2]
  · unfold alike; simp only
    rw [e1, f1, sub_min_r, Int.mul_assoc, ← Int.pow_add, Nat.sub_add_cancel (Nat.min_le_right t v), f2]
theorem absI_lt' {n : Int} {k : Nat} (h : n.natAbs < 10 ^ k) : absI n < 10 ^ k := by
  rw [absI_eq]
  have : (n.natAbs : Int) < ((10 ^ k : Nat) : Int) := Int.ofNat_lt.mpr h
  simpa using this
theorem figs_small' {n : Int} (h : n.natAbs < 10 ^ 29) : figs (absI n) ≤ 29 := figs_le_of_lt (by decide) (absI_lt' h)
theorem dAdd_law {a b d : Int} (hd : 30 ≤ d) (h : (a + b).natAbs < 10 ^ 29) :
    dAdd (lawDec a).1 (lawDec a).2 (lawDec b).1 (lawDec b).2 d = some (lawDec (a + b)) ∧
    figs (absI ((alike (lawDec a).1 (lawDec a).2 (lawDec b).1 (lawDec b).2).1 + (alike (lawDec a).1 (lawDec a).2 (lawDec b).1 (lawDec b).2).2.1)) - d < 400 := by
  obtain ⟨l, h1, h2, h3⟩ := alike_law a b
  have e : ((alike (lawDec a).1 (lawDec a).2 (lawDec b).1 (lawDec b).2).1 + (alike (lawDec a).1 (lawDec a).2 (lawDec b).1 (lawDec b).2).2.1) * 10 ^ l = a + b := by
    rw [Int.add_mul, h2, h3]
  refine ⟨?_, ?_⟩
  · unfold dAdd
    rw [h1, made_whole hd (by rw [e]; exact h), e]
  · have := figs_small' (n := (alike (lawDec a).1 (lawDec a).2 (lawDec b).1 (lawDec b).2).1 + (alike (lawDec a).1 (lawDec a).2 (lawDec b).1 (lawDec b).2).2.1)
      (Nat.lt_of_le_of_lt (natAbs_le_mul10 _ l) (by rw [e]; exact h))
    omega
theorem lawDec_neg (n : Int) : lawDec (-n) = (0 - (lawDec n).1, (lawDec n).2) := by
  by_cases h : n = 0
  · subst h; rw [Int.neg_zero, lawDec_zero]; rfl
  · obtain ⟨m, t, e, a, b, q⟩ := core n h
    rw [q, e, ← Int.neg_mul, lawDec_pow (by omega) (by omega)]
    exact Prod.ext (by show -m = 0 - m; omega) rfl
theorem mul_law {a b d : Int} (hd : 30 ≤ d) (h : (a * b).natAbs < 10 ^ 29) :
    made ((lawDec a).1 * (lawDec b).1) ((lawDec a).2 + (lawDec b).2) d = some (lawDec (a * b)) ∧ figs (absI ((lawDec a).1 * (lawDec b).1)) - d < 400 := by
  obtain ⟨t, e1, e2⟩ := lawDec_worth a
  obtain ⟨v, f1, f2⟩ := lawDec_worth b
  have e : (lawDec a).1 * (lawDec b).1 * 10 ^ (t + v) = a * b := by
    rw [Int.pow_add, Int.mul_assoc, ← Int.mul_assoc (lawDec b).1, Int.mul_comm (lawDec b).1, Int.mul_assoc (10 ^ t), f2, ← Int.mul_assoc, e2]
  refine ⟨?_, ?_⟩
  · rw [e1, f1, show (t : Int) + v = ((t + v : Nat) : Int) by omega, made_whole hd (by rw [e]; exact h), e]
  · have := figs_small' (n := (lawDec a).1 * (lawDec b).1) (Nat.lt_of_le_of_lt (natAbs_le_mul10 _ (t + v)) (by rw [e]; exact h))
    omega
theorem compare_law (a b : Int) : dCompare (lawDec a).1 (lawDec a).2 (lawDec b).1 (lawDec b).2 = cmpI a b := by
  obtain ⟨l, h1, h2, h3⟩ := alike_law a b
  have p : (0 : Int) < 10 ^ l := Int.pow_pos (by decide)
  unfold dCompare cmpI
  generalize (alike (lawDec a).1 (lawDec a).2 (lawDec b).1 (lawDec b).2).1 = x at h2
  generalize (alike (lawDec a).1 (lawDec a).2 (lawDec b).1 (lawDec b).2).2.1 = y at h3
  subst h2 h3
  have q1 : (y * 10 ^ l < x * 10 ^ l) ↔ y < x := ⟨fun h => Int.lt_of_mul_lt_mul_right h (Int.le_of_lt p), fun h => Int.mul_lt_mul_of_pos_right h p⟩
  have q2 : (x * 10 ^ l < y * 10 ^ l) ↔ x < y := ⟨fun h => Int.lt_of_mul_lt_mul_right h (Int.le_of_lt p), fun h => Int.mul_lt_mul_of_pos_right h p⟩
  simp only [q1, q2]
/-! division -/
theorem fdiv_exact {x y q : Int} (hy : 0 < y) (h : x = q * y) : x.fdiv y = q ∧ x.fmod y = 0 := by
  subst h
  rw [Int.fdiv_eq_ediv_of_nonneg _ (Int.le_of_lt hy), Int.fmod_eq_emod_of_nonneg _ (Int.le_of_lt hy), Int.mul_ediv_cancel _ (Int.ne_of_gt hy), Int.mul_emod_left]
  exact ⟨rfl, rfl⟩
/-- the places of a quotient's are few -/
theorem places_le {c1 c2 : Int} (h2 : c2.natAbs < 10 ^ 20) : 0 ≤ divPlaces c1 c2 30 ∧ 32 ≤ divPlaces c1 c2 30 ∧ divPlaces c1 c2 30 ≤ 52 := by
  have a := figs_pos (absI c1)
  have b : figs (absI c2) ≤ (20 : Nat) := figs_le_of_lt (by decide) (absI_lt' h2)
  unfold divPlaces
  omega
theorem rounded_le {n p : Int} (hn : 0 ≤ n) : rounded n p ≤ n + 1 := by
  have h1 : n.fdiv (10 ^ p.toNat) ≤ n := by
    have p0 : (0 : Int) < 10 ^ p.toNat := Int.pow_pos (by decide)
    rw [Int.fdiv_eq_ediv_of_nonneg _ (Int.le_of_lt p0)]
    exact Int.ediv_le_self _ hn
  unfold rounded
  (repeat' split) <;> omega
/-- rounding to places that are one after another noughts -/
theorem rounded_exact {q : Int} {k : Nat} {p : Int} (h0 : 0 < q) (hp : 0 < p) (hk : p ≤ k) : rounded (q * 10 ^ k) p = q * 10 ^ (k - p.toNat) := by
  obtain ⟨j, rfl⟩ : ∃ j : Nat, p = j := ⟨p.toNat, by omega⟩
  have p0 : (0 : Int) < 10 ^ j := Int.pow_pos (by decide)
  have hf : figs (q * 10 ^ k) = figs q + k := figs_mul10 h0 k
  have f1 := figs_pos q
  have e : q * 10 ^ k = (q * 10 ^ (k - j)) * 10 ^ j := by rw [Int.mul_assoc, ← Int.pow_add, show k - j + j = k by omega]
  obtain ⟨d1, d2⟩ := fdiv_exact p0 e
  unfold rounded
  rw [if_neg (by omega), hf, if_neg (by omega), Int.toNat_natCast, d1, d2, if_neg]
  intro h
  rcases h with h | ⟨h, _⟩ <;> omega
/-- a made decimal of a number with noughts behind -/
theorem made_noughts {q : Int} {k : Nat} (hq : q.natAbs < 10 ^ 20) : made (q * 10 ^ k) (-(k : Int)) 30 = some (lawDec q) := by
  by_cases h0 : q = 0
  · subst h0
    rw [Int.zero_mul, lawDec_zero]
    exact made_0 (Int.le_refl _)
  · obtain ⟨m, t, e1, a, b, hl⟩ := core q h0
    have ha := absI_pos h0
    have hm : absI q = absI m * 10 ^ t := by rw [e1, absI_mul10]
    have hc : absI (q * 10 ^ k) = absI q * 10 ^ k := absI_mul10 q k
    have hf : figs (absI (q * 10 ^ k)) = figs (absI q) + k := by rw [hc, figs_mul10 ha]
    have f2 : figs (absI q) ≤ (20 : Nat) := figs_le_of_lt (by decide) (absI_lt0 hq)
    have f3 : figs (absI q) = figs (absI m) + t := by rw [hm, figs_mul10 (absI_pos a)]
    have f4 := figs_pos (absI m)
    obtain ⟨j, e', hj, hm1⟩ : ∃ (j : Nat) (e' : Int), e' + j = 0 ∧ made1 (q * 10 ^ k) (-(k : Int)) 30 = (absI q * 10 ^ j, e') := by
      unfold made1
      by_cases h : 0 < figs (absI (q * 10 ^ k)) - 30
      · rw [if_pos h, hf]
        rw [hf] at h
        have hr := rounded_exact (q := absI q) (k := k) ha h (by omega)
        exact ⟨k - (figs (absI q) + k - 30).toNat, -(k : Int) + (figs (absI q) + k - 30), by clear hr f3; omega, by rw [hc, hr]⟩
      · rw [if_neg h, hc]
        exact ⟨k, _, Int.add_left_neg _, rfl⟩
    have hs : stripI (absI q * 10 ^ j) e' = (absI m, (t : Int)) := by
      rw [hm, Int.mul_assoc, ← Int.pow_add, stripI_pow (absI_pos a) (absI_mod b), Int.natCast_add, Int.add_comm (t : Int), ← Int.add_assoc, hj, Int.zero_add]
    rw [made_of hm1 (Int.ne_of_gt (Int.mul_pos ha (Int.pow_pos (by decide)))) hs (by omega) (by omega), hl]
    rw [sg_mul (t := t + k) (by rw [e1, Int.mul_assoc, ← Int.pow_add])]
end
section
theorem strip_sum {n e : Int} (h : 0 < n) : (stripI n e).2 + figs (stripI n e).1 = e + figs n ∧ 0 < (stripI n e).1 := by
  obtain ⟨m, t, e1, a, b, _⟩ := core n (by omega)
  have p : (0 : Int) < 10 ^ t := Int.pow_pos (by decide)
  have hm : 0 < m := by
    rcases Int.lt_or_lt_of_ne a with h1 | h1
    · have := Int.mul_neg_of_neg_of_pos h1 p; omega
    · exact h1
  rw [e1, stripI_pow hm b, figs_mul10 hm]
  exact ⟨by show e + t + figs m = e + (figs m + t); omega, hm⟩
theorem figs_mono1 {n k : Int} (hk : 1 ≤ k) (h : n ≤ k) : figs n ≤ figs k := by
  refine figs_le_of_lt (figsN_pos _) (Int.lt_of_le_of_lt h ?_)
  have a := Int.ofNat_lt.mpr (figsN_lt k.toNat)
  rw [Int.toNat_of_nonneg (Int.le_trans (by decide) hk), Int.natCast_pow] at a
  exact a
theorem figs_succ {n : Int} (h : 0 ≤ n) : figs (n + 1) ≤ figs n + 1 := by
  by_cases h0 : n = 0
  · subst h0
    have : figs (0 + 1) ≤ (1 : Nat) := figs_le_of_lt (by decide) (by decide)
    have := figs_pos 0
    omega
  · have h1 : figs (n + 1) ≤ figs (n * 10 ^ 1) := figs_mono1 (by omega) (by omega)
    rw [figs_mul10 (by omega)] at h1
    omega
theorem made_exists {c e : Int} (hf : figs (absI c) ≤ 66) (he : e ≤ -20) : ∃ p, made c e 30 = some p := by
  have hn := absI_nonneg c
  have f1 := figs_pos (absI c)
  have hb : 0 ≤ (made1 c e 30).1 ∧ (made1 c e 30).2 + figs (made1 c e 30).1 ≤ 90 := by
    unfold made1
    by_cases h : 0 < figs (absI c) - 30
    · rw [if_pos h]
      have r2 := figs_mono1 (n := rounded (absI c) (figs (absI c) - 30)) (Int.add_le_add_right hn 1) (rounded_le hn)
      have r3 := figs_succ hn
      exact ⟨rounded_nonneg hn, by show e + (figs (absI c) - 30) + figs (rounded (absI c) (figs (absI c) - 30)) ≤ 90; omega⟩
    · rw [if_neg h]
      exact ⟨hn, by show e + figs (absI c) ≤ 90; omega⟩
  unfold made
  by_cases h0 : (made1 c e 30).1 = 0
  · rw [if_pos h0]; exact ⟨_, rfl⟩
  · rw [if_neg h0]
    have s := Int.le_trans (Int.le_of_eq (strip_sum (e := (made1 c e 30).2) (Int.lt_iff_le_and_ne.mpr ⟨hb.1, Ne.symm h0⟩)).1) hb.2
    unfold made2
    rw [if_neg (by clear hb h0; omega)]
    by_cases q : (stripI (made1 c e 30).1 (made1 c e 30).2).2 + figs (stripI (made1 c e 30).1 (made1 c e 30).2).1 - 1 < -99
    · rw [if_pos q]; exact ⟨_, rfl⟩
    · rw [if_neg q]; exact ⟨_, rfl⟩
theorem divQ_nonneg {c1 e1 c2 e2 : Int} (h2 : c2 ≠ 0) : 0 ≤ (absI c1 * 10 ^ (divPlaces c1 c2 30).toNat).fdiv (absI c2) := by
  have p : (0 : Int) < 10 ^ (divPlaces c1 c2 30).toNat := Int.pow_pos (by decide)
  exact Int.fdiv_nonneg (Int.mul_nonneg (absI_nonneg c1) (Int.le_of_lt p)) (absI_nonneg c2)
theorem absI_sg {w : Int} {s : Bool} (h : 0 ≤ w) : absI (if s = true then w else 0 - w) = w := by
  cases s
  · show absI (0 - w) = w; rw [absI_eq]; omega
  · show absI w = w; rw [absI_eq]; omega
theorem quo_lt {x y : Int} {p : Nat} (hx : x < 10 ^ 10) (hp : p ≤ 52) (h0 : 0 ≤ x) (hy : 0 < y) : (x * 10 ^ p).fdiv y < 10 ^ 62 := by
  have p0 : (0 : Int) < 10 ^ p := Int.pow_pos (by decide)
  rw [Int.fdiv_eq_ediv_of_nonneg _ (Int.le_of_lt hy)]
  refine Int.lt_of_le_of_lt (Int.ediv_le_self _ (Int.mul_nonneg h0 (Int.le_of_lt p0))) (Int.lt_of_lt_of_le (Int.mul_lt_mul_of_pos_right hx p0) ?_)
  have z := Int.ofNat_le.mpr (Nat.pow_le_pow_right (n := 10) (by decide) (Nat.add_le_add_left hp 10))
  rw [Int.natCast_pow, Int.natCast_pow, Int.pow_add] at z
  exact z
theorem rest_le {w r e : Int} (h0 : 0 ≤ w) (h1 : w < 10 ^ 62) (h2 : e ≤ -20) : 0 ≤ (withRest w r e).1 ∧ (withRest w r e).1 < 10 ^ 64 ∧ (withRest w r e).2 ≤ -20 := by
  unfold withRest
  split
  · exact ⟨h0, Int.lt_trans h1 (by decide), h2⟩
  · exact ⟨by show 0 ≤ w * 10 + 1; omega, by show w * 10 + 1 < 10 ^ 64; omega, by show e - 1 ≤ -20; omega⟩
theorem div_facts {a b : Int} (ha : a.natAbs < 10 ^ 10) (hb : b.natAbs < 10 ^ 10) (h0 : b ≠ 0) :
    figs (absI (divC (lawDec a).1 (lawDec a).2 (lawDec b).1 (lawDec b).2 30)) ≤ 66 ∧ (divQ (lawDec a).1 (lawDec a).2 (lawDec b).1 (lawDec b).2 30).2 ≤ -20 := by
  have he1 : (lawDec a).2 ≤ (10 : Nat) := lawDec_exp ha
  obtain ⟨t, f1, f2⟩ := lawDec_worth b
  have hc0 : (lawDec b).1 ≠ 0 := fun q => by rw [q, Int.zero_mul] at f2; exact h0 f2.symm
  obtain ⟨p0, p1, p2⟩ := places_le (c1 := (lawDec a).1) (c2 := (lawDec b).1) (Nat.lt_of_le_of_lt (lawDec_le b) (Nat.lt_trans hb (by decide)))
  have hw : 0 ≤ (divQ (lawDec a).1 (lawDec a).2 (lawDec b).1 (lawDec b).2 30).1 ∧ (divQ (lawDec a).1 (lawDec a).2 (lawDec b).1 (lawDec b).2 30).1 < 10 ^ 64 ∧ (divQ (lawDec a).1 (lawDec a).2 (lawDec b).1 (lawDec b).2 30).2 ≤ -20 :=
    rest_le (divQ_nonneg (e1 := (lawDec a).2) (e2 := (lawDec b).2) hc0) (quo_lt (absI_lt' (Nat.lt_of_le_of_lt (lawDec_le a) ha)) (Int.toNat_le.mpr p2) (absI_nonneg _) (absI_pos hc0)) (by clear p0 p2 f2; omega)
  refine ⟨?_, hw.2.2⟩
  rw [show absI (divC (lawDec a).1 (lawDec a).2 (lawDec b).1 (lawDec b).2 30) = _ from absI_sg (s := (decide ((lawDec a).1 < 0) == decide ((lawDec b).1 < 0))) hw.1]
  exact Int.le_trans (figs_le_of_lt (k := 64) (by decide) hw.2.1) (by decide)
/-- the quotient of two whole numbers in thirty figures -/
noncomputable def divP (a b : Int) : Int × Int := (made (divC (lawDec a).1 (lawDec a).2 (lawDec b).1 (lawDec b).2 30) (divQ (lawDec a).1 (lawDec a).2 (lawDec b).1 (lawDec b).2 30).2 30).getD (0, 0)
theorem divP_is {a b : Int} (ha : a.natAbs < 10 ^ 10) (hb : b.natAbs < 10 ^ 10) (h0 : b ≠ 0) :
    made (divC (lawDec a).1 (lawDec a).2 (lawDec b).1 (lawDec b).2 30) (divQ (lawDec a).1 (lawDec a).2 (lawDec b).1 (lawDec b).2 30).2 30 = some (divP a b) := by
  obtain ⟨f, e⟩ := div_facts ha hb h0
  obtain ⟨p, hp⟩ := made_exists f e
  unfold divP
  rw [hp]; rfl
theorem pos_of_mul {m : Int} {t : Nat} : (m * 10 ^ t < 0 ↔ m < 0) ∧ (m * 10 ^ t = 0 ↔ m = 0) := by
  have p : (0 : Int) < 10 ^ t := Int.pow_pos (by decide)
  refine ⟨⟨fun h => ?_, fun h => Int.mul_neg_of_neg_of_pos h p⟩, ⟨fun h => ?_, fun h => by rw [h, Int.zero_mul]⟩⟩
  · rcases Int.lt_or_le m 0 with q | q
    · exact q
    · have := Int.mul_nonneg q (Int.le_of_lt p); omega
  · rcases Int.mul_eq_zero.mp h with q | q
    · exact q
    · omega
theorem sign_q {a b q : Int} (h : a = q * b) (hz : q ≠ 0) (h0 : b ≠ 0) : (decide (a < 0) == decide (b < 0)) = decide (0 < q) := by
  subst h
  rcases Int.lt_or_lt_of_ne hz with hq0 | hq0 <;> rcases Int.lt_or_lt_of_ne h0 with hb0 | hb0
  · rw [decide_eq_false (Int.not_lt.mpr (Int.le_of_lt (Int.mul_pos_of_neg_of_neg hq0 hb0))), decide_eq_true hb0, decide_eq_false (Int.not_lt.mpr (Int.le_of_lt hq0))]; rfl
  · rw [decide_eq_true (Int.mul_neg_of_neg_of_pos hq0 hb0), decide_eq_false (Int.not_lt.mpr (Int.le_of_lt hb0)), decide_eq_false (Int.not_lt.mpr (Int.le_of_lt hq0))]; rfl
  · rw [decide_eq_true (Int.mul_neg_of_pos_of_neg hq0 hb0), decide_eq_true hb0, decide_eq_true hq0]; rfl
  · rw [decide_eq_false (Int.not_lt.mpr (Int.le_of_lt (Int.mul_pos hq0 hb0))), decide_eq_false (Int.not_lt.mpr (Int.le_of_lt hb0)), decide_eq_true hq0]; rfl
theorem absI_mul (x y : Int) : absI (x * y) = absI x * absI y := by rw [absI_eq, absI_eq, absI_eq, Int.natAbs_mul, Int.natCast_mul]
theorem quo_key {c1 c2 a b q : Int} {t v P : Nat} (e2 : c1 * 10 ^ t = a) (f2 : c2 * 10 ^ v = b) (h : a = q * b) (ht : t ≤ P + v) : absI c1 * 10 ^ P = absI q * 10 ^ (P + v - t) * absI c2 := by
  refine Int.eq_of_mul_eq_mul_right (Int.ne_of_gt (Int.pow_pos (by decide)) : (10 : Int) ^ t ≠ 0) ?_
  have k1 : absI c1 * 10 ^ t = absI q * (absI c2 * 10 ^ v) := by rw [← absI_mul10, ← absI_mul10, e2, f2, h, absI_mul]
  rw [Int.mul_right_comm, k1, Int.mul_right_comm (absI q * 10 ^ (P + v - t)), Int.mul_assoc (absI q) _ ((10 : Int) ^ t), ← Int.pow_add, Nat.sub_add_cancel ht, Int.pow_add, Int.mul_assoc, Int.mul_assoc, Int.mul_assoc, Int.mul_comm (10 ^ P) (10 ^ v), Int.mul_assoc]
  rw [Int.mul_left_comm (absI c2), Int.mul_comm (absI c2)]
theorem sg_quo {q x : Int} {s : Bool} {n : Nat} (hs : q ≠ 0 → s = decide (0 < q)) (hx : x = absI q * 10 ^ n) : (if s = true then x else 0 - x) = q * 10 ^ n := by
  subst hx
  by_cases hz : q = 0
  · subst hz
    rw [show absI 0 = 0 from rfl, Int.zero_mul]
    exact ite_self 0
  · rw [hs hz]
    unfold absI
    by_cases hq0 : 0 < q
    · rw [decide_eq_true hq0, if_pos rfl, if_neg (Int.not_lt.mpr (Int.le_of_lt hq0))]
    · rw [decide_eq_false hq0, if_neg (by decide), if_pos (Int.lt_iff_le_and_ne.mpr ⟨Int.not_lt.mp hq0, hz⟩), Int.neg_mul, Int.zero_sub, Int.neg_neg]
theorem divP_exact {a b q : Int} (ha : a.natAbs < 10 ^ 10) (hb : b.natAbs < 10 ^ 10) (h0 : b ≠ 0) (h : a = q * b) : divP a b = lawDec q := by
  have hP := divP_is ha hb h0
  obtain ⟨t, e1, e2⟩ := lawDec_worth a
  obtain ⟨v, f1, f2⟩ := lawDec_worth b
  have he1 : (lawDec a).2 ≤ (10 : Nat) := lawDec_exp ha
  have hc0 : (lawDec b).1 ≠ 0 := fun z => by rw [z, Int.zero_mul] at f2; exact h0 f2.symm
  have sa : (lawDec a).1 < 0 ↔ a < 0 := by rw [← (pos_of_mul (m := (lawDec a).1) (t := t)).1, e2]
  have sb : (lawDec b).1 < 0 ↔ b < 0 := by rw [← (pos_of_mul (m := (lawDec b).1) (t := v)).1, f2]
  have hq : q.natAbs < 10 ^ 20 := by
    refine Nat.lt_of_le_of_lt ?_ (Nat.lt_trans ha (by decide))
    rw [h, Int.natAbs_mul]
    exact Nat.le_mul_of_pos_right _ (Int.natAbs_pos.mpr h0)
  obtain ⟨p0, p1, p2⟩ := places_le (c1 := (lawDec a).1) (c2 := (lawDec b).1) (Nat.lt_of_le_of_lt (lawDec_le b) (Nat.lt_trans hb (by decide)))
  obtain ⟨P, hPl⟩ := nat_of p0
  have ht : t ≤ P + v := by clear hP; omega
  obtain ⟨d1, d2⟩ := fdiv_exact (absI_pos hc0) (quo_key e2 f2 h ht)
  have hD : divQ (lawDec a).1 (lawDec a).2 (lawDec b).1 (lawDec b).2 30 = (absI q * 10 ^ (P + v - t), -((P + v - t : Nat) : Int)) := by
    unfold divQ withRest
    rw [hPl, Int.toNat_natCast, d1, d2, if_pos rfl, e1, f1]
    refine Prod.ext rfl ?_
    show (t : Int) - v - P = _
    clear hP
    omega
  have hC : divC (lawDec a).1 (lawDec a).2 (lawDec b).1 (lawDec b).2 30 = q * 10 ^ (P + v - t) :=
    sg_quo (fun hz => by rw [decide_eq_decide.mpr sa, decide_eq_decide.mpr sb]; exact sign_q h hz h0) (congrArg Prod.fst hD)
  rw [hC, hD, made_noughts hq] at hP
  exact (Option.some.inj hP).symm
noncomputable def cutQ (a b : Int) : Int := if (decide (a < 0) == decide (b < 0)) = true then (absI a).fdiv (absI b) else 0 - (absI a).fdiv (absI b)
theorem m_cases {m : Int} (h0 : 0 ≤ m) (h3 : m ≤ 3) : m = 0 ∨ m = 1 ∨ m = 2 ∨ m = 3 := by omega
theorem pow_odd {n m : Int} (h : absI n < 2) (h0 : 0 ≤ m) (h3 : m ≤ 3) (ho : m.fmod 2 = 1) : n ^ m.toNat = n := by
  rw [absI_eq] at h
  rcases m_cases h0 h3 with rfl | rfl | rfl | rfl
  · exact absurd ho (by decide)
  · exact Int.pow_one n
  · exact absurd ho (by decide)
  · obtain rfl | rfl | rfl : n = -1 ∨ n = 0 ∨ n = 1 := by omega
    all_goals decide
theorem pow_even {n m : Int} (h : absI n < 2) (h0 : 0 ≤ m) (h3 : m ≤ 3) (ho : m.fmod 2 ≠ 1) (hz : m ≠ 0) : n ^ m.toNat = absI n := by
  rw [absI_eq] at h
  rcases m_cases h0 h3 with rfl | rfl | rfl | rfl
  · exact absurd rfl hz
  · exact absurd (by decide) ho
  · obtain rfl | rfl | rfl : n = -1 ∨ n = 0 ∨ n = 1 := by omega
    all_goals decide
  · exact absurd (by decide) ho
theorem two_pow_ge {b : Int} (hb : 4 ≤ b) : (8 : Int) ≤ 2 ^ (b - 1).toNat := by
  have : (2 : Nat) ^ 3 ≤ 2 ^ (b - 1).toNat := Nat.pow_le_pow_right (by decide) (by omega)
  have := Int.ofNat_le.mpr this
  simpa using this
theorem fits_tiny {x b : Int} (hb : 4 ≤ b) (h : x.natAbs ≤ 7) : fitsB x b = true := by
  have := two_pow_ge hb
  unfold fitsB
  exact decide_eq_true (by omega)
theorem pow_bound {n m : Int} (h : n.natAbs < 10 ^ 5) (h0 : 0 ≤ m) (h3 : m ≤ 3) : (n ^ m.toNat).natAbs < 10 ^ 16 := by
  rw [Int.natAbs_pow]
  calc n.natAbs ^ m.toNat ≤ (10 ^ 5) ^ m.toNat := Nat.pow_le_pow_left (Nat.le_of_lt h) _
    _ ≤ (10 ^ 5) ^ 3 := Nat.pow_le_pow_right (by decide) (by omega)
    _ < 10 ^ 16 := by decide
end
section
/-- between two turns of a power's loop -/
structure PowI (l X Y N : Int) : Prop where
  l0 : 0 ≤ l
  l3 : l ≤ 3
  eq : X * Y ^ l.toNat = N
  x : X.natAbs < 10 ^ 16
  y : Y.natAbs < 10 ^ 10
  two : 2 ≤ l → Y.natAbs < 10 ^ 5 ∧ X.natAbs < 2
  one : 1 ≤ l → X.natAbs < 10 ^ 6
theorem natAbs_mul_lt {X Y : Int} {a b : Nat} (hx : X.natAbs < a) (hy : Y.natAbs < b) : (X * Y).natAbs < a * b := by
  rw [Int.natAbs_mul]
  calc X.natAbs * Y.natAbs ≤ X.natAbs * b := Nat.mul_le_mul_left _ (Nat.le_of_lt hy)
    _ < a * b := Nat.mul_lt_mul_of_pos_right hx (by omega)
theorem PowI.xy {l X Y N : Int} (p : PowI l X Y N) : (X * Y).natAbs < 10 ^ 29 := by
  have := natAbs_mul_lt p.x p.y
  omega
theorem PowI.yy {l X Y N : Int} (p : PowI l X Y N) : (Y * Y).natAbs < 10 ^ 29 := by
  have := natAbs_mul_lt p.y p.y
  omega
theorem l_cases {l : Int} (h0 : 0 < l) (h3 : l ≤ 3) : (l = 1 ∧ l.fmod 2 = 1 ∧ l.fdiv 2 = 0) ∨ (l = 2 ∧ l.fmod 2 = 0 ∧ l.fdiv 2 = 1) ∨ (l = 3 ∧ l.fmod 2 = 1 ∧ l.fdiv 2 = 1) := by
  have : l = 1 ∨ l = 2 ∨ l = 3 := by omega
  rcases this with rfl | rfl | rfl
  · exact .inl ⟨rfl, by decide, by decide⟩
  · exact .inr (.inl ⟨rfl, by decide, by decide⟩)
  · exact .inr (.inr ⟨rfl, by decide, by decide⟩)
theorem PowI.oddOn {l X Y N : Int} (p : PowI l X Y N) (h : 0 < l) (ho : l.fmod 2 = 1) (hl : 0 < l.fdiv 2) : PowI (l.fdiv 2) (X * Y) (Y * Y) N ∧ (l.fdiv 2).toNat < l.toNat := by
  rcases l_cases h p.l3 with ⟨e, a, b⟩ | ⟨e, a, b⟩ | ⟨e, a, b⟩
  · omega
  · omega
  · have q := p.two (by omega)
    have x1 : (X * Y).natAbs < 2 * 10 ^ 5 := natAbs_mul_lt q.2 q.1
    have y1 : (Y * Y).natAbs < 10 ^ 5 * 10 ^ 5 := natAbs_mul_lt q.1 q.1
    rw [b]
    refine ⟨⟨by decide, by decide, ?_, by omega, by omega, fun z => absurd z (by decide), fun _ => by omega⟩, by rw [e]; decide⟩
    have := p.eq
    rw [e] at this
    rw [← this]
    show X * Y * (Y * Y) ^ 1 = X * Y ^ 3
    rw [Int.pow_one, Int.pow_succ, Int.pow_succ, Int.pow_one, Int.mul_assoc, Int.mul_assoc Y]
theorem PowI.oddOff {l X Y N : Int} (p : PowI l X Y N) (h : 0 < l) (ho : l.fmod 2 = 1) (hl : ¬ 0 < l.fdiv 2) : PowI (l.fdiv 2) (X * Y) Y N ∧ (l.fdiv 2).toNat < l.toNat := by
  rcases l_cases h p.l3 with ⟨e, a, b⟩ | ⟨e, a, b⟩ | ⟨e, a, b⟩
  · have x1 : (X * Y).natAbs < 10 ^ 6 * 10 ^ 10 := natAbs_mul_lt (p.one (by omega)) p.y
    rw [b]
    refine ⟨⟨by decide, by decide, ?_, by omega, p.y, fun z => absurd z (by decide), fun z => absurd z (by decide)⟩, by rw [e]; decide⟩
    have := p.eq
    rw [e] at this
    rw [← this]
    show X * Y * Y ^ 0 = X * Y ^ 1
    rw [Int.pow_zero, Int.mul_one, Int.pow_one]
  · omega
  · omega
theorem PowI.evenOn {l X Y N : Int} (p : PowI l X Y N) (h : 0 < l) (ho : l.fmod 2 ≠ 1) : PowI (l.fdiv 2) X (Y * Y) N ∧ (l.fdiv 2).toNat < l.toNat := by
  rcases l_cases h p.l3 with ⟨e, a, b⟩ | ⟨e, a, b⟩ | ⟨e, a, b⟩
  · omega
  · have q := p.two (by omega)
    have y1 : (Y * Y).natAbs < 10 ^ 5 * 10 ^ 5 := natAbs_mul_lt q.1 q.1
    rw [b]
    refine ⟨⟨by decide, by decide, ?_, p.x, by omega, fun z => absurd z (by decide), fun _ => p.one (by omega)⟩, by rw [e]; decide⟩
    have := p.eq
    rw [e] at this
    rw [← this]
    show X * (Y * Y) ^ 1 = X * Y ^ 2
    rw [Int.pow_one, Int.pow_succ, Int.pow_one]
  · omega
theorem PowI.evenOff {l X Y N : Int} (p : PowI l X Y N) (h : 0 < l) (ho : l.fmod 2 ≠ 1) (hl : ¬ 0 < l.fdiv 2) : False := by
  rcases l_cases h p.l3 with ⟨e, a, b⟩ | ⟨e, a, b⟩ | ⟨e, a, b⟩ <;> omega
theorem PowI.init {x n : Int} (h : x.natAbs < 10 ^ 5) (h0 : 0 ≤ n) (h3 : n ≤ 3) : PowI n 1 x (x ^ n.toNat) :=
  ⟨h0, h3, Int.one_mul _, by decide, by omega, fun _ => ⟨h, by decide⟩, fun _ => by decide⟩
theorem PowI.done {l X Y N : Int} (p : PowI l X Y N) (h : ¬ 0 < l) : X = N := by
  have e : l = 0 := by have := p.l0; omega
  have := p.eq
  rw [e] at this
  rw [← this]
  show X = X * Y ^ 0
  rw [Int.pow_zero, Int.mul_one]
theorem lawDec_one : lawDec 1 = (1, 0) := by
  have := lawDec_pow (m := 1) (by decide) (by decide) 0
  simpa using this
theorem cutQ_eq {n m : Int} (h : m ≠ 0) : cutQ n m = Int.tdiv n m := by
  have e : (absI n).fdiv (absI m) = ((n.natAbs / m.natAbs : Nat) : Int) := by
    rw [absI_eq, absI_eq, Int.fdiv_eq_ediv_of_nonneg _ (Int.natCast_nonneg _)]; rfl
  unfold cutQ
  rw [e]
  have neg : ∀ {x : Int}, x < 0 → ∃ a : Nat, x = -a := fun {x} q => ⟨x.natAbs, (by omega : x = -(x.natAbs : Int))⟩
  rcases Int.lt_or_le n 0 with hn | hn <;> rcases Int.lt_or_le m 0 with hm | hm
  · rw [decide_eq_true hn, decide_eq_true hm, if_pos (by decide)]
    obtain ⟨a, rfl⟩ := neg hn
    obtain ⟨b, rfl⟩ := neg hm
    rw [Int.neg_tdiv, Int.tdiv_neg, Int.neg_neg, Int.natAbs_neg, Int.natAbs_neg]; rfl
  · rw [decide_eq_true hn, decide_eq_false (Int.not_lt.mpr hm), if_neg (by decide)]
    obtain ⟨a, rfl⟩ := neg hn
    obtain ⟨b, rfl⟩ := nat_of hm
    rw [Int.neg_tdiv, Int.natAbs_neg, Int.zero_sub]; rfl
  · rw [decide_eq_false (Int.not_lt.mpr hn), decide_eq_true hm, if_neg (by decide)]
    obtain ⟨a, rfl⟩ := nat_of hn
    obtain ⟨b, rfl⟩ := neg hm
    rw [Int.tdiv_neg, Int.natAbs_neg, Int.zero_sub]; rfl
  · rw [decide_eq_false (Int.not_lt.mpr hn), decide_eq_false (Int.not_lt.mpr hm), if_pos (by decide)]
    obtain ⟨a, rfl⟩ := nat_of hn
    obtain ⟨b, rfl⟩ := nat_of hm
    rfl
theorem cutQ_le {n m : Int} (h : m ≠ 0) : (cutQ n m).natAbs ≤ n.natAbs := by
  rw [cutQ_eq h, Int.natAbs_tdiv]
  exact Nat.div_le_self _ _
theorem cutR_eq {n m : Int} (h : m ≠ 0) : n - m * cutQ n m = Int.tmod n m := by
  rw [cutQ_eq h]
  have := Int.mul_tdiv_add_tmod n m
  omega
theorem cutR_lt {n m : Int} (h : m ≠ 0) (_ : n.natAbs < 10 ^ 5) (hm : m.natAbs < 10 ^ 5) : (n - m * cutQ n m).natAbs < 10 ^ 29 := by
  rw [cutR_eq h, Int.natAbs_tmod]
  have := Nat.mod_lt n.natAbs (y := m.natAbs) (by omega)
  omega
end
open PySem PySem.W PySem.Spec PySem.Calls PyProof.Rows
set_option genInjectivity false
set_option genSizeOf false
local macro_rules | `(tactic| walk_at $s:str) => `(tactic| k_extra $s)
local macro_rules | `(tactic| is_list) => `(tactic| k_extra "my is_list")
local macro_rules | `(tactic| km_fact) => `(tactic| k_extra "my km_fact")
local macro_rules | `(tactic| kbt_ne) => `(tactic| k_extra "my kbt_ne")
local macro_rules | `(tactic| ktr_rel) => `(tactic| k_extra "my ktr_rel")
local macro_rules | `(tactic| ktn_ord) => `(tactic| k_extra "my ktn_ord")
local macro_rules | `(tactic| ktr_room) => `(tactic| k_extra "my ktr_room")
section
set_option maxHeartbeats 0
/-- the text's statements, and a def's parts -/
noncomputable def stm (i : Nat) : PySem.Stmt := PySem.Challenge.pw_pq0142_01.main.body.getD i (.Pass default)
noncomputable def sArgs : PySem.Stmt → PySem.Arguments
  | .FunctionDef _ a _ _ _ _ _ _ _ _ => a
  | _ => ⟨[], [], none, [], [], none, []⟩
noncomputable def sBody : PySem.Stmt → List PySem.Stmt
  | .FunctionDef _ _ b _ _ _ _ _ _ _ => b
  | .ClassDef _ _ _ b _ _ _ _ _ _ _ => b
  | _ => []
noncomputable def sScope : PySem.Stmt → PySem.Scope
  | .FunctionDef _ _ _ _ _ _ s _ _ _ => s
  | _ => ⟨.module, [], false, false, []⟩
noncomputable def ini : PySem.Stmt := (sBody (stm 2)).getD 0 (.Pass default)
noncomputable abbrev ent (P : Params) (x : String) (t : Nat) (v : Value) : DictEntry := ⟨PyData.keyHash P (Str.ofString x), .str (Str.ofString x) t, v⟩
/-- the written part: what the top leaves, as far as the law asks it -/
noncomputable def K (P : Params) : Frag :=
  (nat_lit 2, ⟨.none, none, (.dict [ent P "type.__subclasses__.Exception.0" 221 (.int 34 0), ent P "type.__subclasses__.Exception.n" 222 (.int 1 0)].toArray 2), #[]⟩) ::
  (nat_lit 3, ⟨(.type "dict"), none, (.dict [ent P "__name__" 165 (.str (Str.ofString "law_pq0142_01") 534), ent P "__doc__" 166 .none, ent P "__package__" 167 .none, ent P "__loader__" 168 (.builtin "__main__.__loader__#opaque"), ent P "__spec__" 169 .none, ent P "__annotations__" 170 (.ref 6), ent P "__builtins__" 171 (.ref 4), ent P "__file__" 173 (.str (Str.ofString "/claim/cut.py") 172), ent P "__cached__" 174 .none, ent P "MOST_EXPONENT" 190 (.int 99 189), ent P "BasicError" 224 (.ref 34), ent P "figures_of" 233 (.ref 44), ent P "rounded_by" 244 (.ref 51), ent P "made" 256 (.ref 58), ent P "whole_near" 266 (.ref 65), ent P "fits" 274 (.ref 72), ent P "whole_of" 283 (.ref 79), ent P "decimal_of" 291 (.ref 86), ent P "ONE" 296 (.ref 87), ent P "MOST_POWER" 298 (.int 9999 297), ent P "d_negated" 305 (.ref 94), ent P "alike" 314 (.ref 101), ent P "d_add" 326 (.ref 108), ent P "d_sub" 335 (.ref 115), ent P "d_mul" 344 (.ref 122), ent P "with_rest" 353 (.ref 129), ent P "d_div" 367 (.ref 136), ent P "d_compare" 378 (.ref 143), ent P "d_power" 390 (.ref 150), ent P "square_or_end" 398 (.ref 157), ent P "is_whole" 407 (.ref 164), ent P "settled" 416 (.ref 171), ent P "whole_reckoned" 427 (.ref 178), ent P "cut_quotient" 436 (.ref 185), ent P "cut_rest" 444 (.ref 192), ent P "exponent_of" 451 (.ref 199), ent P "whole_power" 461 (.ref 206), ent P "raised" 472 (.ref 213), ent P "reckoned" 488 (.ref 220), ent P "negated" 497 (.ref 227), ent P "order_of" 505 (.ref 234), ent P "stands_so" 513 (.ref 241), ent P "inverted" 521 (.ref 248), ent P "logic" 533 (.ref 255), ent P "_law_coin" 543 (.ref 262), ent P "_law_decimal" 551 (.ref 269), ent P "_law_worth" 560 (.ref 276), ent P "_law_kinds" 568 (.ref 283), ent P "_law_due" 578 (.ref 290), ent P "_law_bits" 593 (.ref 297), ent P "_law_pair_right" 599 (.ref 302), ent P "_law_order_right" 605 (.ref 307), ent P "law" 611 (.ref 312)].toArray 53), #[]⟩) ::
  (nat_lit 18, ⟨(.type "cell"), none, (.cell (some (.ref 34))), #[]⟩) ::
  (nat_lit 23, ⟨(.type "tuple"), none, (.seq #[(.str (Str.ofString "") 203)]), #[]⟩) ::
  (nat_lit 24, ⟨(.type "tuple"), none, (.seq #[(.ref 18)]), #[]⟩) ::
  (nat_lit 30, ⟨(.type "code"), none, (.fields #[(.str (Str.ofString "__init__") 204), (.str (Str.ofString "BasicError.__init__") 205), (.str (Str.ofString "/claim/cut.py") 206), (.int 5 0), (.int 3 0), (.int 0 0), (.int 0 0), (.int 3 0), (.ref 25), (.bool true), (.int 181 0), (.ref 26), .none, (.ref 27), (.ref 28), (.ref 29), (.int 211 0), (.int 5 0), (.str (Str.ofString "/claim/cut.py") 212)]), #[]⟩) ::
  (nat_lit 31, ⟨(.type "function"), none, (.func ⟨(Str.ofString "__init__"), (Str.ofString "BasicError.__init__"), sArgs ini, .stmts (sBody ini), sScope ini, 3, [((Str.ofString "__class__"), 18)], (.ref 23), .none, .none, (.str (Str.ofString "basicplus.values") 187), none, (.ref 30), (.ref 24), 0⟩), #[]⟩) ::
  (nat_lit 33, ⟨(.type "dict"), none, (.dict [ent P "__module__" 198 (.str (Str.ofString "basicplus.values") 187), ent P "__firstlineno__" 202 (.int 3 201), ent P "__init__" 213 (.ref 31), ent P "__static_attributes__" 216 (.ref 32), ent P "__weakref__" 219 (.ref 35), ent P "__doc__" 220 .none].toArray 4), #[]⟩) ::
  (nat_lit 34, ⟨(.type "type"), none, (.cls ⟨(Str.ofString "BasicError"), [(.type "Exception")], [(.ref 34), (.type "Exception"), (.type "BaseException"), (.type "object")], 33, (Str.ofString "BasicError"), true, [], [], false, none, false⟩), #[some (.ref 15), none, some (.str (Str.ofString "BasicError") 191), some (.str (Str.ofString "BasicError") 199), some (.builtin "Exception.__new__"), some (.bool true)]⟩) ::
  (nat_lit 43, ⟨(.type "code"), none, (.fields #[(.str (Str.ofString "figures_of") 225), (.str (Str.ofString "figures_of") 226), (.str (Str.ofString "/claim/cut.py") 227), (.int 9 0), (.int 1 0), (.int 0 0), (.int 0 0), (.int 3 0), (.ref 38), (.bool true), (.int 181 0), (.ref 39), .none, (.ref 40), (.ref 41), (.ref 42), (.int 231 0), (.int 9 0), (.str (Str.ofString "/claim/cut.py") 232)]), #[]⟩) ::
  (nat_lit 44, ⟨(.type "function"), none, (.func ⟨(Str.ofString "figures_of"), (Str.ofString "figures_of"), sArgs (stm 3), .stmts (sBody (stm 3)), sScope (stm 3), 3, [], .none, .none, .none, (.str (Str.ofString "basicplus.values") 187), none, (.ref 43), .none, 0⟩), #[]⟩) ::
  (nat_lit 50, ⟨(.type "code"), none, (.fields #[(.str (Str.ofString "rounded_by") 234), (.str (Str.ofString "rounded_by") 235), (.str (Str.ofString "/claim/cut.py") 236), (.int 15 0), (.int 2 0), (.int 0 0), (.int 0 0), (.int 3 0), (.ref 45), (.bool true), (.int 181 0), (.ref 46), .none, (.ref 47), (.ref 48), (.ref 49), (.int 242 0), (.int 15 0), (.str (Str.ofString "/claim/cut.py") 243)]), #[]⟩) ::
  (nat_lit 51, ⟨(.type "function"), none, (.func ⟨(Str.ofString "rounded_by"), (Str.ofString "rounded_by"), sArgs (stm 4), .stmts (sBody (stm 4)), sScope (stm 4), 3, [], .none, .none, .none, (.str (Str.ofString "basicplus.values") 187), none, (.ref 50), .none, 0⟩), #[]⟩) ::
  (nat_lit 57, ⟨(.type "code"), none, (.fields #[(.str (Str.ofString "made") 245), (.str (Str.ofString "made") 246), (.str (Str.ofString "/claim/cut.py") 247), (.int 25 0), (.int 3 0), (.int 0 0), (.int 0 0), (.int 3 0), (.ref 52), (.bool true), (.int 181 0), (.ref 53), .none, (.ref 54), (.ref 55), (.ref 56), (.int 254 0), (.int 25 0), (.str (Str.ofString "/claim/cut.py") 255)]), #[]⟩) ::
  (nat_lit 58, ⟨(.type "function"), none, (.func ⟨(Str.ofString "made"), (Str.ofString "made"), sArgs (stm 5), .stmts (sBody (stm 5)), sScope (stm 5), 3, [], .none, .none, .none, (.str (Str.ofString "basicplus.values") 187), none, (.ref 57), .none, 0⟩), #[]⟩) ::
  (nat_lit 64, ⟨(.type "code"), none, (.fields #[(.str (Str.ofString "whole_near") 257), (.str (Str.ofString "whole_near") 258), (.str (Str.ofString "/claim/cut.py") 259), (.int 40 0), (.int 1 0), (.int 0 0), (.int 0 0), (.int 3 0), (.ref 59), (.bool true), (.int 181 0), (.ref 60), .none, (.ref 61), (.ref 62), (.ref 63), (.int 264 0), (.int 40 0), (.str (Str.ofString "/claim/cut.py") 265)]), #[]⟩) ::
  (nat_lit 65, ⟨(.type "function"), none, (.func ⟨(Str.ofString "whole_near"), (Str.ofString "whole_near"), sArgs (stm 6), .stmts (sBody (stm 6)), sScope (stm 6), 3, [], .none, .none, .none, (.str (Str.ofString "basicplus.values") 187), none, (.ref 64), .none, 0⟩), #[]⟩) ::
  (nat_lit 71, ⟨(.type "code"), none, (.fields #[(.str (Str.ofString "fits") 267), (.str (Str.ofString "fits") 268), (.str (Str.ofString "/claim/cut.py") 269), (.int 46 0), (.int 2 0), (.int 0 0), (.int 0 0), (.int 3 0), (.ref 66), (.bool true), (.int 181 0), (.ref 67), .none, (.ref 68), (.ref 69), (.ref 70), (.int 272 0), (.int 46 0), (.str (Str.ofString "/claim/cut.py") 273)]), #[]⟩) ::
  (nat_lit 72, ⟨(.type "function"), none, (.func ⟨(Str.ofString "fits"), (Str.ofString "fits"), sArgs (stm 7), .stmts (sBody (stm 7)), sScope (stm 7), 3, [], .none, .none, .none, (.str (Str.ofString "basicplus.values") 187), none, (.ref 71), .none, 0⟩), #[]⟩) ::
  (nat_lit 78, ⟨(.type "code"), none, (.fields #[(.str (Str.ofString "whole_of") 275), (.str (Str.ofString "whole_of") 276), (.str (Str.ofString "/claim/cut.py") 277), (.int 48 0), (.int 2 0), (.int 0 0), (.int 0 0), (.int 3 0), (.ref 73), (.bool true), (.int 181 0), (.ref 74), .none, (.ref 75), (.ref 76), (.ref 77), (.int 281 0), (.int 48 0), (.str (Str.ofString "/claim/cut.py") 282)]), #[]⟩) ::
  (nat_lit 79, ⟨(.type "function"), none, (.func ⟨(Str.ofString "whole_of"), (Str.ofString "whole_of"), sArgs (stm 8), .stmts (sBody (stm 8)), sScope (stm 8), 3, [], .none, .none, .none, (.str (Str.ofString "basicplus.values") 187), none, (.ref 78), .none, 0⟩), #[]⟩) ::
  (nat_lit 85, ⟨(.type "code"), none, (.fields #[(.str (Str.ofString "decimal_of") 284), (.str (Str.ofString "decimal_of") 285), (.str (Str.ofString "/claim/cut.py") 286), (.int 55 0), (.int 2 0), (.int 0 0), (.int 0 0), (.int 3 0), (.ref 80), (.bool true), (.int 181 0), (.ref 81), .none, (.ref 82), (.ref 83), (.ref 84), (.int 289 0), (.int 55 0), (.str (Str.ofString "/claim/cut.py") 290)]), #[]⟩) ::
  (nat_lit 86, ⟨(.type "function"), none, (.func ⟨(Str.ofString "decimal_of"), (Str.ofString "decimal_of"), sArgs (stm 9), .stmts (sBody (stm 9)), sScope (stm 9), 3, [], .none, .none, .none, (.str (Str.ofString "basicplus.values") 187), none, (.ref 85), .none, 0⟩), #[]⟩) ::
  (nat_lit 87, ⟨(.type "tuple"), none, (.seq #[(.int 1 294), (.int 0 295)]), #[]⟩) ::
  (nat_lit 93, ⟨(.type "code"), none, (.fields #[(.str (Str.ofString "d_negated") 299), (.str (Str.ofString "d_negated") 300), (.str (Str.ofString "/claim/cut.py") 301), (.int 62 0), (.int 1 0), (.int 0 0), (.int 0 0), (.int 3 0), (.ref 88), (.bool true), (.int 181 0), (.ref 89), .none, (.ref 90), (.ref 91), (.ref 92), (.int 303 0), (.int 62 0), (.str (Str.ofString "/claim/cut.py") 304)]), #[]⟩) ::
  (nat_lit 94, ⟨(.type "function"), none, (.func ⟨(Str.ofString "d_negated"), (Str.ofString "d_negated"), sArgs (stm 13), .stmts (sBody (stm 13)), sScope (stm 13), 3, [], .none, .none, .none, (.str (Str.ofString "basicplus.decimals") 292), none, (.ref 93), .none, 0⟩), #[]⟩) ::
  (nat_lit 100, ⟨(.type "code"), none, (.fields #[(.str (Str.ofString "alike") 306), (.str (Str.ofString "alike") 307), (.str (Str.ofString "/claim/cut.py") 308), (.int 64 0), (.int 2 0), (.int 0 0), (.int 0 0), (.int 3 0), (.ref 95), (.bool true), (.int 181 0), (.ref 96), .none, (.ref 97), (.ref 98), (.ref 99), (.int 312 0), (.int 64 0), (.str (Str.ofString "/claim/cut.py") 313)]), #[]⟩) ::
  (nat_lit 101, ⟨(.type "function"), none, (.func ⟨(Str.ofString "alike"), (Str.ofString "alike"), sArgs (stm 14), .stmts (sBody (stm 14)), sScope (stm 14), 3, [], .none, .none, .none, (.str (Str.ofString "basicplus.decimals") 292), none, (.ref 100), .none, 0⟩), #[]⟩) ::
  (nat_lit 107, ⟨(.type "code"), none, (.fields #[(.str (Str.ofString "d_add") 315), (.str (Str.ofString "d_add") 316), (.str (Str.ofString "/claim/cut.py") 317), (.int 67 0), (.int 3 0), (.int 0 0), (.int 0 0), (.int 3 0), (.ref 102), (.bool true), (.int 181 0), (.ref 103), .none, (.ref 104), (.ref 105), (.ref 106), (.int 324 0), (.int 67 0), (.str (Str.ofString "/claim/cut.py") 325)]), #[]⟩) ::
  (nat_lit 108, ⟨(.type "function"), none, (.func ⟨(Str.ofString "d_add"), (Str.ofString "d_add"), sArgs (stm 15), .stmts (sBody (stm 15)), sScope (stm 15), 3, [], .none, .none, .none, (.str (Str.ofString "basicplus.decimals") 292), none, (.ref 107), .none, 0⟩), #[]⟩) ::
  (nat_lit 114, ⟨(.type "code"), none, (.fields #[(.str (Str.ofString "d_sub") 327), (.str (Str.ofString "d_sub") 328), (.str (Str.ofString "/claim/cut.py") 329), (.int 70 0), (.int 3 0), (.int 0 0), (.int 0 0), (.int 3 0), (.ref 109), (.bool true), (.int 181 0), (.ref 110), .none, (.ref 111), (.ref 112), (.ref 113), (.int 333 0), (.int 70 0), (.str (Str.ofString "/claim/cut.py") 334)]), #[]⟩) ::
  (nat_lit 115, ⟨(.type "function"), none, (.func ⟨(Str.ofString "d_sub"), (Str.ofString "d_sub"), sArgs (stm 16), .stmts (sBody (stm 16)), sScope (stm 16), 3, [], .none, .none, .none, (.str (Str.ofString "basicplus.decimals") 292), none, (.ref 114), .none, 0⟩), #[]⟩) ::
  (nat_lit 121, ⟨(.type "code"), none, (.fields #[(.str (Str.ofString "d_mul") 336), (.str (Str.ofString "d_mul") 337), (.str (Str.ofString "/claim/cut.py") 338), (.int 72 0), (.int 3 0), (.int 0 0), (.int 0 0), (.int 3 0), (.ref 116), (.bool true), (.int 181 0), (.ref 117), .none, (.ref 118), (.ref 119), (.ref 120), (.int 342 0), (.int 72 0), (.str (Str.ofString "/claim/cut.py") 343)]), #[]⟩) ::
  (nat_lit 122, ⟨(.type "function"), none, (.func ⟨(Str.ofString "d_mul"), (Str.ofString "d_mul"), sArgs (stm 17), .stmts (sBody (stm 17)), sScope (stm 17), 3, [], .none, .none, .none, (.str (Str.ofString "basicplus.decimals") 292), none, (.ref 121), .none, 0⟩), #[]⟩) ::
  (nat_lit 128, ⟨(.type "code"), none, (.fields #[(.str (Str.ofString "with_rest") 345), (.str (Str.ofString "with_rest") 346), (.str (Str.ofString "/claim/cut.py") 347), (.int 74 0), (.int 3 0), (.int 0 0), (.int 0 0), (.int 3 0), (.ref 123), (.bool true), (.int 181 0), (.ref 124), .none, (.ref 125), (.ref 126), (.ref 127), (.int 351 0), (.int 74 0), (.str (Str.ofString "/claim/cut.py") 352)]), #[]⟩) ::
  (nat_lit 129, ⟨(.type "function"), none, (.func ⟨(Str.ofString "with_rest"), (Str.ofString "with_rest"), sArgs (stm 18), .stmts (sBody (stm 18)), sScope (stm 18), 3, [], .none, .none, .none, (.str (Str.ofString "basicplus.decimals") 292), none, (.ref 128), .none, 0⟩), #[]⟩) ::
  (nat_lit 135, ⟨(.type "code"), none, (.fields #[(.str (Str.ofString "d_div") 354), (.str (Str.ofString "d_div") 355), (.str (Str.ofString "/claim/cut.py") 356), (.int 76 0), (.int 3 0), (.int 0 0), (.int 0 0), (.int 3 0), (.ref 130), (.bool true), (.int 181 0), (.ref 131), .none, (.ref 132), (.ref 133), (.ref 134), (.int 365 0), (.int 76 0), (.str (Str.ofString "/claim/cut.py") 366)]), #[]⟩) ::
  (nat_lit 136, ⟨(.type "function"), none, (.func ⟨(Str.ofString "d_div"), (Str.ofString "d_div"), sArgs (stm 19), .stmts (sBody (stm 19)), sScope (stm 19), 3, [], .none, .none, .none, (.str (Str.ofString "basicplus.decimals") 292), none, (.ref 135), .none, 0⟩), #[]⟩) ::
  (nat_lit 142, ⟨(.type "code"), none, (.fields #[(.str (Str.ofString "d_compare") 368), (.str (Str.ofString "d_compare") 369), (.str (Str.ofString "/claim/cut.py") 370), (.int 84 0), (.int 2 0), (.int 0 0), (.int 0 0), (.int 3 0), (.ref 137), (.bool true), (.int 181 0), (.ref 138), .none, (.ref 139), (.ref 140), (.ref 141), (.int 376 0), (.int 84 0), (.str (Str.ofString "/claim/cut.py") 377)]), #[]⟩) ::
  (nat_lit 143, ⟨(.type "function"), none, (.func ⟨(Str.ofString "d_compare"), (Str.ofString "d_compare"), sArgs (stm 20), .stmts (sBody (stm 20)), sScope (stm 20), 3, [], .none, .none, .none, (.str (Str.ofString "basicplus.decimals") 292), none, (.ref 142), .none, 0⟩), #[]⟩) ::
  (nat_lit 149, ⟨(.type "code"), none, (.fields #[(.str (Str.ofString "d_power") 379), (.str (Str.ofString "d_power") 380), (.str (Str.ofString "/claim/cut.py") 381), (.int 87 0), (.int 3 0), (.int 0 0), (.int 0 0), (.int 3 0), (.ref 144), (.bool true), (.int 181 0), (.ref 145), .none, (.ref 146), (.ref 147), (.ref 148), (.int 388 0), (.int 87 0), (.str (Str.ofString "/claim/cut.py") 389)]), #[]⟩) ::
  (nat_lit 150, ⟨(.type "function"), none, (.func ⟨(Str.ofString "d_power"), (Str.ofString "d_power"), sArgs (stm 21), .stmts (sBody (stm 21)), sScope (stm 21), 3, [], .none, .none, .none, (.str (Str.ofString "basicplus.decimals") 292), none, (.ref 149), .none, 0⟩), #[]⟩) ::
  (nat_lit 156, ⟨(.type "code"), none, (.fields #[(.str (Str.ofString "square_or_end") 391), (.str (Str.ofString "square_or_end") 392), (.str (Str.ofString "/claim/cut.py") 393), (.int 101 0), (.int 2 0), (.int 0 0), (.int 0 0), (.int 3 0), (.ref 151), (.bool true), (.int 181 0), (.ref 152), .none, (.ref 153), (.ref 154), (.ref 155), (.int 396 0), (.int 101 0), (.str (Str.ofString "/claim/cut.py") 397)]), #[]⟩) ::
  (nat_lit 157, ⟨(.type "function"), none, (.func ⟨(Str.ofString "square_or_end"), (Str.ofString "square_or_end"), sArgs (stm 22), .stmts (sBody (stm 22)), sScope (stm 22), 3, [], .none, .none, .none, (.str (Str.ofString "basicplus.decimals") 292), none, (.ref 156), .none, 0⟩), #[]⟩) ::
  (nat_lit 163, ⟨(.type "code"), none, (.fields #[(.str (Str.ofString "is_whole") 401), (.str (Str.ofString "is_whole") 402), (.str (Str.ofString "/claim/cut.py") 403), (.int 104 0), (.int 1 0), (.int 0 0), (.int 0 0), (.int 3 0), (.ref 158), (.bool true), (.int 181 0), (.ref 159), .none, (.ref 160), (.ref 161), (.ref 162), (.int 405 0), (.int 104 0), (.str (Str.ofString "/claim/cut.py") 406)]), #[]⟩) ::
  (nat_lit 164, ⟨(.type "function"), none, (.func ⟨(Str.ofString "is_whole"), (Str.ofString "is_whole"), sArgs (stm 24), .stmts (sBody (stm 24)), sScope (stm 24), 3, [], .none, .none, .none, (.str (Str.ofString "basicplus.arith") 399), none, (.ref 163), .none, 0⟩), #[]⟩) ::
  (nat_lit 170, ⟨(.type "code"), none, (.fields #[(.str (Str.ofString "settled") 408), (.str (Str.ofString "settled") 409), (.str (Str.ofString "/claim/cut.py") 410), (.int 108 0), (.int 3 0), (.int 0 0), (.int 0 0), (.int 3 0), (.ref 165), (.bool true), (.int 181 0), (.ref 166), .none, (.ref 167), (.ref 168), (.ref 169), (.int 414 0), (.int 108 0), (.str (Str.ofString "/claim/cut.py") 415)]), #[]⟩) ::
  (nat_lit 171, ⟨(.type "function"), none, (.func ⟨(Str.ofString "settled"), (Str.ofString "settled"), sArgs (stm 25), .stmts (sBody (stm 25)), sScope (stm 25), 3, [], .none, .none, .none, (.str (Str.ofString "basicplus.arith") 399), none, (.ref 170), .none, 0⟩), #[]⟩) ::
  (nat_lit 177, ⟨(.type "code"), none, (.fields #[(.str (Str.ofString "whole_reckoned") 417), (.str (Str.ofString "whole_reckoned") 418), (.str (Str.ofString "/claim/cut.py") 419), (.int 110 0), (.int 5 0), (.int 0 0), (.int 0 0), (.int 3 0), (.ref 172), (.bool true), (.int 181 0), (.ref 173), .none, (.ref 174), (.ref 175), (.ref 176), (.int 425 0), (.int 110 0), (.str (Str.ofString "/claim/cut.py") 426)]), #[]⟩) ::
  (nat_lit 178, ⟨(.type "function"), none, (.func ⟨(Str.ofString "whole_reckoned"), (Str.ofString "whole_reckoned"), sArgs (stm 26), .stmts (sBody (stm 26)), sScope (stm 26), 3, [], .none, .none, .none, (.str (Str.ofString "basicplus.arith") 399), none, (.ref 177), .none, 0⟩), #[]⟩) ::
  (nat_lit 184, ⟨(.type "code"), none, (.fields #[(.str (Str.ofString "cut_quotient") 428), (.str (Str.ofString "cut_quotient") 429), (.str (Str.ofString "/claim/cut.py") 430), (.int 114 0), (.int 2 0), (.int 0 0), (.int 0 0), (.int 3 0), (.ref 179), (.bool true), (.int 181 0), (.ref 180), .none, (.ref 181), (.ref 182), (.ref 183), (.int 434 0), (.int 114 0), (.str (Str.ofString "/claim/cut.py") 435)]), #[]⟩) ::
  (nat_lit 185, ⟨(.type "function"), none, (.func ⟨(Str.ofString "cut_quotient"), (Str.ofString "cut_quotient"), sArgs (stm 27), .stmts (sBody (stm 27)), sScope (stm 27), 3, [], .none, .none, .none, (.str (Str.ofString "basicplus.arith") 399), none, (.ref 184), .none, 0⟩), #[]⟩) ::
  (nat_lit 191, ⟨(.type "code"), none, (.fields #[(.str (Str.ofString "cut_rest") 437), (.str (Str.ofString "cut_rest") 438), (.str (Str.ofString "/claim/cut.py") 439), (.int 119 0), (.int 2 0), (.int 0 0), (.int 0 0), (.int 3 0), (.ref 186), (.bool true), (.int 181 0), (.ref 187), .none, (.ref 188), (.ref 189), (.ref 190), (.int 442 0), (.int 119 0), (.str (Str.ofString "/claim/cut.py") 443)]), #[]⟩) ::
  (nat_lit 192, ⟨(.type "function"), none, (.func ⟨(Str.ofString "cut_rest"), (Str.ofString "cut_rest"), sArgs (stm 28), .stmts (sBody (stm 28)), sScope (stm 28), 3, [], .none, .none, .none, (.str (Str.ofString "basicplus.arith") 399), none, (.ref 191), .none, 0⟩), #[]⟩) ::
  (nat_lit 198, ⟨(.type "code"), none, (.fields #[(.str (Str.ofString "exponent_of") 445), (.str (Str.ofString "exponent_of") 446), (.str (Str.ofString "/claim/cut.py") 447), (.int 121 0), (.int 1 0), (.int 0 0), (.int 0 0), (.int 3 0), (.ref 193), (.bool true), (.int 181 0), (.ref 194), .none, (.ref 195), (.ref 196), (.ref 197), (.int 449 0), (.int 121 0), (.str (Str.ofString "/claim/cut.py") 450)]), #[]⟩) ::
  (nat_lit 199, ⟨(.type "function"), none, (.func ⟨(Str.ofString "exponent_of"), (Str.ofString "exponent_of"), sArgs (stm 29), .stmts (sBody (stm 29)), sScope (stm 29), 3, [], .none, .none, .none, (.str (Str.ofString "basicplus.arith") 399), none, (.ref 198), .none, 0⟩), #[]⟩) ::
  (nat_lit 205, ⟨(.type "code"), none, (.fields #[(.str (Str.ofString "whole_power") 452), (.str (Str.ofString "whole_power") 453), (.str (Str.ofString "/claim/cut.py") 454), (.int 127 0), (.int 4 0), (.int 0 0), (.int 0 0), (.int 3 0), (.ref 200), (.bool true), (.int 181 0), (.ref 201), .none, (.ref 202), (.ref 203), (.ref 204), (.int 459 0), (.int 127 0), (.str (Str.ofString "/claim/cut.py") 460)]), #[]⟩) ::
  (nat_lit 206, ⟨(.type "function"), none, (.func ⟨(Str.ofString "whole_power"), (Str.ofString "whole_power"), sArgs (stm 30), .stmts (sBody (stm 30)), sScope (stm 30), 3, [], .none, .none, .none, (.str (Str.ofString "basicplus.arith") 399), none, (.ref 205), .none, 0⟩), #[]⟩) ::
  (nat_lit 212, ⟨(.type "code"), none, (.fields #[(.str (Str.ofString "raised") 462), (.str (Str.ofString "raised") 463), (.str (Str.ofString "/claim/cut.py") 464), (.int 133 0), (.int 4 0), (.int 0 0), (.int 0 0), (.int 3 0), (.ref 207), (.bool true), (.int 181 0), (.ref 208), .none, (.ref 209), (.ref 210), (.ref 211), (.int 470 0), (.int 133 0), (.str (Str.ofString "/claim/cut.py") 471)]), #[]⟩) ::
  (nat_lit 213, ⟨(.type "function"), none, (.func ⟨(Str.ofString "raised"), (Str.ofString "raised"), sArgs (stm 31), .stmts (sBody (stm 31)), sScope (stm 31), 3, [], .none, .none, .none, (.str (Str.ofString "basicplus.arith") 399), none, (.ref 212), .none, 0⟩), #[]⟩) ::
  (nat_lit 219, ⟨(.type "code"), none, (.fields #[(.str (Str.ofString "reckoned") 473), (.str (Str.ofString "reckoned") 474), (.str (Str.ofString "/claim/cut.py") 475), (.int 138 0), (.int 5 0), (.int 0 0), (.int 0 0), (.int 3 0), (.ref 214), (.bool true), (.int 181 0), (.ref 215), .none, (.ref 216), (.ref 217), (.ref 218), (.int 486 0), (.int 138 0), (.str (Str.ofString "/claim/cut.py") 487)]), #[]⟩) ::
  (nat_lit 220, ⟨(.type "function"), none, (.func ⟨(Str.ofString "reckoned"), (Str.ofString "reckoned"), sArgs (stm 32), .stmts (sBody (stm 32)), sScope (stm 32), 3, [], .none, .none, .none, (.str (Str.ofString "basicplus.arith") 399), none, (.ref 219), .none, 0⟩), #[]⟩) ::
  (nat_lit 226, ⟨(.type "code"), none, (.fields #[(.str (Str.ofString "negated") 489), (.str (Str.ofString "negated") 490), (.str (Str.ofString "/claim/cut.py") 491), (.int 153 0), (.int 3 0), (.int 0 0), (.int 0 0), (.int 3 0), (.ref 221), (.bool true), (.int 181 0), (.ref 222), .none, (.ref 223), (.ref 224), (.ref 225), (.int 495 0), (.int 153 0), (.str (Str.ofString "/claim/cut.py") 496)]), #[]⟩) ::
  (nat_lit 227, ⟨(.type "function"), none, (.func ⟨(Str.ofString "negated"), (Str.ofString "negated"), sArgs (stm 33), .stmts (sBody (stm 33)), sScope (stm 33), 3, [], .none, .none, .none, (.str (Str.ofString "basicplus.arith") 399), none, (.ref 226), .none, 0⟩), #[]⟩) ::
  (nat_lit 233, ⟨(.type "code"), none, (.fields #[(.str (Str.ofString "order_of") 498), (.str (Str.ofString "order_of") 499), (.str (Str.ofString "/claim/cut.py") 500), (.int 155 0), (.int 2 0), (.int 0 0), (.int 0 0), (.int 3 0), (.ref 228), (.bool true), (.int 181 0), (.ref 229), .none, (.ref 230), (.ref 231), (.ref 232), (.int 503 0), (.int 155 0), (.str (Str.ofString "/claim/cut.py") 504)]), #[]⟩) ::
  (nat_lit 234, ⟨(.type "function"), none, (.func ⟨(Str.ofString "order_of"), (Str.ofString "order_of"), sArgs (stm 34), .stmts (sBody (stm 34)), sScope (stm 34), 3, [], .none, .none, .none, (.str (Str.ofString "basicplus.arith") 399), none, (.ref 233), .none, 0⟩), #[]⟩) ::
  (nat_lit 240, ⟨(.type "code"), none, (.fields #[(.str (Str.ofString "stands_so") 506), (.str (Str.ofString "stands_so") 507), (.str (Str.ofString "/claim/cut.py") 508), (.int 161 0), (.int 2 0), (.int 0 0), (.int 0 0), (.int 3 0), (.ref 235), (.bool true), (.int 181 0), (.ref 236), .none, (.ref 237), (.ref 238), (.ref 239), (.int 511 0), (.int 161 0), (.str (Str.ofString "/claim/cut.py") 512)]), #[]⟩) ::
  (nat_lit 241, ⟨(.type "function"), none, (.func ⟨(Str.ofString "stands_so"), (Str.ofString "stands_so"), sArgs (stm 35), .stmts (sBody (stm 35)), sScope (stm 35), 3, [], .none, .none, .none, (.str (Str.ofString "basicplus.arith") 399), none, (.ref 240), .none, 0⟩), #[]⟩) ::
  (nat_lit 247, ⟨(.type "code"), none, (.fields #[(.str (Str.ofString "inverted") 514), (.str (Str.ofString "inverted") 515), (.str (Str.ofString "/claim/cut.py") 516), (.int 167 0), (.int 2 0), (.int 0 0), (.int 0 0), (.int 3 0), (.ref 242), (.bool true), (.int 181 0), (.ref 243), .none, (.ref 244), (.ref 245), (.ref 246), (.int 519 0), (.int 167 0), (.str (Str.ofString "/claim/cut.py") 520)]), #[]⟩) ::
  (nat_lit 248, ⟨(.type "function"), none, (.func ⟨(Str.ofString "inverted"), (Str.ofString "inverted"), sArgs (stm 36), .stmts (sBody (stm 36)), sScope (stm 36), 3, [], .none, .none, .none, (.str (Str.ofString "basicplus.arith") 399), none, (.ref 247), .none, 0⟩), #[]⟩) ::
  (nat_lit 254, ⟨(.type "code"), none, (.fields #[(.str (Str.ofString "logic") 522), (.str (Str.ofString "logic") 523), (.str (Str.ofString "/claim/cut.py") 524), (.int 169 0), (.int 4 0), (.int 0 0), (.int 0 0), (.int 3 0), (.ref 249), (.bool true), (.int 181 0), (.ref 250), .none, (.ref 251), (.ref 252), (.ref 253), (.int 531 0), (.int 169 0), (.str (Str.ofString "/claim/cut.py") 532)]), #[]⟩) ::
  (nat_lit 255, ⟨(.type "function"), none, (.func ⟨(Str.ofString "logic"), (Str.ofString "logic"), sArgs (stm 37), .stmts (sBody (stm 37)), sScope (stm 37), 3, [], .none, .none, .none, (.str (Str.ofString "basicplus.arith") 399), none, (.ref 254), .none, 0⟩), #[]⟩) ::
  (nat_lit 261, ⟨(.type "code"), none, (.fields #[(.str (Str.ofString "_law_coin") 536), (.str (Str.ofString "_law_coin") 537), (.str (Str.ofString "/claim/cut.py") 538), (.int 179 0), (.int 2 0), (.int 0 0), (.int 0 0), (.int 3 0), (.ref 256), (.bool true), (.int 181 0), (.ref 257), .none, (.ref 258), (.ref 259), (.ref 260), (.int 541 0), (.int 179 0), (.str (Str.ofString "/claim/cut.py") 542)]), #[]⟩) ::
  (nat_lit 262, ⟨(.type "function"), none, (.func ⟨(Str.ofString "_law_coin"), (Str.ofString "_law_coin"), sArgs (stm 39), .stmts (sBody (stm 39)), sScope (stm 39), 3, [], .none, .none, .none, (.str (Str.ofString "law_pq0142_01") 534), none, (.ref 261), .none, 0⟩), #[]⟩) ::
  (nat_lit 268, ⟨(.type "code"), none, (.fields #[(.str (Str.ofString "_law_decimal") 544), (.str (Str.ofString "_law_decimal") 545), (.str (Str.ofString "/claim/cut.py") 546), (.int 184 0), (.int 1 0), (.int 0 0), (.int 0 0), (.int 3 0), (.ref 263), (.bool true), (.int 181 0), (.ref 264), .none, (.ref 265), (.ref 266), (.ref 267), (.int 549 0), (.int 184 0), (.str (Str.ofString "/claim/cut.py") 550)]), #[]⟩) ::
  (nat_lit 269, ⟨(.type "function"), none, (.func ⟨(Str.ofString "_law_decimal"), (Str.ofString "_law_decimal"), sArgs (stm 40), .stmts (sBody (stm 40)), sScope (stm 40), 3, [], .none, .none, .none, (.str (Str.ofString "law_pq0142_01") 534), none, (.ref 268), .none, 0⟩), #[]⟩) ::
  (nat_lit 275, ⟨(.type "code"), none, (.fields #[(.str (Str.ofString "_law_worth") 552), (.str (Str.ofString "_law_worth") 553), (.str (Str.ofString "/claim/cut.py") 554), (.int 189 0), (.int 1 0), (.int 0 0), (.int 0 0), (.int 3 0), (.ref 270), (.bool true), (.int 181 0), (.ref 271), .none, (.ref 272), (.ref 273), (.ref 274), (.int 558 0), (.int 189 0), (.str (Str.ofString "/claim/cut.py") 559)]), #[]⟩) ::
  (nat_lit 276, ⟨(.type "function"), none, (.func ⟨(Str.ofString "_law_worth"), (Str.ofString "_law_worth"), sArgs (stm 41), .stmts (sBody (stm 41)), sScope (stm 41), 3, [], .none, .none, .none, (.str (Str.ofString "law_pq0142_01") 534), none, (.ref 275), .none, 0⟩), #[]⟩) ::
  (nat_lit 282, ⟨(.type "code"), none, (.fields #[(.str (Str.ofString "_law_kinds") 561), (.str (Str.ofString "_law_kinds") 562), (.str (Str.ofString "/claim/cut.py") 563), (.int 195 0), (.int 2 0), (.int 0 0), (.int 0 0), (.int 3 0), (.ref 277), (.bool true), (.int 181 0), (.ref 278), .none, (.ref 279), (.ref 280), (.ref 281), (.int 566 0), (.int 195 0), (.str (Str.ofString "/claim/cut.py") 567)]), #[]⟩) ::
  (nat_lit 283, ⟨(.type "function"), none, (.func ⟨(Str.ofString "_law_kinds"), (Str.ofString "_law_kinds"), sArgs (stm 42), .stmts (sBody (stm 42)), sScope (stm 42), 3, [], .none, .none, .none, (.str (Str.ofString "law_pq0142_01") 534), none, (.ref 282), .none, 0⟩), #[]⟩) ::
  (nat_lit 289, ⟨(.type "code"), none, (.fields #[(.str (Str.ofString "_law_due") 569), (.str (Str.ofString "_law_due") 570), (.str (Str.ofString "/claim/cut.py") 571), (.int 197 0), (.int 3 0), (.int 0 0), (.int 0 0), (.int 3 0), (.ref 284), (.bool true), (.int 181 0), (.ref 285), .none, (.ref 286), (.ref 287), (.ref 288), (.int 576 0), (.int 197 0), (.str (Str.ofString "/claim/cut.py") 577)]), #[]⟩) ::
  (nat_lit 290, ⟨(.type "function"), none, (.func ⟨(Str.ofString "_law_due"), (Str.ofString "_law_due"), sArgs (stm 43), .stmts (sBody (stm 43)), sScope (stm 43), 3, [], .none, .none, .none, (.str (Str.ofString "law_pq0142_01") 534), none, (.ref 289), .none, 0⟩), #[]⟩) ::
  (nat_lit 296, ⟨(.type "code"), none, (.fields #[(.str (Str.ofString "_law_bits") 579), (.str (Str.ofString "_law_bits") 580), (.str (Str.ofString "/claim/cut.py") 581), (.int 206 0), (.int 4 0), (.int 0 0), (.int 0 0), (.int 3 0), (.ref 291), (.bool true), (.int 181 0), (.ref 292), .none, (.ref 293), (.ref 294), (.ref 295), (.int 591 0), (.int 206 0), (.str (Str.ofString "/claim/cut.py") 592)]), #[]⟩) ::
  (nat_lit 297, ⟨(.type "function"), none, (.func ⟨(Str.ofString "_law_bits"), (Str.ofString "_law_bits"), sArgs (stm 44), .stmts (sBody (stm 44)), sScope (stm 44), 3, [], .none, .none, .none, (.str (Str.ofString "law_pq0142_01") 534), none, (.ref 296), .none, 0⟩), #[]⟩) ::
  (nat_lit 301, ⟨(.type "code"), none, (.fields #[(.str (Str.ofString "_law_pair_right") 594), (.str (Str.ofString "_law_pair_right") 595), (.str (Str.ofString "/claim/cut.py") 596), (.int 213 0), (.int 3 0), (.int 0 0), (.int 0 0), (.int 3 0), (.ref 298), (.bool true), (.int 181 0), (.ref 299), .none, .none, .none, (.ref 300), (.int 597 0), (.int 213 0), (.str (Str.ofString "/claim/cut.py") 598)]), #[]⟩) ::
  (nat_lit 302, ⟨(.type "function"), none, (.func ⟨(Str.ofString "_law_pair_right"), (Str.ofString "_law_pair_right"), sArgs (stm 45), .stmts (sBody (stm 45)), sScope (stm 45), 3, [], .none, .none, .none, (.str (Str.ofString "law_pq0142_01") 534), none, (.ref 301), .none, 0⟩), #[]⟩) ::
  (nat_lit 306, ⟨(.type "code"), none, (.fields #[(.str (Str.ofString "_law_order_right") 600), (.str (Str.ofString "_law_order_right") 601), (.str (Str.ofString "/claim/cut.py") 602), (.int 230 0), (.int 2 0), (.int 0 0), (.int 0 0), (.int 3 0), (.ref 303), (.bool true), (.int 181 0), (.ref 304), .none, .none, .none, (.ref 305), (.int 603 0), (.int 230 0), (.str (Str.ofString "/claim/cut.py") 604)]), #[]⟩) ::
  (nat_lit 307, ⟨(.type "function"), none, (.func ⟨(Str.ofString "_law_order_right"), (Str.ofString "_law_order_right"), sArgs (stm 46), .stmts (sBody (stm 46)), sScope (stm 46), 3, [], .none, .none, .none, (.str (Str.ofString "law_pq0142_01") 534), none, (.ref 306), .none, 0⟩), #[]⟩) ::
  (nat_lit 311, ⟨(.type "code"), none, (.fields #[(.str (Str.ofString "law") 606), (.str (Str.ofString "law") 607), (.str (Str.ofString "/claim/cut.py") 608), (.int 239 0), (.int 1 0), (.int 0 0), (.int 0 0), (.int 3 0), (.ref 308), (.bool true), (.int 181 0), (.ref 309), .none, .none, .none, (.ref 310), (.int 609 0), (.int 239 0), (.str (Str.ofString "/claim/cut.py") 610)]), #[]⟩) ::
  (nat_lit 312, ⟨(.type "function"), none, (.func ⟨(Str.ofString "law"), (Str.ofString "law"), sArgs (stm 47), .stmts (sBody (stm 47)), sScope (stm 47), 3, [], .none, .none, .none, (.str (Str.ofString "law_pq0142_01") 534), none, (.ref 311), .none, 0⟩), #[]⟩) :: []
noncomputable def as : List Addr := [2, 3, 18, 23, 24, 30, 31, 33, 34, 43, 44, 50, 51, 57, 58, 64, 65, 71, 72, 78, 79, 85, 86, 87, 93, 94, 100, 101, 107, 108, 114, 115, 121, 122, 128, 129, 135, 136, 142, 143, 149, 150, 156, 157, 163, 164, 170, 171, 177, 178, 184, 185, 191, 192, 198, 199, 205, 206, 212, 213, 219, 220, 226, 227, 233, 234, 240, 241, 247, 248, 254, 255, 261, 262, 268, 269, 275, 276, 282, 283, 289, 290, 296, 297, 301, 302, 306, 307, 311, 312]
theorem as_eq (P : Params) : as = (K P).map (·.1) := by kernel_rfl
noncomputable abbrev R : OpenRow := PySem.Challenge.rw_pq0142_01.row
noncomputable def keepIdx : List Nat := [1,2,3,4,5,6,7,8,9,11,12,13,14,15,16,17,18,19,20,21,22,24,25,26,27,28,29,30,31,32,33,34,35,36,37,39,40,41,42,43,44,45,46,47]
noncomputable def vw : Program := view PySem.Challenge.pw_pq0142_01 keepIdx
noncomputable abbrev loose : List Str := [Str.ofString "BasicError"]
noncomputable abbrev Hk : Hook := kmHook K as as_eq [299, 309]
noncomputable abbrev Xt (s : Shared) : Bool := xlAt vw [] s && recOk (RowW.records R.toRowW) s
noncomputable abbrev Tf (tr : (String → Option Builtin) → Program → World → Nat → Option Value → Nat → Shared → Thread → Option Shared) (tb : String → Option Builtin) {α : Type} (os_ : Program → List Str → List Str → (Shared → Bool) → Bool → Shared → α) (g : α) (w : World) (os : OsState) : Prop :=
  ((tr tb PySem.Challenge.pw_pq0142_01 w (boot_heap w.params).objs.size ((boot_heap w.params).nsMap mainGlobals "__annotations__") 3254 ⟨boot_heap w.params, #[], boot_drawn, boot_toks, os⟩ (topStub PySem.Challenge.pw_pq0142_01)).bind
    fun s₁ => match staticsOk (importedModules PySem.Challenge.pw_pq0142_01.main.body) (boot_heap w.params) s₁.heap && namesBound PySem.Challenge.pw_pq0142_01 s₁.heap && gensDone s₁ && laidKept (boot_heap w.params) s₁.heap with
      | true => some s₁
      | false => none).map (fun s => (os_ vw loose (importedModules PySem.Challenge.pw_pq0142_01.main.body) Xt true s, Hook.obs Hk s)) = some (g, Hook.val Hk w)
theorem tf (w : World) (os : OsState) : Tf Fast.tw14082659384304107361 Fast.tw14364793385576792824 Fast.tw4187177175401517315 (openGood vw loose) w os := by
  kernel_rfl
theorem tf5 (w : World) (os : OsState) : Tf topRun treeTable openSeen (openGood vw loose) w os :=
  Fast.te14082659384304107361 ▸ Fast.te14364793385576792824 ▸ Fast.te4187177175401517315 ▸ tf w os
theorem opening_is : opening PySem.Challenge.pw_pq0142_01 = plainProg PySem.Challenge.pw_pq0142_01.main.scope.names := by rfl
theorem fence_is : ∀ s : Shared, fenceModules? PySem.Challenge.pw_pq0142_01 s = some s := fun _ => rfl
theorem boot_is (w : World) : (fencedOpening treeTable PySem.Challenge.pw_pq0142_01 w 3254).map (fun s => (s.heap, s.gens, s.drawn, s.toks)) = some (boot_heap w.params, Array.mk [], boot_drawn, boot_toks) :=
  boot_open (p := PySem.Challenge.pw_pq0142_01) (N := 3254) opening_is rfl fence_is w
theorem split_is (w : World) : ∃ os, fencedOpening treeTable PySem.Challenge.pw_pq0142_01 w 3254 = some ⟨boot_heap w.params, Array.mk [], boot_drawn, boot_toks, os⟩ := by
  obtain ⟨s, hs, hv⟩ := Option.map_eq_some_iff.mp (boot_is w)
  obtain ⟨h, gs, d, k, os⟩ := s
  simp only [Prod.mk.injEq] at hv
  obtain ⟨rfl, rfl, rfl, rfl⟩ := hv
  exact ⟨os, hs⟩
theorem topFrom_of {tb : String → Option Builtin} {p : Program} {w : World} {N : Nat} {s₀ : Shared} (z : (s₀.heap.isNs mainGlobals && s₀.gens.size == 0) = true) :
    topFrom tb p w N s₀ = (topRun tb p w s₀.heap.objs.size (s₀.heap.nsMap mainGlobals "__annotations__") N s₀ (topStub p)).bind fun s₁ => match staticsOk (importedModules p.main.body) s₀.heap s₁.heap && namesBound p s₁.heap && gensDone s₁ && laidKept s₀.heap s₁.heap with
      | true => some s₁
      | false => none := by
  unfold topFrom
  rw [z]
  rfl
theorem isNs_boot (w : World) : ((boot_heap w.params).isNs mainGlobals && (Array.mk [] : Array GenState).size == 0) = true := by kernel_rfl
theorem left : LeftO PySem.Challenge.pw_pq0142_01 vw loose Xt (Hook.obs Hk) (Hook.val Hk) 3254 := fun w => by
  obtain ⟨os, hs⟩ := split_is w
  have t := tf5 w os
  unfold openEnds
  rw [hs, Option.bind_some, topFrom_of (isNs_boot w)]
  exact t
theorem wellSaid_is : PySem.Challenge.rw_pq0142_01.wellSaid = true := by decide +kernel
theorem row_wellSaid : R.wellSaid = true := row_said wellSaid_is
noncomputable def sPos : PySem.Stmt → PySem.Pos
  | .FunctionDef _ _ _ _ _ _ _ _ _ p => p
  | _ => default
noncomputable def lawD : DefRec := ⟨Str.ofString "law", sArgs (stm 47), sBody (stm 47), sScope (stm 47), sPos (stm 47)⟩
theorem opens_is : (chainsOk vw && opensWell R.prog && (frees R.toRowW && R.within.isEmpty)) = true := by decide +kernel
theorem hd (hc : WalkO vw loose (XL vw []) Hk.says R.toRowW lawD [] fun f vs => PySem.call f vs) : PySem.Challenge.rw_pq0142_01.Holds := by
  refine holds_law wellSaid_is fun _ => ?_
  refine holds_open (q := vw) (loose := loose) (Xt := Xt) (XP := XL vw []) (Yf := Hook.obs Hk) (Ya := Hook.val Hk) (YP := Hook.says Hk) (N := 3254) left (Hook.of Hk) (Hook.keeps Hk) (fun s e => xl_of s (Bool.and_eq_true_iff.mp e).1) XL.keeps (by rfl) (by rfl) (by rfl) (fun s e => recFacts_of (Bool.and_eq_true_iff.mp e).2) (by rfl) row_wellSaid opens_is ⟨rfl, rfl, rfl, rfl, rfl, by decide +kernel⟩ ?hw hc
  case hw => w_witness2
end
section
set_option maxHeartbeats 8000000
noncomputable abbrev Pg : Program := PySem.Challenge.rw_pq0142_01.row.prog
noncomputable abbrev lo : List Str := looseW vw loose ++ (recsOf vw).map (·.name) ++ (litsOf vw).map (·.1) ++ (clssOf vw (looseW vw loose)).map (·.name)
/-- a def's end hands its value to Q -/
noncomputable def Done (Q : Value → Shared → Prop) (v : Value) (s : Shared) : Prop := Q v s
noncomputable abbrev TopM (mean : ExcName → Option Value) (mg mb : Str → Option Value) (h : Heap) : Prop := Top topProg lo mean mg mb h
noncomputable abbrev AA (dp un : Nat) (fr : Option (List Env)) (gd : Option (List Code)) : Around := { handled := none, depth := dp, frames := fr, guards := gd, units := un }
/-- what a call of f with vs does: old objects stay, the answer is as Out says -/
noncomputable def Con (w : World) (mean : ExcName → Option Value) (mg mb : Str → Option Value) (f : Addr) (vs : List Value) (d u : Nat) (pre : Heap → Prop) (Out : Heap → Heap → Value → Prop) : Prop :=
  ∀ (dp un : Nat) (fr : Option (List Env)) (gd : Option (List Code)) (s : Shared) (Q E : Value → Shared → Prop), (K w.params).In s.heap → TopM mean mg mb s.heap → pre s.heap → dp + d < recursionLimit → un + u < cLine →
    (∀ r h' tk', s.heap.StaysIn h' → Out s.heap h' r → Q r { s with heap := h', toks := tk' }) →
    wpAny (model Pg w) (AA dp un fr gd) (call (.ref f) vs) Q E s
theorem fr_stays {h₀ h h' : Heap} {L : Addr} {m : Str → Option Value} (F : Fr h₀ L h m) (k : h.StaysIn h') : Fr h₀ L h' m :=
  ⟨F.ns.keeps k, fun b o e => k b o (F.keep b o e), F.above⟩
theorem news_stays {h₀ h h' : Heap} {L : Addr} {news : List (Addr × Obj)} (N : News h₀ L h news) (k : h.StaysIn h') : News h₀ L h' news :=
  fun p hp => ⟨k _ _ (N p hp).1, (N p hp).2⟩
section
variable {w : World} {mean : ExcName → Option Value} {mg mb : Str → Option Value} {A : Around} {s : Shared} {Q E : Value → Shared → Prop} {f c : Addr} {vs : List Value} {name qual : Str} {params : Arguments} {body : List Stmt} {scope : Scope} {dV pm ct oc : Value} {od : Option Addr} {osl : Array (Option Value)} {binds : List (Str × Value)} {i : Nat}
theorem enter {rb : List (Str × Value)} (X : (K w.params).In s.heap) (T : TopM mean mg mb s.heap)
    (ho : (K w.params).lookup f = some ⟨oc, od, .func (fnOf name qual (sArgs (stm i)) (sBody (stm i)) (sScope (stm i)) dV .none .none pm none (.ref c) ct), osl⟩)
    (hcd : codeIn (K w.params) (.ref c) qual = true) (hroom : A.depth < recursionLimit)
    (hp : sArgs (stm i) = params) (hb : sBody (stm i) = body) (hs : sScope (stm i) = scope)
    (hz : (params.args.map (·.arg)).zip vs = binds) (hr : binds.reverse = rb)
    (hbind : bindArgs (fnOf name qual params body scope dV .none .none pm none (.ref c) ct) ⟨vs, []⟩ = pure binds)
    (hloc : (binds.all fun x => decide (scope.names.lookup x.1 = some .local)) = true)
    (h : ∀ L' h₁ tk, Fr s.heap L' h₁ (fun y => rb.lookup y) → News s.heap L' h₁ [] →
      wpAny (model Pg w) (A.deeper (envOf qual scope L' f (.ref c))) (execs body (envOf qual scope L' f (.ref c)))
        (fun fl s' => Done Q (match fl with | .ret v => v | _ => .none) s') (fun _ _ => False) { s with heap := h₁, toks := tk })
    (hcell : (scope.names.all fun x => x.2 != .cell) = true) (hco : scope.isCoroutine = false) (hgen : scope.isGenerator = false) (hk : scope.kind = .function) :
    wpAny (model Pg w) A (call (.ref f) vs) Q E s := by
  subst hp hb hs hr
  refine wpAny_call (codeAny_call_def (fd := fnOf name qual (sArgs (stm i)) (sBody (stm i)) (sScope (stm i)) dV .none .none pm none (.ref c) ct) (body := sBody (stm i)) (binds := binds) hroom (X _ _ ho) rfl T.nolimit (codeRec_of X hcd) rfl (BindsTo.of_eq hbind) ?_ (locs hloc) (fun h₁ hns hk₁ => ?_) hco hgen hk)
  · intro x hx
    have := List.all_eq_true.mp hcell x hx
    simpa using this
  · refine wpAny_mono (h s.heap.objs.size h₁ _ ⟨hns, hk₁, Nat.le_refl _⟩ News.nil) (fun fl s' x => ?_) (fun _ _ x => x.elim)
    exact x
theorem Con.use {h₀ : Heap} {L : Addr} {m : Str → Option Value} {news : List (Addr × Obj)} {d u : Nat} {pre : Heap → Prop} {Out : Heap → Heap → Value → Prop} (C : Con w mean mg mb f vs d u pre Out)
    (F : Fr h₀ L s.heap m) (N : News h₀ L s.heap news) (X : (K w.params).In h₀) (T : TopM mean mg mb h₀) {dp un : Nat} {fr : Option (List Env)} {gd : Option (List Code)} (hp : pre s.heap) (hd : dp + d < recursionLimit) (hu : un + u < cLine)
    (k : ∀ r h' tk', Fr h₀ L h' m → News h₀ L h' news → s.heap.StaysIn h' → Out s.heap h' r → Q r { s with heap := h', toks := tk' }) : wpAny (model Pg w) (AA dp un fr gd) (call (.ref f) vs) Q E s :=
  C dp un fr gd s Q E (X.keeps F.keep) (T.keeps F.keep) hp hd hu fun r h' tk' st o => k r h' tk' (fr_stays F st) (news_stays N st) st o
end
/-- a made pair of ints -/
noncomputable abbrev tupO (c : Int) (t : Tok) (e : Int) (u : Tok) : Obj := { cls := .type "tuple", data := .seq [Value.int c t, Value.int e u].toArray }
noncomputable abbrev tupO3 (c : Int) (t : Tok) (e : Int) (u : Tok) (x : Int) (v : Tok) : Obj := { cls := .type "tuple", data := .seq [Value.int c t, Value.int e u, Value.int x v].toArray }
noncomputable def OutT3 (p : Int × Int × Int) (h h' : Heap) (r : Value) : Prop := ∃ a t u v, r = .ref a ∧ h'.get? a = some (tupO3 p.1 t p.2.1 u p.2.2 v) ∧ h.get? a = none
noncomputable def OutI (n : Int) (_ _ : Heap) (r : Value) : Prop := ∃ t, r = .int n t
noncomputable def OutB (b : Bool) (_ _ : Heap) (r : Value) : Prop := r = .bool b
noncomputable def OutT (p : Int × Int) (h h' : Heap) (r : Value) : Prop := ∃ a t u, r = .ref a ∧ h'.get? a = some (tupO p.1 t p.2 u) ∧ h.get? a = none
section
variable {w : World} {mean : ExcName → Option Value} {mg mb : Str → Option Value} {s : Shared} {Q E : Value → Shared → Prop} {f : Addr} {vs : List Value} {d u : Nat} {pre : Heap → Prop} {h₀ : Heap} {L : Addr} {m : Str → Option Value} {news : List (Addr × Obj)} {dp un : Nat} {fr : Option (List Env)} {gd : Option (List Code)}
theorem Con.useI {n : Int} (C : Con w mean mg mb f vs d u pre (OutI n)) (F : Fr h₀ L s.heap m) (N : News h₀ L s.heap news) (X : (K w.params).In h₀) (T : TopM mean mg mb h₀) (hp : pre s.heap) (hd : dp + d < recursionLimit) (hu : un + u < cLine)
    (k : ∀ t h' tk', Fr h₀ L h' m → News h₀ L h' news → Q (.int n t) { s with heap := h', toks := tk' }) : wpAny (model Pg w) (AA dp un fr gd) (call (.ref f) vs) Q E s :=
  C.use F N X T hp hd hu fun _ h' tk' F' N' _ ⟨t, e⟩ => e ▸ k t h' tk' F' N'
theorem Con.useB {b : Bool} (C : Con w mean mg mb f vs d u pre (OutB b)) (F : Fr h₀ L s.heap m) (N : News h₀ L s.heap news) (X : (K w.params).In h₀) (T : TopM mean mg mb h₀) (hp : pre s.heap) (hd : dp + d < recursionLimit) (hu : un + u < cLine)
    (k : ∀ h' tk', Fr h₀ L h' m → News h₀ L h' news → Q (.bool b) { s with heap := h', toks := tk' }) : wpAny (model Pg w) (AA dp un fr gd) (call (.ref f) vs) Q E s :=
  C.use F N X T hp hd hu fun _ h' tk' F' N' _ e => (show _ = _ from e) ▸ k h' tk' F' N'
theorem fr_has {h h' : Heap} (F : Fr h₀ L h m) {a : Addr} (e : h.get? a = none) : a ≠ L ∧ h₀.get? a = none := by
  refine ⟨fun q => ?_, ?_⟩
  · obtain ⟨o, _, _, ho, _⟩ := F.ns
    rw [q, ho] at e; cases e
  · cases q : h₀.get? a with
    | none => rfl
    | some o => rw [F.keep _ _ q] at e; cases e
theorem Con.useT {p : Int × Int} (C : Con w mean mg mb f vs d u pre (OutT p)) (F : Fr h₀ L s.heap m) (N : News h₀ L s.heap news) (X : (K w.params).In h₀) (T : TopM mean mg mb h₀) (hp : pre s.heap) (hd : dp + d < recursionLimit) (hu : un + u < cLine)
    (k : ∀ a t v h' tk', Fr h₀ L h' m → News h₀ L h' ((a, tupO p.1 t p.2 v) :: news) → Q (.ref a) { s with heap := h', toks := tk' }) : wpAny (model Pg w) (AA dp un fr gd) (call (.ref f) vs) Q E s :=
  C.use F N X T hp hd hu fun r h' tk' F' N' _ ⟨a, t, v, e, ha, hn⟩ => by
    subst e
    refine k a t v h' tk' F' fun q hq => ?_
    rcases List.mem_cons.mp hq with rfl | hq
    · exact ⟨ha, fr_has (h' := h') F hn⟩
    · exact N' q hq
theorem outT_of {h : Heap} {c e : Int} {t v : Tok} {a : Addr} {p : Int × Int} (N : News h₀ L h news) (hm : (a, tupO c t e v) ∈ news) (hp : p = (c, e)) : OutT p h₀ h (.ref a) := by
  subst hp
  exact ⟨a, t, v, rfl, (N _ hm).1, (N _ hm).2.2⟩
end
theorem call_abs {w : World} {A : Around} {E : Value → Shared → Prop} {s : Shared} {a : Int} {t : Tok} {Q : Value → Shared → Prop} (h : ∀ (u : Tok) (tk : Nat), Q (.int (absI a) u) { s with toks := tk }) :
    wpAny (model Pg w) A (call (.builtin "abs") [.int a t]) Q E s := call_abs_int h
theorem call_max {w : World} {A : Around} {E : Value → Shared → Prop} {s : Shared} {h₀ : Heap} {L : Addr} {m : Str → Option Value} {news : List (Addr × Obj)} {a b : Int} {t u : Tok} {Q : Value → Shared → Prop} (hA : A.handled = none) (F : Fr h₀ L s.heap m) (N : News h₀ L s.heap news)
    (h : ∀ (v : Tok) (h' : Heap) (tk : Nat), Fr h₀ L h' m → News h₀ L h' news → Q (.int (max a b) v) { s with heap := h', toks := tk }) : wpAny (model Pg w) A (call (.builtin "max") [.int a t, .int b u]) Q E s :=
  max_two_N hA F N fun h' tk F' N' => by
    have e : (if b > a then b else a) = max a b := by split <;> omega
    rw [e]
    exact h _ h' tk F' N'
theorem isi_tup {w : World} {A : Around} {E : Value → Shared → Prop} {s : Shared} {a : Addr} {items : Array Value} {Q : Value → Shared → Prop} (X : (K w.params).In s.heap) (I : IsTup s.heap a items) (h : ∀ tk, Q (.bool true) { s with toks := tk }) :
    wpAny (model Pg w) A (call (.builtin "isinstance") [.ref a, .type "tuple"]) Q E s :=
  kia_one kitx_tuple X (let ⟨o, ho, hc, _⟩ := I; ⟨o, ho, hc⟩) (by rfl) (by intro q; cases q) h
theorem isi_tup_str {w : World} {A : Around} {E : Value → Shared → Prop} {s : Shared} {a : Addr} {items : Array Value} {Q : Value → Shared → Prop} (X : (K w.params).In s.heap) (I : IsTup s.heap a items) (h : ∀ tk, Q (.bool false) { s with toks := tk }) :
    wpAny (model Pg w) A (call (.builtin "isinstance") [.ref a, .type "str"]) Q E s :=
  kia_one kitx_tuple X (let ⟨o, ho, hc, _⟩ := I; ⟨o, ho, hc⟩) (by rfl) (by intro q; cases q) h
theorem pow10_ne (k : Nat) : (10 : Int) ^ k ≠ 0 := Int.ne_of_gt (Int.pow_pos (by decide))
theorem natAbs_pow10 (k : Nat) : ((10 : Int) ^ k).natAbs = 10 ^ k := by rw [Int.natAbs_pow]; rfl
theorem lt_two_of_ten {k : Nat} {n : Nat} (h : n < 10 ^ k) : n < 2 ^ (4 * k) :=
  Nat.lt_of_lt_of_le h (by rw [Nat.pow_mul]; exact Nat.pow_le_pow_left (by decide) k)
/-- an int of few figures -/
noncomputable def Sm (x : Int) : Prop := x.natAbs < 10 ^ 500
theorem Sm.log2 {x : Int} (h : Sm x) : x.natAbs.log2 < 9000 := by
  by_cases h0 : x.natAbs = 0
  · rw [h0]; decide
  · rw [Nat.log2_lt h0]
    exact Nat.lt_of_lt_of_le (lt_two_of_ten h) (Nat.pow_le_pow_right (by decide) (by decide))
theorem Sm.bits {x : Int} (h : Sm x) : Builtin.Int.intBits x ≤ 2 ^ 20 := by
  have := h.log2
  unfold Builtin.Int.intBits
  split <;> omega
theorem Sm.mulOk {x y : Int} (hx : Sm x) (hy : Sm y) : IntMulOk x y := IntMulOk.of_bits hx.bits hy.bits
theorem Sm.pow10 {k : Nat} (h : k < 500) : Sm ((10 : Int) ^ k) := by
  unfold Sm
  rw [natAbs_pow10]
  exact Nat.pow_lt_pow_right (by decide) h
theorem Sm.le {x : Int} {k : Nat} (h : x.natAbs ≤ 10 ^ k) (hk : k < 500) : Sm x := Nat.lt_of_le_of_lt h (Nat.pow_lt_pow_right (by decide) hk)
theorem Sm.small {x : Int} (h1 : -1000000000 ≤ x) (h2 : x ≤ 1000000000) : Sm x := Sm.le (k := 9) (by omega) (by decide)
section
variable {b h : Heap} {L a : Addr} {m : Str → Option Value} {news : List (Addr × Obj)} {c e : Int} {t u : Tok} {x1 x2 x3 x4 : Addr × Obj}
end
theorem fr_pin {h₀ h : Heap} {L : Addr} {m : Str → Option Value} {x : Str} {v : Value} (F : Fr h₀ L h m) (e : m x = some v) : Fr h₀ L h (fun y => if y = x then some v else m y) := by
  have : (fun y => if y = x then some v else m y) = m := by
    funext y
    by_cases h : y = x
    · subst h; rw [if_pos rfl, e]
    · rw [if_neg h]
  rw [this]
  exact F
theorem fr_eqm {h₀ h : Heap} {L : Addr} {m m' : Str → Option Value} (F : Fr h₀ L h m) (e : m' = m) : Fr h₀ L h m' := e ▸ F
theorem pin_at {m g : Str → Option Value} {x y : Str} {v w : Value} (e : m x = some v) (e2 : m y = some w) (hg : g x = some v) : (if x = y then some w else g x) = some v := by
  by_cases h : x = y
  · rw [if_pos h, ← e2, ← h, e]
  · rw [if_neg h, hg]
theorem fr_pin2 {h₀ h : Heap} {L : Addr} {m : Str → Option Value} {x y : Str} {v w : Value} (F : Fr h₀ L h m) (e : m x = some v) (e2 : m y = some w) : Fr h₀ L h (fun t => if t = x then some v else if t = y then some w else m t) :=
  fr_pin (fr_pin F e2) (pin_at e e2 e)
theorem fr_pin3 {h₀ h : Heap} {L : Addr} {m : Str → Option Value} {x y z : Str} {v w u : Value} (F : Fr h₀ L h m) (e : m x = some v) (e2 : m y = some w) (e3 : m z = some u) : Fr h₀ L h (fun t => if t = x then some v else if t = y then some w else if t = z then some u else m t) :=
  fr_pin (fr_pin2 F e2 e3) (pin_at (g := fun t => if t = z then some u else m t) e e2 (pin_at e e3 e))
theorem fr_pin4 {h₀ h : Heap} {L : Addr} {m : Str → Option Value} {x y z r : Str} {v w u q : Value} (F : Fr h₀ L h m) (e : m x = some v) (e2 : m y = some w) (e3 : m z = some u) (e4 : m r = some q) : Fr h₀ L h (fun t => if t = x then some v else if t = y then some w else if t = z then some u else if t = r then some q else m t) :=
  fr_pin (fr_pin3 F e2 e3 e4) (pin_at (g := fun t => if t = z then some u else if t = r then some q else m t) e e2 (pin_at (g := fun t => if t = r then some q else m t) e e3 (pin_at e e4 e)))
theorem fr_pin5 {h₀ h : Heap} {L : Addr} {m : Str → Option Value} {x y z r g : Str} {v w u q p : Value} (F : Fr h₀ L h m) (e : m x = some v) (e2 : m y = some w) (e3 : m z = some u) (e4 : m r = some q) (e5 : m g = some p) : Fr h₀ L h (fun t => if t = x then some v else if t = y then some w else if t = z then some u else if t = r then some q else if t = g then some p else m t) :=
  fr_pin (fr_pin4 F e2 e3 e4 e5) (pin_at (g := fun t => if t = z then some u else if t = r then some q else if t = g then some p else m t) e e2 (pin_at (g := fun t => if t = r then some q else if t = g then some p else m t) e e3 (pin_at (g := fun t => if t = g then some p else m t) e e4 (pin_at e e5 e))))
theorem passes_false {M : Model} {A : Around} {env : Env} : PassesOwn M A env (fun _ _ => False) := fun _ _ h => h.elim
end
section
/-- a number of the law's: a whole one, or the same as a decimal -/
noncomputable def isV (h : Heap) (k : Bool) (n : Int) (v : Value) : Prop := match k with
  | true => ∃ a t u, v = .ref a ∧ IsTup h a [Value.int (lawDec n).1 t, Value.int (lawDec n).2 u].toArray
  | false => ∃ t, v = .int n t
noncomputable def OutV (k : Bool) (n : Int) (h h' : Heap) (r : Value) : Prop := match k with
  | true => OutT (lawDec n) h h' r
  | false => OutI n h h' r
theorem isV.keeps {h h' : Heap} {k : Bool} {n : Int} {v : Value} (x : isV h k n v) (st : ∀ b o, h.get? b = some o → h'.get? b = some o) : isV h' k n v := by
  cases k with
  | true => obtain ⟨a, t, u, e, i⟩ := x; exact ⟨a, t, u, e, i.keeps st⟩
  | false => exact x
theorem OutV.base {b h h' : Heap} {k : Bool} {n : Int} {r : Value} (x : OutV k n h h' r) (st : ∀ a o, b.get? a = some o → h.get? a = some o) : OutV k n b h' r := by
  cases k with
  | true =>
    obtain ⟨a, t, u, e, i, f⟩ := x
    refine ⟨a, t, u, e, i, ?_⟩
    cases q : b.get? a with
    | none => rfl
    | some o => rw [st _ _ q] at f; cases f
  | false => exact x
theorem room {a c j k : Nat} (h : a + k < c) (e : Nat.ble j k = true) : a + j < c := Nat.lt_of_le_of_lt (Nat.add_le_add_left (Nat.le_of_ble_eq_true e) _) h
theorem room1 {a c j k : Nat} (h : a + k < c) (e : Nat.ble (j + 1) k = true) : a + 1 + j < c := by
  have := Nat.le_of_ble_eq_true e
  omega
/-- a mark: walk without the rules below -/
inductive EvOff : Prop
  | mk
theorem and6 {a0 a1 a2 a3 a4 a5 G : Prop} (h : a0 ∧ a1 ∧ a2 ∧ a3 ∧ a4 ∧ a5) (k : a0 → a1 → a2 → a3 → a4 → a5 → G) : G := let ⟨h0, h1, h2, h3, h4, h5⟩ := h; k h0 h1 h2 h3 h4 h5
/-- what an expression may come to -/
inductive Sh where
  | int (n : Int)
  | bool (b : Bool)
  | str (x : Str)
  | tup (c e : Int)
  | new (p : Int × Int)
  | new3 (p : Int × Int × Int)
  | vv (k : Bool) (n : Int)
  | wv (k : Bool) (n : Int)
  | val (v : Value)
noncomputable def Sh.is (h0 h : Heap) : Sh → Value → Prop
  | .int n, r => OutI n h0 h r
  | .bool b, r => OutB b h0 h r
  | .str x, r => ∃ t, r = .str x t
  | .tup c e, r => ∃ a t u, r = .ref a ∧ IsTup h a [Value.int c t, Value.int e u].toArray
  | .new p, r => OutT p h0 h r
  | .new3 p, r => OutT3 p h0 h r
  | .vv k n, r => OutV k n h0 h r
  | .wv k n, r => isV h k n r
  | .val v, r => r = v
theorem stays_refl (h : Heap) : h.StaysIn h := fun _ _ e => e
theorem Sh.keeps {h0 h h' : Heap} {sh : Sh} {r : Value} (x : sh.is h0 h r) (st : h.StaysIn h') : sh.is h0 h' r := by
  cases sh with
  | int n => exact x
  | bool b => exact x
  | str s => exact x
  | tup c e => obtain ⟨a, t, u, e1, i⟩ := x; exact ⟨a, t, u, e1, i.keeps st⟩
  | new p => obtain ⟨a, t, u, e1, i, j⟩ := x; exact ⟨a, t, u, e1, st _ _ i, j⟩
  | new3 p => obtain ⟨a, t, u, v, e1, i, j⟩ := x; exact ⟨a, t, u, v, e1, st _ _ i, j⟩
  | vv k n => cases k with
    | true => obtain ⟨a, t, u, e1, i, j⟩ := x; exact ⟨a, t, u, e1, st _ _ i, j⟩
    | false => exact x
  | wv k n => exact isV.keeps x st
  | val v => exact x
theorem stays_none {h h' : Heap} (st : h.StaysIn h') {a : Addr} (n : h'.get? a = none) : h.get? a = none := by
  cases q : h.get? a with
  | none => rfl
  | some o => rw [st _ _ q] at n; cases n
theorem Sh.base {h0 h1 h : Heap} {sh : Sh} {r : Value} (x : sh.is h1 h r) (st : h0.StaysIn h1) : sh.is h0 h r := by
  cases sh with
  | int n => exact x
  | bool b => exact x
  | str s => exact x
  | tup c e => exact x
  | new p => obtain ⟨a, t, u, e1, i, j⟩ := x; exact ⟨a, t, u, e1, i, stays_none st j⟩
  | new3 p => obtain ⟨a, t, u, v, e1, i, j⟩ := x; exact ⟨a, t, u, v, e1, i, stays_none st j⟩
  | vv k n => cases k with
    | true => obtain ⟨a, t, u, e1, i, j⟩ := x; exact ⟨a, t, u, e1, i, stays_none st j⟩
    | false => exact x
  | wv k n => exact x
  | val v => exact x
noncomputable def Shs (h0 h : Heap) : List Sh → List Value → Prop
  | [], [] => True
  | s :: ss, v :: vs => s.is h0 h v ∧ Shs h0 h ss vs
  | _, _ => False
section
variable {w : World} {mean : ExcName → Option Value} {mg mb : Str → Option Value} {dp un : Nat} {fr : Option (List Env)} {gd : Option (List Code)} {env : Env} {h₀ : Heap} {L : Addr} {h : Heap} {m : Str → Option Value}
/-- an expression's worth, whatever comes after -/
structure Ev (w : World) (dp un : Nat) (fr : Option (List Env)) (gd : Option (List Code)) (env : Env) (h : Heap) (e : Expr) (sh : Sh) : Prop where of ::
  run : ∀ (s : Shared) (Q E : Value → Shared → Prop), h.StaysIn s.heap → (∀ v h' tk', s.heap.StaysIn h' → sh.is h h' v → Q v { s with heap := h', toks := tk' }) → wpAny (model Pg w) (AA dp un fr gd) (eval e env) Q E s
structure EvL (w : World) (dp un : Nat) (fr : Option (List Env)) (gd : Option (List Code)) (env : Env) (h : Heap) (es : List Expr) (shs : List Sh) : Prop where
  p1 : ∀ pos, backTo pos (starEach es env) = starEach es env
  p2 : (starEach es env).any (·.1) = false
  run : ∀ (s : Shared) (Q : List Value → Shared → Prop) (E : Value → Shared → Prop), h.StaysIn s.heap → (∀ vs h' tk', s.heap.StaysIn h' → Shs h h' shs vs → Q vs { s with heap := h', toks := tk' }) → wpAny (model Pg w) (AA dp un fr gd) (spliced (starEach es env)) Q E s
structure Ec (w : World) (dp un : Nat) (fr : Option (List Env)) (gd : Option (List Code)) (env : Env) (h : Heap) (e : Expr) (b : Bool) : Prop where of ::
  run : ∀ (s : Shared) (Q : Bool → Shared → Prop) (E : Value → Shared → Prop), h.StaysIn s.heap → (∀ h' tk', s.heap.StaysIn h' → Q b { s with heap := h', toks := tk' }) → wpAny (model Pg w) (AA dp un fr gd) (isTrue e env (eval e env)) Q E s
/-- what the rules need of the frame -/
structure Cx (w : World) (mean : ExcName → Option Value) (mg mb : Str → Option Value) (env : Env) (h₀ : Heap) (L : Addr) (m : Str → Option Value) (h : Heap) : Prop where
  X : (K w.params).In h₀
  T : TopM mean mg mb h₀
  F : Fr h₀ L h m
  hL : env.locals = L
  hg : env.globals = mainGlobals
  hk : env.scope.kind = .function
  hbn : env.builtins = builtinsNs
theorem Ev.lit {n : Int} {k : Nat} {pos : Pos} : Ev w dp un fr gd env h (.Constant (.int n) k pos) (.int n) :=
  .of fun s Q E st q => wpAny_Constant_int (q _ s.heap _ (stays_refl _) ⟨_, rfl⟩)
theorem Ev.text {x : Str} {k : Nat} {pos : Pos} : Ev w dp un fr gd env h (.Constant (.str x) k pos) (.str x) :=
  .of fun s Q E st q => Constant_str (q _ s.heap _ (stays_refl _) ⟨_, rfl⟩)
theorem Ev.nm {sh : Sh} {x : Str} {v : Value} {pos : Pos} (C : Cx w mean mg mb env h₀ L m h) (hx : env.kindOf x = some .local) (hm : m x = some v) (hv : sh.is h h v) (hd : (x == ("__debug__" : Str)) = false) : Ev w dp un fr gd env h (.Name x pos) sh := by
  obtain ⟨X, T, F, hL, hg, hk, hbn⟩ := C
  subst hL
  exact .of fun s Q E st q => wpAny_Name (wpAny_loadName_local hk hx (fr_stays F st).ns hm (q v s.heap s.toks (stays_refl _) (Sh.keeps (sh := sh) hv st))) hd
theorem Ev.nmI {x : Str} {n : Int} {t : Tok} {pos : Pos} (C : Cx w mean mg mb env h₀ L m h) (hm : m x = some (.int n t)) (hx : env.kindOf x = some .local := by rfl) (hd : (x == ("__debug__" : Str)) = false := by rfl) : Ev w dp un fr gd env h (.Name x pos) (.int n) := Ev.nm C hx hm ⟨t, rfl⟩ hd
theorem Ev.nmS {x y : Str} {t : Tok} {pos : Pos} (C : Cx w mean mg mb env h₀ L m h) (hm : m x = some (.str y t)) (hx : env.kindOf x = some .local := by rfl) (hd : (x == ("__debug__" : Str)) = false := by rfl) : Ev w dp un fr gd env h (.Name x pos) (.str y) := Ev.nm C hx hm ⟨t, rfl⟩ hd
theorem Ev.nmT {x : Str} {a : Addr} {c e : Int} {t u : Tok} {pos : Pos} (C : Cx w mean mg mb env h₀ L m h) (hm : m x = some (.ref a)) (i : IsTup h a [Value.int c t, Value.int e u].toArray) (hx : env.kindOf x = some .local := by rfl) (hd : (x == ("__debug__" : Str)) = false := by rfl) : Ev w dp un fr gd env h (.Name x pos) (.tup c e) := Ev.nm C hx hm ⟨a, t, u, rfl, i⟩ hd
theorem Ev.nmV {x : Str} {v : Value} {pos : Pos} (C : Cx w mean mg mb env h₀ L m h) (hm : m x = some v) (hx : env.kindOf x = some .local := by rfl) (hd : (x == ("__debug__" : Str)) = false := by rfl) : Ev w dp un fr gd env h (.Name x pos) (.val v) := Ev.nm C hx hm rfl hd
theorem Ev.bin {sh : Sh} {op : Operator} {a b : Expr} {x y : Int} {pos : Pos} (ha : Ev w dp un fr gd env h a (.int x)) (hb : Ev w dp un fr gd env h b (.int y))
    (ho : ∀ t u (s : Shared) (Q E : Value → Shared → Prop), (∀ v tk, sh.is h s.heap v → Q v { s with toks := tk }) → wpAny (model Pg w) (AA dp un fr gd) (binaryOp op (.int x t) (.int y u)) Q E s) : Ev w dp un fr gd env h (.BinOp a op b pos) sh :=
  .of fun s Q E st q => wpAny_BinOp (ha.run s _ _ st fun v h1 t1 s1 e1 => by
    obtain ⟨t, rfl⟩ := e1
    refine hb.run _ _ _ (fun b o i => s1 _ _ (st b o i)) fun v h2 t2 s2 e2 => ?_
    obtain ⟨u, rfl⟩ := e2
    exact ho t u _ _ _ fun v tk i => q v h2 tk (fun b o i => s2 _ _ (s1 b o i)) i)
theorem Ev.add {a b : Expr} {x y : Int} {pos : Pos} (ha : Ev w dp un fr gd env h a (.int x)) (hb : Ev w dp un fr gd env h b (.int y)) : Ev w dp un fr gd env h (.BinOp a .Add b pos) (.int (x + y)) :=
  Ev.bin ha hb fun t u s Q E q => P.add_int (q _ _ ⟨_, rfl⟩)
theorem Ev.sub {a b : Expr} {x y : Int} {pos : Pos} (ha : Ev w dp un fr gd env h a (.int x)) (hb : Ev w dp un fr gd env h b (.int y)) : Ev w dp un fr gd env h (.BinOp a .Sub b pos) (.int (x - y)) :=
  Ev.bin ha hb fun t u s Q E q => P.sub_int (q _ _ ⟨_, rfl⟩)
theorem Ev.mul {a b : Expr} {x y : Int} {pos : Pos} (ha : Ev w dp un fr gd env h a (.int x)) (hb : Ev w dp un fr gd env h b (.int y)) (hm : IntMulOk x y) : Ev w dp un fr gd env h (.BinOp a .Mult b pos) (.int (x * y)) :=
  Ev.bin ha hb fun t u s Q E q => mul_int (q _ _ ⟨_, rfl⟩) hm
theorem Ev.fdiv {a b : Expr} {x y : Int} {pos : Pos} (ha : Ev w dp un fr gd env h a (.int x)) (hb : Ev w dp un fr gd env h b (.int y)) (hn : y ≠ 0) (hl : y.natAbs.log2 < 9000) : Ev w dp un fr gd env h (.BinOp a .FloorDiv b pos) (.int (x.fdiv y)) :=
  Ev.bin ha hb fun t u s Q E q => floordiv_int hn (q _ _ ⟨_, rfl⟩) (Or.inl (PyProof.noPylong_of_log2 hl))
theorem Ev.mod {a b : Expr} {x y : Int} {pos : Pos} (ha : Ev w dp un fr gd env h a (.int x)) (hb : Ev w dp un fr gd env h b (.int y)) (hn : y ≠ 0) : Ev w dp un fr gd env h (.BinOp a .Mod b pos) (.int (x.fmod y)) :=
  Ev.bin ha hb fun t u s Q E q => mod_int' hn (q _ _ ⟨_, rfl⟩)
theorem Ev.pow {a b : Expr} {x y : Int} {pos : Pos} (ha : Ev w dp un fr gd env h a (.int x)) (hb : Ev w dp un fr gd env h b (.int y)) (h1 : 0 ≤ y) (h2 : y ≤ 1000000) (h3 : x.natAbs < 2 ^ 64) : Ev w dp un fr gd env h (.BinOp a .Pow b pos) (.int (x ^ y.toNat)) :=
  Ev.bin ha hb fun t u s Q E q => pow_int_small h1 h2 h3 (q _ _ ⟨_, rfl⟩)
theorem Ev.neg {a : Expr} {x : Int} {pos : Pos} (ha : Ev w dp un fr gd env h a (.int x)) : Ev w dp un fr gd env h (.UnaryOp .USub a pos) (.int (-x)) :=
  .of fun s Q E st q => UnaryOp_ (ha.run s _ _ st fun v h1 t1 s1 e1 => by
    obtain ⟨t, rfl⟩ := e1
    exact P.neg_int (q _ h1 _ s1 ⟨_, rfl⟩))
theorem Ev.cmp {op : CmpOp} {a b : Expr} {c : Bool} {sa sb : Sh} {pos : Pos} (ha : Ev w dp un fr gd env h a sa) (hb : Ev w dp un fr gd env h b sb)
    (ho : ∀ r1 r2 (s : Shared) (Q E : Value → Shared → Prop), sa.is h s.heap r1 → sb.is h s.heap r2 → Q (.bool c) s → wpAny (model Pg w) (AA dp un fr gd) (compareOp op r1 r2) Q E s) (hm : behindInMarks op b = false) : Ev w dp un fr gd env h (.Compare a [op] [b] pos) (.bool c) :=
  .of fun s Q E st q => wpAny_Compare1 (ha.run s _ _ st fun v h1 t1 s1 e1 =>
    hb.run _ _ _ (fun b o i => s1 _ _ (st b o i)) fun v2 h2 t2 s2 e2 =>
      ho _ _ _ _ _ (Sh.keeps (sh := sa) e1 s2) e2 (q _ h2 _ (fun b o i => s2 _ _ (s1 b o i)) rfl)) hm
theorem Ev.tcmp {op : CmpOp} {a b : Expr} {c : Bool} {sa sb : Sh} {pos : Pos} (ha : Ev w dp un fr gd env h a sa) (hb : Ev w dp un fr gd env h b sb)
    (ho : ∀ r1 r2 (s : Shared) (Q E : Value → Shared → Prop), sa.is h s.heap r1 → sb.is h s.heap r2 → Q (.bool c) s → wpAny (model Pg w) (AA dp un fr gd) (compareOp op r1 r2) Q E s) (hm : behindInMarks op b = false) : Ec w dp un fr gd env h (.Compare a [op] [b] pos) c :=
  .of fun s Q E st q => wpAny_isTrue_Compare1 (ha.run s _ _ st fun v h1 t1 s1 e1 =>
    hb.run _ _ _ (fun b o i => s1 _ _ (st b o i)) fun v2 h2 t2 s2 e2 =>
      ho _ _ _ _ _ (Sh.keeps (sh := sa) e1 s2) e2 (wpAny_truthy_bool (q h2 _ (fun b o i => s2 _ _ (s1 b o i))))) hm
/-- a comparison of two worths -/
noncomputable def CmpIs (op : CmpOp) (sa sb : Sh) (c : Bool) : Prop :=
  ∀ (w : World) (A : Around) (h : Heap) r1 r2 (s : Shared) (Q E : Value → Shared → Prop), sa.is h s.heap r1 → sb.is h s.heap r2 → Q (.bool c) s → wpAny (model Pg w) A (compareOp op r1 r2) Q E s
theorem CmpIs.eq {x y : Int} : CmpIs .Eq (.int x) (.int y) (x == y) := fun _ _ _ _ _ _ _ _ ⟨_, e⟩ ⟨_, f⟩ q => by subst e f; exact P.eq_int q
theorem CmpIs.ne {x y : Int} : CmpIs .NotEq (.int x) (.int y) (x != y) := fun _ _ _ _ _ _ _ _ ⟨_, e⟩ ⟨_, f⟩ q => by subst e f; exact P.ne_int q
theorem CmpIs.lt {x y : Int} : CmpIs .Lt (.int x) (.int y) (decide (x < y)) := fun _ _ _ _ _ _ _ _ ⟨_, e⟩ ⟨_, f⟩ q => by subst e f; exact P.lt_int q
theorem CmpIs.le {x y : Int} : CmpIs .LtE (.int x) (.int y) (decide (x ≤ y)) := fun _ _ _ _ _ _ _ _ ⟨_, e⟩ ⟨_, f⟩ q => by subst e f; exact P.le_int q
theorem CmpIs.gt {x y : Int} : CmpIs .Gt (.int x) (.int y) (decide (x > y)) := fun _ _ _ _ _ _ _ _ ⟨_, e⟩ ⟨_, f⟩ q => by subst e f; exact P.gt_int q
theorem CmpIs.ge {x y : Int} : CmpIs .GtE (.int x) (.int y) (decide (x ≥ y)) := fun _ _ _ _ _ _ _ _ ⟨_, e⟩ ⟨_, f⟩ q => by subst e f; exact P.ge_int q
theorem CmpIs.eqs {x y : Str} : CmpIs .Eq (.str x) (.str y) (x == y) := fun _ _ _ _ _ _ _ _ ⟨_, e⟩ ⟨_, f⟩ q => by subst e f; exact eq_str q
theorem CmpIs.nes {x y : Str} : CmpIs .NotEq (.str x) (.str y) (x != y) := fun _ _ _ _ _ _ _ _ ⟨_, e⟩ ⟨_, f⟩ q => by subst e f; exact ne_str q
theorem CmpIs.eqb {x y : Bool} : CmpIs .Eq (.bool x) (.bool y) (x == y) := fun _ _ _ _ _ _ _ _ e f q => by subst e f; exact eq_bool q
theorem Ev.cmpI {op : CmpOp} {a b : Expr} {c : Bool} {sa sb : Sh} {pos : Pos} (ha : Ev w dp un fr gd env h a sa) (hb : Ev w dp un fr gd env h b sb) (o : CmpIs op sa sb c) (hm : behindInMarks op b = false) : Ev w dp un fr gd env h (.Compare a [op] [b] pos) (.bool c) :=
  Ev.cmp ha hb (fun r1 r2 s Q E => o w _ h r1 r2 s Q E) hm
theorem Ec.cmpI {op : CmpOp} {a b : Expr} {c : Bool} {sa sb : Sh} {pos : Pos} (ha : Ev w dp un fr gd env h a sa) (hb : Ev w dp un fr gd env h b sb) (o : CmpIs op sa sb c) (hm : behindInMarks op b = false) : Ec w dp un fr gd env h (.Compare a [op] [b] pos) c :=
  Ev.tcmp ha hb (fun r1 r2 s Q E => o w _ h r1 r2 s Q E) hm
theorem Ec.plain {e : Expr} {b : Bool} (he : Ev w dp un fr gd env h e (.bool b)) (hp : ∀ whole, isTrue e env whole = (do let v ← whole; standAt e.pos; holding [v] (truthy v))) : Ec w dp un fr gd env h e b :=
  .of fun s Q E st q => isTrue_plain (he.run s _ _ st fun v h1 t1 s1 e1 => by
    have e1 : v = .bool b := e1
    subst e1
    exact wpAny_truthy_bool (q h1 _ s1)) (hp _)
theorem Ec.not {e : Expr} {b : Bool} {pos : Pos} (he : Ec w dp un fr gd env h e b) : Ec w dp un fr gd env h (.UnaryOp .Not e pos) (!b) :=
  .of fun s Q E st q => isTrue_not (he.run s _ _ st fun h1 t1 s1 => q h1 t1 s1)
theorem Ev.ite {t a b : Expr} {c : Bool} {sa : Sh} {pos : Pos} (ht : Ec w dp un fr gd env h t c) (ha : c = true → Ev w dp un fr gd env h a sa) (hb : c = false → Ev w dp un fr gd env h b sa) : Ev w dp un fr gd env h (.IfExp t a b pos) sa :=
  .of fun s Q E st q => wpAny_IfExp (ht.run s _ _ st fun h1 t1 s1 => by
    cases c with
    | true => exact (ha rfl).run _ _ _ (fun b o i => s1 _ _ (st b o i)) fun v h2 t2 s2 e2 => q v h2 t2 (fun b o i => s2 _ _ (s1 b o i)) e2
    | false => exact (hb rfl).run _ _ _ (fun b o i => s1 _ _ (st b o i)) fun v h2 t2 s2 e2 => q v h2 t2 (fun b o i => s2 _ _ (s1 b o i)) e2)
theorem Ev.item0 {a : Expr} {c e : Int} {k : Nat} {p1 pos : Pos} (ha : Ev w dp un fr gd env h a (.tup c e)) : Ev w dp un fr gd env h (.Subscript a (.Constant (.int 0) k p1) pos) (.int c) :=
  .of fun s Q E st q => Subscript_ (ha.run s _ _ st fun v h1 t1 s1 e1 => by
    obtain ⟨a, t, u, rfl, i⟩ := e1
    exact wpAny_Constant_int (item_tupleT (l := [Value.int c t, Value.int e u]) (j := 0) i (by decide) (by decide) rfl rfl (q _ h1 _ s1 ⟨_, rfl⟩)))
theorem Ev.item1 {a : Expr} {c e : Int} {k : Nat} {p1 pos : Pos} (ha : Ev w dp un fr gd env h a (.tup c e)) : Ev w dp un fr gd env h (.Subscript a (.Constant (.int 1) k p1) pos) (.int e) :=
  .of fun s Q E st q => Subscript_ (ha.run s _ _ st fun v h1 t1 s1 e1 => by
    obtain ⟨a, t, u, rfl, i⟩ := e1
    exact wpAny_Constant_int (item_tupleT (l := [Value.int c t, Value.int e u]) (j := 1) i (by decide) (by decide) rfl rfl (q _ h1 _ s1 ⟨_, rfl⟩)))
theorem EvL.nil : EvL w dp un fr gd env h [] [] := ⟨fun _ => rfl, rfl, fun s Q E st q => spliced_nil (q [] s.heap s.toks (stays_refl _) trivial)⟩
theorem EvL.cons {e : Expr} {es : List Expr} {sh : Sh} {shs : List Sh} (he : Ev w dp un fr gd env h e sh) (hes : EvL w dp un fr gd env h es shs) (hp : starEach (e :: es) env = (false, eval e env) :: starEach es env) : EvL w dp un fr gd env h (e :: es) (sh :: shs) := by
  obtain ⟨p1, p2, p3⟩ := hes
  refine ⟨fun pos => ?_, ?_, fun s Q E st q => ?_⟩
  · rw [hp]
    show (false, eval e env) :: backTo pos (starEach es env) = _
    rw [p1]
  · rw [hp]
    exact (Bool.false_or _).trans p2
  · rw [hp]
    exact spliced_cons (he.run s _ _ st fun v h1 t1 s1 e1 => p3 _ _ _ (fun b o i => s1 _ _ (st b o i)) fun vs h2 t2 s2 e2 => q _ h2 t2 (fun b o i => s2 _ _ (s1 b o i)) ⟨Sh.keeps (sh := sh) e1 s2, e2⟩)
/-- for all values of these worths -/
noncomputable def ShAll (hh : Heap) : List Sh → (List Value → Prop) → Prop
  | [], P => P []
  | .int n :: r, P => ∀ t, ShAll hh r fun vs => P (.int n t :: vs)
  | .bool b :: r, P => ShAll hh r fun vs => P (.bool b :: vs)
  | .str x :: r, P => ∀ t, ShAll hh r fun vs => P (.str x t :: vs)
  | .tup c e :: r, P => ∀ a t u, IsTup hh a [Value.int c t, Value.int e u].toArray → ShAll hh r fun vs => P (.ref a :: vs)
  | .new p :: r, P => ∀ a t u, IsTup hh a [Value.int p.1 t, Value.int p.2 u].toArray → ShAll hh r fun vs => P (.ref a :: vs)
  | .new3 p :: r, P => ∀ v, ShAll hh r fun vs => P (v :: vs)
  | .vv k n :: r, P => ∀ v, isV hh k n v → ShAll hh r fun vs => P (v :: vs)
  | .wv k n :: r, P => ∀ v, isV hh k n v → ShAll hh r fun vs => P (v :: vs)
  | .val v :: r, P => ShAll hh r fun vs => P (v :: vs)
theorem ShAll.use {h0 hh : Heap} : ∀ {shs : List Sh} {vs : List Value} {P : List Value → Prop}, ShAll hh shs P → Shs h0 hh shs vs → P vs
  | [], [], _, k, _ => k
  | sh :: shs, v :: vs, P, k, ⟨e, es⟩ => by
    cases sh with
    | int n => obtain ⟨t, rfl⟩ := e; exact (k t).use (P := fun vs => P (.int n t :: vs)) es
    | bool b => cases (show v = _ from e); exact ShAll.use (P := fun vs => P (.bool b :: vs)) k es
    | str x => obtain ⟨t, rfl⟩ := e; exact (k t).use (P := fun vs => P (.str x t :: vs)) es
    | tup c d => obtain ⟨a, t, u, rfl, i⟩ := e; exact (k a t u i).use (P := fun vs => P (.ref a :: vs)) es
    | new p => obtain ⟨a, t, u, rfl, i, j⟩ := e; exact (k a t u ⟨_, i, rfl, _, rfl⟩).use (P := fun vs => P (.ref a :: vs)) es
    | new3 p => exact (k v).use (P := fun vs => P (v :: vs)) es
    | vv kk n =>
      refine (k v ?_).use (P := fun vs => P (v :: vs)) es
      cases kk with
      | true => obtain ⟨a, t, u, rfl, i, j⟩ := e; exact ⟨a, t, u, rfl, ⟨_, i, rfl, _, rfl⟩⟩
      | false => exact e
    | wv kk n => exact (k v e).use (P := fun vs => P (v :: vs)) es
    | val v' => have e : v = v' := e; subst e; exact ShAll.use (P := fun vs => P (_ :: vs)) k es
/-- a call that a contract covers -/
structure CallOK (w : World) (mean : ExcName → Option Value) (mg mb : Str → Option Value) (dp un : Nat) (f : Addr) (vs : List Value) (hh : Heap) (sh : Sh) : Prop where
  ok : ∃ d u pre, Con w mean mg mb f vs d u pre (fun a b r => sh.is a b r) ∧ pre hh ∧ dp + d < recursionLimit ∧ un + u < cLine
theorem CallOK.I {f : Addr} {vs : List Value} {hh : Heap} {n : Int} {d u : Nat} {pre : Heap → Prop} (C : Con w mean mg mb f vs d u pre (OutI n)) (hp : pre hh) (hd : dp + d < recursionLimit) (hu : un + u < cLine) : CallOK w mean mg mb dp un f vs hh (.int n) := ⟨⟨d, u, pre, C, hp, hd, hu⟩⟩
theorem CallOK.B {f : Addr} {vs : List Value} {hh : Heap} {n : Bool} {d u : Nat} {pre : Heap → Prop} (C : Con w mean mg mb f vs d u pre (OutB n)) (hp : pre hh) (hd : dp + d < recursionLimit) (hu : un + u < cLine) : CallOK w mean mg mb dp un f vs hh (.bool n) := ⟨⟨d, u, pre, C, hp, hd, hu⟩⟩
theorem CallOK.T {f : Addr} {vs : List Value} {hh : Heap} {n : Int × Int} {d u : Nat} {pre : Heap → Prop} (C : Con w mean mg mb f vs d u pre (OutT n)) (hp : pre hh) (hd : dp + d < recursionLimit) (hu : un + u < cLine) : CallOK w mean mg mb dp un f vs hh (.new n) := ⟨⟨d, u, pre, C, hp, hd, hu⟩⟩
theorem Ev.call {x : Str} {f : Addr} {e : Expr} {es : List Expr} {shs : List Sh} {sh : Sh} {pos pos' : Pos} (C : Cx w mean mg mb env h₀ L m h) (hx : env.kindOf x = some .globalImplicit) (hd : (x == ("__debug__" : Str)) = false) (hp : (starEach es env).any (·.1) = false) (he : starEach (e :: es) env = (false, eval e env) :: starEach es env)
    (hf : nsIn (K w.params) mainGlobals x = some (some (.ref f))) (hkp : keepIn (K w.params) (.ref f) = true) (args : EvL w dp un fr gd env h (e :: es) shs)
    (k : ∀ hh, h.StaysIn hh → ShAll hh shs fun vs => CallOK w mean mg mb dp un f vs hh sh) :
    Ev w dp un fr gd env h (.Call (.Name x pos') (e :: es) [] pos) sh := by
  obtain ⟨X, T, F, hL, hg, hk, hbn⟩ := C
  obtain ⟨p1, p2, p3⟩ := args
  refine .of fun s Q E st q => ?_
  have X' : (K w.params).In s.heap := (X.keeps F.keep).keeps st
  have T' : TopM mean mg mb s.heap := (T.keeps F.keep).keeps st
  refine Call_ (Name_function_global hk hx (loadGlobal_global (env := env) (hg ▸ T'.g) (mg_of X T.g hf) ?_) hd)
  refine callWith_K X hkp ?_ he ?_
  · rw [p1]
    refine p3 s _ _ st fun vs h1 t1 s1 e1 => ⟨X'.keeps s1, ?_⟩
    obtain ⟨d, u, pre, Co, hpre, hd, hu⟩ := ((k h1 (fun b o i => s1 _ _ (st b o i))).use e1).ok
    refine Co dp un fr gd _ _ _ (X'.keeps s1) (T'.keeps s1) hpre hd hu fun r h2 t2 s2 e2 => ?_
    exact q r h2 t2 (fun b o i => s2 _ _ (s1 b o i)) (Sh.base (sh := sh) e2 fun b o i => s1 _ _ (st b o i))
  · have hb : ∀ l : List (Bool × Sem Value), l.any (·.1) = false → (backTo pos l).any (·.1) = false := by
      intro l
      induction l with
      | nil => intro _; rfl
      | cons y l ih =>
        obtain ⟨b, y⟩ := y
        cases b with
        | true => intro q; cases q
        | false => intro q; exact (Bool.false_or _).trans (ih ((Bool.false_or _).symm.trans q))
    exact hb _ hp
theorem backTo_any {pos : Pos} : ∀ l : List (Bool × Sem Value), l.any (·.1) = false → (backTo pos l).any (·.1) = false
  | [], _ => rfl
  | (true, _) :: _, q => by cases q
  | (false, _) :: l, q => (Bool.false_or _).trans (backTo_any l ((Bool.false_or _).symm.trans q))
theorem Ev.nmBT {x : Str} {v : Value} {pos : Pos} (C : Cx w mean mg mb env h₀ L m h) (hx : env.kindOf x = some .globalImplicit) (hd : (x == ("__debug__" : Str)) = false) (hb : bootBuiltins x = some v) (hn0 : x ≠ "__name__") (hn : nsIn (K w.params) mainGlobals x = some none) : Ev w dp un fr gd env h (.Name x pos) (.val v) := by
  obtain ⟨X, T, F, hL, hg, hk, hbn⟩ := C
  refine .of fun s Q E st q => ?_
  have T' := topRead_of ((T.keeps F.keep).keeps st)
  exact Name_function_global hk hx (loadGlobal_builtin (env := env) (hg ▸ T'.g) (mg_none_of X (topRead_of T).g hn) (hbn ▸ T'.b) ((T'.builtins x hn0).trans hb) (q v s.heap s.toks (stays_refl _) rfl)) hd
theorem Ev.bcall {x : Str} {id : String} {e : Expr} {es : List Expr} {shs : List Sh} {sh : Sh} {pos pos' : Pos} (C : Cx w mean mg mb env h₀ L m h) (hb : bootBuiltins x = some (Value.builtin id)) (hn0 : x ≠ "__name__") (hx : env.kindOf x = some .globalImplicit) (hd : (x == ("__debug__" : Str)) = false) (hp : (starEach es env).any (·.1) = false) (he : starEach (e :: es) env = (false, eval e env) :: starEach es env)
    (hn : nsIn (K w.params) mainGlobals x = some none) (args : EvL w dp un fr gd env h (e :: es) shs)
    (k : ∀ vs (s : Shared) (Q E : Value → Shared → Prop), (K w.params).In s.heap → Shs h s.heap shs vs → (∀ v tk, sh.is h s.heap v → Q v { s with toks := tk }) → wpAny (model Pg w) (AA dp un fr gd) (PySem.call (Value.builtin id) vs) Q E s) :
    Ev w dp un fr gd env h (.Call (.Name x pos') (e :: es) [] pos) sh := by
  refine .of fun s Q E st q => Call_ ((Ev.nmBT C hx hd hb hn0 hn).run s _ _ st fun f h1 t1 s1 e1 => ?_)
  have e1 : f = Value.builtin id := e1
  subst e1
  refine callWith_builtin1 ?_ he (backTo_any _ hp)
  rw [args.p1]
  refine args.run _ _ _ (fun b o i => s1 _ _ (st b o i)) fun vs h2 t2 s2 e2 => ?_
  exact k vs { s with heap := h2, toks := t2 } Q E ((C.X.keeps C.F.keep).keeps fun b o i => s2 _ _ (s1 _ _ (st b o i))) e2 fun v tk i => q v h2 tk (fun b o i => s2 _ _ (s1 b o i)) i
theorem Ev.abs {a : Expr} {n : Int} {pos pos' : Pos} (C : Cx w mean mg mb env h₀ L m h) (hx : env.kindOf "abs" = some .globalImplicit) (hn : nsIn (K w.params) mainGlobals "abs" = some none) (he : starEach [a] env = [(false, eval a env)]) (ha : Ev w dp un fr gd env h a (.int n)) : Ev w dp un fr gd env h (.Call (.Name "abs" pos') [a] [] pos) (.int (absI n)) := by
  refine Ev.bcall C boot_abs (by decide) hx rfl rfl he hn (EvL.cons ha EvL.nil he) fun vs s Q E X i q => ?_
  match vs, i with
  | [_], ⟨⟨t, rfl⟩, _⟩ => exact call_abs fun u tk => q _ _ ⟨u, rfl⟩
/-- what isinstance says -/
noncomputable def IsiIs (sh : Sh) (T : Value) (b : Bool) : Prop :=
  ∀ (w : World) (A : Around) (h : Heap) (s : Shared) (Q E : Value → Shared → Prop) r, (K w.params).In s.heap → sh.is h s.heap r → (∀ tk, Q (.bool b) { s with toks := tk }) → wpAny (model Pg w) A (call (.builtin "isinstance") [r, T]) Q E s
theorem IsiIs.tt {c e : Int} : IsiIs (.tup c e) (.type "tuple") true := fun _ _ _ _ _ _ _ X ⟨_, _, _, e, i⟩ q => by subst e; exact isi_tup X i q
theorem IsiIs.ts {c e : Int} : IsiIs (.tup c e) (.type "str") false := fun _ _ _ _ _ _ _ X ⟨_, _, _, e, i⟩ q => by subst e; exact isi_tup_str X i q
theorem IsiIs.it {n : Int} : IsiIs (.int n) (.type "tuple") false := fun _ _ _ _ _ _ _ X ⟨_, e⟩ q => by subst e; exact kia_one kitx_int X trivial (by rfl) (by intro q; cases q) q
theorem IsiIs.is {n : Int} : IsiIs (.int n) (.type "str") false := fun _ _ _ _ _ _ _ X ⟨_, e⟩ q => by subst e; exact kia_one kitx_int X trivial (by rfl) (by intro q; cases q) q
theorem Ev.isi {a b' : Expr} {sh : Sh} {T : Value} {b : Bool} {pos pos' : Pos} (C : Cx w mean mg mb env h₀ L m h) (hx : env.kindOf "isinstance" = some .globalImplicit) (hn : nsIn (K w.params) mainGlobals "isinstance" = some none) (hp : (starEach [b'] env).any (·.1) = false) (he : starEach [a, b'] env = (false, eval a env) :: starEach [b'] env)
    (args : EvL w dp un fr gd env h [a, b'] [sh, .val T]) (i : IsiIs sh T b) : Ev w dp un fr gd env h (.Call (.Name "isinstance" pos') [a, b'] [] pos) (.bool b) := by
  refine Ev.bcall C boot_isinstance (by decide) hx rfl hp he hn args fun vs s Q E X j q => ?_
  match vs, j with
  | [_, _], ⟨e1, e2, _⟩ =>
    have e2 : _ = T := e2
    subst e2
    exact i _ _ _ _ _ _ _ X e1 fun tk => q _ tk rfl
noncomputable def Give (h₀ : Heap) (L : Addr) (m : Str → Option Value) (news : List (Addr × Obj)) (Q : Value → Shared → Prop) (gg : Array GenState) (dd : Drawn) (oo : OsState) : Sh → Prop
  | .int n => ∀ t h' tk', Fr h₀ L h' m → News h₀ L h' news → Q (.int n t) ⟨h', gg, dd, tk', oo⟩
  | .bool b => ∀ h' tk', Fr h₀ L h' m → News h₀ L h' news → Q (.bool b) ⟨h', gg, dd, tk', oo⟩
  | .new p => ∀ a t v h' tk', Fr h₀ L h' m → News h₀ L h' ((a, tupO p.1 t p.2 v) :: news) → Q (.ref a) ⟨h', gg, dd, tk', oo⟩
  | .new3 p => ∀ a t v x h' tk', Fr h₀ L h' m → News h₀ L h' ((a, tupO3 p.1 t p.2.1 v p.2.2 x) :: news) → Q (.ref a) ⟨h', gg, dd, tk', oo⟩
  | .vv k n => ∀ r h' tk', Fr h₀ L h' m → News h₀ L h' news → OutV k n h₀ h' r → Q r ⟨h', gg, dd, tk', oo⟩
  | .str _ => False
  | .tup _ _ => False
  | .wv _ _ => False
  | .val _ => False
theorem Ev.use {news : List (Addr × Obj)} {gg : Array GenState} {dd : Drawn} {oo : OsState} {e : Expr} {sh : Sh} {Q E : Value → Shared → Prop} {tk : Nat} (C : Cx w mean mg mb env h₀ L m h) (N : News h₀ L h news) (ev : Ev w dp un fr gd env h e sh) (k : Give h₀ L m news Q gg dd oo sh) : wpAny (model Pg w) (AA dp un fr gd) (eval e env) Q E ⟨h, gg, dd, tk, oo⟩ := by
  have F := C.F
  refine ev.run _ _ _ (stays_refl _) fun v h' tk' st i => ?_
  have st : h.StaysIn h' := st
  have F' := fr_stays F st
  have N' := news_stays N st
  cases sh with
  | int n => obtain ⟨t, rfl⟩ := i; exact k t h' tk' F' N'
  | bool b => cases (show v = _ from i); exact k h' tk' F' N'
  | str x => exact k.elim
  | tup c d => exact k.elim
  | new p =>
    obtain ⟨a, t, u, rfl, i, j⟩ := i
    refine k a t u h' tk' F' fun q hq => ?_
    rcases List.mem_cons.mp hq with rfl | hq
    · exact ⟨i, fr_has (h' := h) F j⟩
    · exact N' q hq
  | new3 p =>
    obtain ⟨a, t, u, y, rfl, i, j⟩ := i
    refine k a t u y h' tk' F' fun q hq => ?_
    rcases List.mem_cons.mp hq with rfl | hq
    · exact ⟨i, fr_has (h' := h) F j⟩
    · exact N' q hq
  | vv kk n => exact k v h' tk' F' N' (OutV.base i F.keep)
  | wv kk n => exact k.elim
  | val v' => exact k.elim
theorem Ev.use0 {news : List (Addr × Obj)} {gg : Array GenState} {dd : Drawn} {oo : OsState} {e : Expr} {sh : Sh} {Q E : Value → Shared → Prop} {tk : Nat} (C : Cx w mean mg mb env h₀ L m h) (N : News h₀ L h news) (ev : Cx w mean mg mb env h₀ L m h → Ev w dp un fr gd env h e sh) (k : Give h₀ L m news Q gg dd oo sh) : wpAny (model Pg w) (AA dp un fr gd) (eval e env) Q E ⟨h, gg, dd, tk, oo⟩ := Ev.use C N (ev C) k
section
variable {news : List (Addr × Obj)} {Q : Value → Shared → Prop} {gg : Array GenState} {dd : Drawn} {oo : OsState}
theorem giveI {n : Int} (k : ∀ t h' tk', Fr h₀ L h' m → News h₀ L h' news → Q (.int n t) ⟨h', gg, dd, tk', oo⟩) : Give h₀ L m news Q gg dd oo (.int n) := k
theorem giveB {b : Bool} (k : ∀ h' tk', Fr h₀ L h' m → News h₀ L h' news → Q (.bool b) ⟨h', gg, dd, tk', oo⟩) : Give h₀ L m news Q gg dd oo (.bool b) := k
theorem giveT {p : Int × Int} (k : ∀ a t v h' tk', Fr h₀ L h' m → News h₀ L h' ((a, tupO p.1 t p.2 v) :: news) → Q (.ref a) ⟨h', gg, dd, tk', oo⟩) : Give h₀ L m news Q gg dd oo (.new p) := k
end
theorem Ec.use {news : List (Addr × Obj)} {gg : Array GenState} {dd : Drawn} {oo : OsState} {e : Expr} {b : Bool} {Q : Bool → Shared → Prop} {E : Value → Shared → Prop} {tk : Nat} (C : Cx w mean mg mb env h₀ L m h) (N : News h₀ L h news) (ev : Ec w dp un fr gd env h e b) (k : ∀ h' tk', Fr h₀ L h' m → News h₀ L h' news → Q b ⟨h', gg, dd, tk', oo⟩) : wpAny (model Pg w) (AA dp un fr gd) (isTrue e env (eval e env)) Q E ⟨h, gg, dd, tk, oo⟩ :=
  ev.run _ _ _ (stays_refl _) fun h' tk' st => k h' tk' (fr_stays C.F st) (news_stays N st)
theorem Ec.use0 {news : List (Addr × Obj)} {gg : Array GenState} {dd : Drawn} {oo : OsState} {e : Expr} {b : Bool} {Q : Bool → Shared → Prop} {E : Value → Shared → Prop} {tk : Nat} (C : Cx w mean mg mb env h₀ L m h) (N : News h₀ L h news) (ev : Cx w mean mg mb env h₀ L m h → Ec w dp un fr gd env h e b) (k : ∀ h' tk', Fr h₀ L h' m → News h₀ L h' news → Q b ⟨h', gg, dd, tk', oo⟩) : wpAny (model Pg w) (AA dp un fr gd) (isTrue e env (eval e env)) Q E ⟨h, gg, dd, tk, oo⟩ := Ec.use C N (ev C) k
end
end
section
set_option maxHeartbeats 8000000
theorem fill_is : PySem.Challenge.rw_pq0142_01 = PySem.Challenge.rw_pq0142_01 ∧ K = K := by k_fill; exact ⟨rfl, rfl⟩
section
/-! a reckoner for plain functions: what must hold for a body to come to a worth -/
set_option genInjectivity false
set_option genSizeOf false
noncomputable abbrev Ent := List Sh → (Sh → Prop) → Prop
noncomputable abbrev Mu := List (Str × Sh)
noncomputable def br (b : Bool) (P Q : Prop) : Prop := match b with | true => P | false => Q
theorem br_i {b : Bool} {P Q : Prop} (h1 : b = true → P) (h2 : b = false → Q) : br b P Q := by cases b with | true => exact h1 rfl | false => exact h2 rfl
theorem br_t {b : Bool} {P Q : Prop} (e : b = true) (h : P) : br b P Q := by subst e; exact h
theorem br_f {b : Bool} {P Q : Prop} (e : b = false) (h : Q) : br b P Q := by subst e; exact h
noncomputable def Sh.asI : Sh → (Int → Prop) → Prop
  | .int n, k => k n
  | _, _ => False
noncomputable def Sh.asB : Sh → (Bool → Prop) → Prop
  | .bool b, k => k b
  | _, _ => False
noncomputable def Sh.asS : Sh → (Str → Prop) → Prop
  | .str b, k => k b
  | _, _ => False
noncomputable def Sh.asP : Sh → (Int → Int → Prop) → Prop
  | .tup c e, k => k c e
  | .new p, k => k p.1 p.2
  | .wv b n, k => match b with
    | true => k (lawDec n).1 (lawDec n).2
    | false => False
  | _, _ => False
noncomputable def Sh.asV : Sh → (Bool → Int → Prop) → Prop
  | .vv b n, k => k b n
  | .wv b n, k => k b n
  | .int n, k => k false n
  | _, _ => False
noncomputable def Sh.le (a b : Sh) : Prop := ∀ h0 h v, a.is h0 h v → b.is h0 h v
theorem Sh.refl (a : Sh) : a.le a := fun _ _ _ x => x
theorem Sh.asI_e {sh : Sh} {k : Int → Prop} {G : Prop} (h : sh.asI k) (f : ∀ n, k n → sh.le (.int n) → G) : G := by cases sh <;> first | exact f _ h (Sh.refl _) | exact h.elim
theorem Sh.asB_e {sh : Sh} {k : Bool → Prop} {G : Prop} (h : sh.asB k) (f : ∀ n, k n → sh.le (.bool n) → G) : G := by cases sh <;> first | exact f _ h (Sh.refl _) | exact h.elim
theorem Sh.asS_e {sh : Sh} {k : Str → Prop} {G : Prop} (h : sh.asS k) (f : ∀ n, k n → sh.le (.str n) → G) : G := by cases sh <;> first | exact f _ h (Sh.refl _) | exact h.elim
theorem Sh.new_le {p : Int × Int} : Sh.le (.new p) (.tup p.1 p.2) := fun _ _ _ ⟨a, t, u, e1, i, _⟩ => ⟨a, t, u, e1, _, i, rfl, _, rfl⟩
theorem Sh.vv_le {b : Bool} {n : Int} : Sh.le (.vv b n) (.wv b n) := fun h0 h v x => by
  cases b with
  | true => exact Sh.new_le (p := lawDec n) h0 h v x
  | false => exact x
theorem Sh.asP_e {sh : Sh} {k : Int → Int → Prop} {G : Prop} (h : sh.asP k) (f : ∀ c e, k c e → sh.le (.tup c e) → G) : G := by
  cases sh with
  | tup c e => exact f _ _ h (Sh.refl _)
  | new p => exact f _ _ h Sh.new_le
  | wv b n => cases b with
    | true => exact f _ _ h fun _ _ _ x => x
    | false => exact h.elim
  | _ => exact h.elim
theorem Sh.asV_e {sh : Sh} {k : Bool → Int → Prop} {G : Prop} (h : sh.asV k) (f : ∀ b n, k b n → sh.le (.wv b n) → G) : G := by
  cases sh <;> first | exact f _ _ h Sh.vv_le | exact f _ _ h (Sh.refl _) | exact h.elim
/-- operators -/
noncomputable def OpOK (op : Operator) (a b n : Int) : Prop := ∀ (w : World) (A : Around) (s : Shared) t u (Q E : Value → Shared → Prop), (∀ t tk, Q (.int n t) { s with toks := tk }) → wpAny (model Pg w) A (binaryOp op (.int a t) (.int b u)) Q E s
noncomputable def opI (op : Operator) (a b : Int) (k : Int → Prop) : Prop := match op with
  | .Add => k (a + b)
  | .Sub => k (a - b)
  | .Mult => IntMulOk a b ∧ k (a * b)
  | .FloorDiv => b ≠ 0 ∧ b.natAbs.log2 < 9000 ∧ k (a.fdiv b)
  | .Mod => b ≠ 0 ∧ k (a.fmod b)
  | .Pow => 0 ≤ b ∧ b ≤ 1000000 ∧ a.natAbs < 2 ^ 64 ∧ k (a ^ b.toNat)
  | .LShift => 0 ≤ b ∧ b ≤ 1000000 ∧ a.natAbs < 2 ^ 64 ∧ k (a * 2 ^ b.toNat)
  | .BitAnd => k (Builtin.bitAnd a b)
  | .BitOr => k (Builtin.bitOr a b)
  | .BitXor => k (Builtin.bitXor a b)
  | _ => False
theorem opI_e {op : Operator} {a b : Int} {k : Int → Prop} {G : Prop} (h : opI op a b k) (f : ∀ n, k n → OpOK op a b n → G) : G := by
  cases op with
  | Add => exact f _ h fun _ _ _ _ _ _ _ q => P.add_int (q _ _)
  | Sub => exact f _ h fun _ _ _ _ _ _ _ q => P.sub_int (q _ _)
  | Mult => exact f _ h.2 fun _ _ _ _ _ _ _ q => mul_int (q _ _) h.1
  | FloorDiv => exact f _ h.2.2 fun _ _ _ _ _ _ _ q => floordiv_int h.1 (q _ _) (Or.inl (PyProof.noPylong_of_log2 h.2.1))
  | Mod => exact f _ h.2 fun _ _ _ _ _ _ _ q => mod_int' h.1 (q _ _)
  | Pow => exact f _ h.2.2.2 fun _ _ _ _ _ _ _ q => pow_int_small h.1 h.2.1 h.2.2.1 (q _ _)
  | LShift => exact f _ h.2.2.2 fun _ _ _ _ _ _ _ q => lshift_int_small h.1 h.2.1 h.2.2.1 (q _ _)
  | BitAnd => exact f _ h fun _ _ _ _ _ _ _ q => and_int (q _ _)
  | BitOr => exact f _ h fun _ _ _ _ _ _ _ q => or_int (q _ _)
  | BitXor => exact f _ h fun _ _ _ _ _ _ _ q => xor_int (q _ _)
  | _ => exact h.elim
noncomputable def opB (op : Operator) (p q : Bool) (k : Int → Prop) : Prop := match op with
  | .Sub => k (b2i p - b2i q)
  | _ => False
noncomputable def opX (op : Operator) (x y : Sh) (k : Int → Prop) : Prop := match x with
  | .int a => y.asI fun b => opI op a b k
  | .bool p => y.asB fun q => opB op p q k
  | _ => False
noncomputable def OpIs (op : Operator) (x y : Sh) (n : Int) : Prop := ∀ (w : World) (A : Around) h0 (s : Shared) u v (Q E : Value → Shared → Prop), x.is h0 s.heap u → y.is h0 s.heap v → (∀ t tk, Q (.int n t) { s with toks := tk }) → wpAny (model Pg w) A (binaryOp op u v) Q E s
theorem opX_e {op : Operator} {x y : Sh} {k : Int → Prop} {G : Prop} (h : opX op x y k) (f : ∀ n, k n → OpIs op x y n → G) : G := by
  cases x with
  | int a => exact Sh.asI_e h fun b h l => opI_e h fun n h o => f n h fun w A _ s _ _ Q E ⟨_, e⟩ j q => e ▸ let ⟨_, z⟩ := l _ _ _ j; z ▸ o w A s _ _ Q E q
  | bool p =>
    refine Sh.asB_e h fun b h l => ?_
    cases op with
    | Sub => exact f _ h fun w A _ s _ _ Q E e j q => (show _ = _ from e) ▸ (show _ = _ from l _ _ _ j) ▸ sub_bool (q _ _)
    | _ => exact h.elim
  | _ => exact h.elim
noncomputable def opA (op : Operator) (x y : Sh) (k : Int → Prop) : Prop := x.asI fun a => y.asI fun b => match op with
  | .Add => k (a + b)
  | .Mult => IntMulOk a b ∧ k (a * b)
  | .FloorDiv => b ≠ 0 ∧ b.natAbs.log2 < 9000 ∧ k (a.fdiv b)
  | _ => False
noncomputable def OpIX (op : Operator) (x y : Sh) (n : Int) : Prop := ∀ (w : World) (A : Around) h0 (s : Shared) u v (Q E : Value → Shared → Prop), x.is h0 s.heap u → y.is h0 s.heap v → (∀ t tk, Q (.int n t) { s with toks := tk }) → wpAny (model Pg w) A (inplaceOp op u v) Q E s
theorem opA_e {op : Operator} {x y : Sh} {k : Int → Prop} {G : Prop} (h : opA op x y k) (f : ∀ n, k n → OpIX op x y n → G) : G := Sh.asI_e h fun a h l1 => Sh.asI_e h fun b h l2 => by
  have go : ∀ n, (∀ (w : World) (A : Around) (s : Shared) t u (Q E : Value → Shared → Prop), (∀ t tk, Q (.int n t) { s with toks := tk }) → wpAny (model Pg w) A (inplaceOp op (.int a t) (.int b u)) Q E s) → OpIX op x y n :=
    fun n z w A _ s _ _ Q E i j q => let ⟨_, e⟩ := l1 _ _ _ i; let ⟨_, e'⟩ := l2 _ _ _ j; e ▸ e' ▸ z w A s _ _ Q E q
  cases op with
  | Add => exact f _ h (go _ fun _ _ _ _ _ _ _ q => P.iadd_int (q _ _))
  | Mult => exact f _ h.2 (go _ fun _ _ _ _ _ _ _ q => imul_int (q _ _) h.1)
  | FloorDiv => exact f _ h.2.2 (go _ fun _ _ _ _ _ _ _ q => ifloordiv_int h.1 (q _ _) (Or.inl (PyProof.noPylong_of_log2 h.2.1)))
  | _ => exact h.elim
/-- comparisons -/
noncomputable def cmI (op : CmpOp) (a b : Int) (k : Bool → Prop) : Prop := match op with
  | .Eq => k (a == b)
  | .NotEq => k (a != b)
  | .Lt => k (decide (a < b))
  | .LtE => k (decide (a ≤ b))
  | .Gt => k (decide (a > b))
  | .GtE => k (decide (a ≥ b))
  | _ => False
noncomputable def cmS (op : CmpOp) (a b : Str) (k : Bool → Prop) : Prop := match op with
  | .Eq => k (a == b)
  | .NotEq => k (a != b)
  | _ => False
noncomputable def cmB (op : CmpOp) (a b : Bool) (k : Bool → Prop) : Prop := match op with
  | .Eq => k (a == b)
  | .NotEq => k (a != b)
  | _ => False
noncomputable def cmX (op : CmpOp) (x y : Sh) (k : Bool → Prop) : Prop := match x with
  | .int a => y.asI fun b => cmI op a b k
  | .str a => y.asS fun b => cmS op a b k
  | .bool a => y.asB fun b => cmB op a b k
  | _ => False
theorem CmpIs.lew {op : CmpOp} {x y y' : Sh} {c : Bool} (l : y.le y') (h : CmpIs op x y' c) : CmpIs op x y c := fun w A hh r1 r2 s Q E i j q => h w A hh r1 r2 s Q E i (l _ _ _ j) q
theorem cmI_e {op : CmpOp} {a b : Int} {k : Bool → Prop} {G : Prop} (h : cmI op a b k) (f : ∀ c, k c → CmpIs op (.int a) (.int b) c → G) : G := by
  cases op with
  | Eq => exact f _ h CmpIs.eq
  | NotEq => exact f _ h CmpIs.ne
  | Lt => exact f _ h CmpIs.lt
  | LtE => exact f _ h CmpIs.le
  | Gt => exact f _ h CmpIs.gt
  | GtE => exact f _ h CmpIs.ge
  | _ => exact h.elim
theorem cmX_e {op : CmpOp} {x y : Sh} {k : Bool → Prop} {G : Prop} (h : cmX op x y k) (f : ∀ c, k c → CmpIs op x y c → G) : G := by
  cases x with
  | int a => exact Sh.asI_e h fun b h l => cmI_e h fun c h o => f c h (o.lew l)
  | str a =>
    refine Sh.asS_e h fun b h l => ?_
    cases op with
    | Eq => exact f _ h (CmpIs.lew l CmpIs.eqs)
    | NotEq => exact f _ h (CmpIs.lew l CmpIs.nes)
    | _ => exact h.elim
  | bool a =>
    refine Sh.asB_e h fun b h l => ?_
    cases op with
    | Eq => exact f _ h (CmpIs.lew l CmpIs.eqb)
    | NotEq => exact f _ h (CmpIs.lew l fun _ _ _ _ _ _ _ _ e f q => by subst e f; exact ne_bool q)
    | _ => exact h.elim
  | _ => exact h.elim
/-- what the reckoner sees of an expression -/
inductive Vw where
  | no
  | bo (o : BoolOp) (vs : List Expr)
  | bin (a : Expr) (op : Operator) (b : Expr)
  | un (op : UnaryOp) (a : Expr)
  | cmp (a : Expr) (op : CmpOp) (b : Expr)
  | cmp2 (a : Expr) (op : CmpOp) (b : Expr) (op' : CmpOp) (c : Expr)
  | ite (t a b : Expr)
  | lit (c : Const)
  | nm (x : Str)
  | sub (a : Expr) (c : Const)
  | tp2 (a b : Expr)
  | tp3 (a b c : Expr)
  | call (x : Str) (e : Expr) (es : List Expr)
noncomputable def Vw.is (e : Expr) : Vw → Prop
  | .no => True
  | .bo o vs => e = .BoolOp o vs e.pos
  | .bin a op b => e = .BinOp a op b e.pos
  | .un op a => e = .UnaryOp op a e.pos
  | .cmp a op b => e = .Compare a [op] [b] e.pos
  | .cmp2 a op b op' c => e = .Compare a [op, op'] [b, c] e.pos
  | .ite t a b => e = .IfExp t a b e.pos
  | .lit c => ∃ n, e = .Constant c n e.pos
  | .nm x => e = .Name x e.pos
  | .sub a c => ∃ n p, e = .Subscript a (.Constant c n p) e.pos
  | .tp2 a b => ∃ n, e = .Tuple [a, b] n e.pos
  | .tp3 a b c => ∃ n, e = .Tuple [a, b, c] n e.pos
  | .call x e1 es => ∃ p, e = .Call (.Name x p) (e1 :: es) [] e.pos
noncomputable def vCmp (a : Expr) (ops : List CmpOp) (bs : List Expr) : Vw := match ops with
  | [] => .no
  | op :: l => match bs with
    | [] => .no
    | b :: bs => match l with
      | [] => match bs with
        | [] => .cmp a op b
        | _ :: _ => .no
      | op' :: l => match bs with
        | [] => .no
        | c :: bs => match l with
          | _ :: _ => .no
          | [] => match bs with
            | [] => .cmp2 a op b op' c
            | _ :: _ => .no
noncomputable def vTup (es : List Expr) : Vw := match es with
  | a :: b :: l => match l with
    | [] => .tp2 a b
    | c :: l => match l with
      | [] => .tp3 a b c
      | _ => .no
  | _ => .no
noncomputable def vSub (a : Expr) (i : Expr) : Vw := match i with
  | .Constant c _ _ => .sub a c
  | _ => .no
noncomputable def vCall (f : Expr) (args : List Expr) (kws : List Keyword) : Vw := match kws with
  | [] => match args with
    | e :: es => match f with
      | .Name x _ => .call x e es
      | _ => .no
    | _ => .no
  | _ => .no
noncomputable def xv (e : Expr) : Vw := match e with
  | .BoolOp o vs _ => .bo o vs
  | .BinOp a op b _ => .bin a op b
  | .UnaryOp op a _ => .un op a
  | .Compare a ops bs _ => vCmp a ops bs
  | .IfExp t a b _ => .ite t a b
  | .Constant c _ _ => .lit c
  | .Name x _ => .nm x
  | .Subscript a i _ => vSub a i
  | .Tuple es _ _ => vTup es
  | .Call f args kws _ => vCall f args kws
  | _ => .no
theorem xv_is (e : Expr) : (xv e).is e := by
  cases e with
  | BoolOp o vs p => rfl
  | BinOp a op b p => rfl
  | UnaryOp op a p => rfl
  | Compare a ops bs p =>
    cases ops with
    | nil => trivial
    | cons op l =>
      cases bs with
      | nil => trivial
      | cons b bs =>
        cases l with
        | nil => cases bs with
          | nil => rfl
          | cons _ _ => trivial
        | cons op' l =>
          cases bs with
          | nil => trivial
          | cons c bs => cases l with
            | cons _ _ => trivial
            | nil => cases bs with
              | nil => rfl
              | cons _ _ => trivial
  | IfExp t a b p => rfl
  | Constant c n p => exact ⟨n, rfl⟩
  | Name x p => rfl
  | Subscript a i q =>
    cases i with
    | Constant c n p => exact ⟨n, p, rfl⟩
    | _ => trivial
  | Tuple es n p =>
    cases es with
    | nil => trivial
    | cons a l =>
      cases l with
      | nil => trivial
      | cons b l =>
        cases l with
        | nil => exact ⟨n, rfl⟩
        | cons c l =>
          cases l with
          | nil => exact ⟨n, rfl⟩
          | cons _ _ => trivial
  | Call f args kws q =>
    cases kws with
    | cons _ _ => trivial
    | nil =>
      cases args with
      | nil => trivial
      | cons e es =>
        cases f with
        | Name x p => exact ⟨p, rfl⟩
        | _ => trivial
  | _ => trivial
/-- a written tuple of texts -/
noncomputable def asStr (k : Str → Prop) : Vw → Prop
  | .lit c => match c with
    | .str x => k x
    | _ => False
  | _ => False
noncomputable def strsX : List Expr → (List Str → Prop) → Prop
  | [], k => k []
  | e :: es, k => asStr (fun x => strsX es fun xs => k (x :: xs)) (xv e)
noncomputable def tupX (e : Expr) (k : List Expr → Prop) : Prop := match e with
  | .Tuple es _ _ => k es
  | _ => False
noncomputable def cmE (op : CmpOp) (b : Expr) (x : Sh) (rf : (Sh → Prop) → Prop) (k : Bool → Prop) : Prop := match op with
  | .In => tupX b fun es => strsX es fun xs => br (decide (xs.length ≤ 20)) (x.asS fun a => k (xs.any fun y => y == a)) False
  | op => rf fun y => cmX op x y k
/-- a name of the top: its value, and what a call of it asks and gives -/
structure Tb where
  x : Str
  v : Value
  en : Ent
  sh : Sh
noncomputable def tbV : List Tb → Str → (Sh → Prop) → Prop
  | [], _, _ => False
  | t :: T, y, k => br (t.x == y) (k t.sh) (tbV T y k)
noncomputable def tbC : List Tb → Value → Ent
  | [], _, _, _ => False
  | t :: T, v, shs, k => br (decide (t.v = v)) (t.en shs k) (tbC T v shs k)
noncomputable def wpL (ev : Expr → (Sh → Prop) → Prop) : List Expr → (List Sh → Prop) → Prop
  | [], k => k []
  | e :: es, k => ev e fun sh => wpL ev es fun shs => k (sh :: shs)
noncomputable def wpB (ev : Expr → (Sh → Prop) → Prop) (o : BoolOp) : List Expr → (Bool → Prop) → Prop
  | [], _ => False
  | e :: es, k => ev e fun c => c.asB fun b => match es with
    | [] => k b
    | _ :: _ => wpB ev o es (match o with
      | .And => fun r => k (b && r)
      | .Or => fun r => k (b || r))
noncomputable def isLo (sc : Scope) (x : Str) (P : Prop) : Prop := match sc.names.lookup x with
  | some .local => P
  | _ => False
noncomputable def nameX (T : List Tb) (sc : Scope) (μ : Mu) (x : Str) (k : Sh → Prop) : Prop := br (x == "__debug__") False (match sc.names.lookup x with
  | some .local => match μ.lookup x with
    | some sh => k sh
    | none => False
  | some .globalImplicit => tbV T x k
  | _ => False)
noncomputable def constX (c : Const) (k : Sh → Prop) : Prop := match c with
  | .int i => k (.int i)
  | .str x => k (.str x)
  | .none => k (.val .none)
  | _ => False
noncomputable def unX (op : UnaryOp) (sh : Sh) (k : Sh → Prop) : Prop := match op with
  | .USub => sh.asI fun b => k (.int (-b))
  | .Not => sh.asB fun b => k (.bool (!b))
  | _ => False
noncomputable def isNot (op : UnaryOp) (P : Prop) : Prop := match op with
  | .Not => P
  | _ => False
noncomputable def callX (T : List Tb) (sh : Sh) (shs : List Sh) (k : Sh → Prop) : Prop := match sh with
  | .val v => tbC T v shs k
  | _ => False
/-- a step of the reckoner: as a test -/
noncomputable def stepT (rt rf : Expr → (Sh → Prop) → Prop) (e : Expr) (k : Sh → Prop) : Vw → Prop
  | .bo o vs => wpB rt o vs fun b => k (.bool b)
  | .un op a => isNot op (rt a fun c => c.asB fun b => k (.bool (!b)))
  | .cmp a op b => rf a fun x => cmE op b x (rf b) fun c => k (.bool c)
  | .nm _ => rf e fun c => c.asB fun b => k (.bool b)
  | .call _ _ _ => rf e fun c => c.asB fun b => k (.bool b)
  | _ => False
/-- a step of the reckoner: as a worth -/
noncomputable def stepF (T : List Tb) (sc : Scope) (μ : Mu) (rt rf : Expr → (Sh → Prop) → Prop) (k : Sh → Prop) : Vw → Prop
  | .bin a op b => rf a fun x => rf b fun y => opX op x y fun r => k (.int r)
  | .un op a => rf a fun c => unX op c k
  | .cmp a op b => rf a fun x => rf b fun y => cmX op x y fun c => k (.bool c)
  | .cmp2 a op b op' c => rf a fun x => rf b fun y => rf c fun z => cmX op x y fun p => cmX op' y z fun q => k (.bool (p && q))
  | .ite t a b => rt t fun c => c.asB fun p => br p (rf a k) (rf b k)
  | .lit c => constX c k
  | .nm x => nameX T sc μ x k
  | .sub a i => rf a fun x => x.asP fun c d => constX i fun j => j.asI fun j => br (j == 0) (k (.int c)) (br (j == 1) (k (.int d)) False)
  | .tp2 a b => rf a fun x => rf b fun y => x.asI fun x => y.asI fun y => k (.new (x, y))
  | .tp3 a b c => rf a fun x => rf b fun y => rf c fun z => x.asI fun x => y.asI fun y => z.asI fun z => k (.new3 (x, y, z))
  | .call x e es => nameX T sc μ x fun g => rf e fun sh => wpL rf es fun shs => callX T g (sh :: shs) k
  | _ => False
/-- what an expression comes to (true: as a test) -/
noncomputable def wpX (T : List Tb) (sc : Scope) (μ : Mu) : Nat → Bool → Expr → (Sh → Prop) → Prop
  | 0, _, _, _ => False
  | n + 1, b, e, k => match b with
    | true => stepT (wpX T sc μ n true) (wpX T sc μ n false) e k (xv e)
    | false => stepF T sc μ (wpX T sc μ n true) (wpX T sc μ n false) k (xv e)
end
section
variable {w : World} {mean : ExcName → Option Value} {mg mb : Str → Option Value} {D U dp un : Nat} {fr : Option (List Env)} {gd : Option (List Code)} {env : Env} {h₀ : Heap} {L : Addr} {h : Heap} {m : Str → Option Value} {T : List Tb} {μ : Mu}
/-- the frame's names hold these worths -/
noncomputable def Agr (h : Heap) (m : Str → Option Value) (μ : Mu) : Prop := ∀ x sh, μ.lookup x = some sh → ∃ v, m x = some v ∧ sh.is h h v
noncomputable abbrev NoStar (env : Env) (e : Expr) : Prop := ∀ es, starEach (e :: es) env = (false, eval e env) :: starEach es env
/-- no star, no set, no comprehension -/
structure Pl (env : Env) (e : Expr) : Prop where
  a : NoStar env e
  b : ∀ op, behindInMarks op e = false
  c : ∀ t l, swapsWith e t l env = pure false
structure TbOK (w : World) (mean : ExcName → Option Value) (mg mb : Str → Option Value) (D U : Nat) (t : Tb) : Prop where
  val : ∀ {dp un : Nat} {fr : Option (List Env)} {gd : Option (List Code)} {env : Env} {h₀ : Heap} {L : Addr} {h : Heap} {m : Str → Option Value} {pos : Pos}, Cx w mean mg mb env h₀ L m h → env.kindOf t.x = some .globalImplicit → (t.x == ("__debug__" : Str)) = false → Ev w dp un fr gd env h (.Name t.x pos) t.sh
  run : ∀ {dp un : Nat} {fr : Option (List Env)} {gd : Option (List Code)} {env : Env} {h : Heap} {e : Expr} {es : List Expr} {shs : List Sh} {k : Sh → Prop} {pos : Pos}, (K w.params).In h → TopM mean mg mb h → dp + D < recursionLimit → un + U < cLine →
    EvL w dp un fr gd env h (e :: es) shs → NoStar env e → (starEach es env).any (·.1) = false → t.en shs k →
    ∃ sh, k sh ∧ ∀ (s : Shared) (Q E : Value → Shared → Prop), h.StaysIn s.heap → (∀ v h' tk', s.heap.StaysIn h' → sh.is h h' v → Q v { s with heap := h', toks := tk' }) →
      wpAny (model Pg w) (AA dp un fr gd) (callWith pos t.v [] (backTo pos (starEach (e :: es) env)) []) Q E s
inductive TabOK (w : World) (mean : ExcName → Option Value) (mg mb : Str → Option Value) (D U : Nat) : List Tb → Prop
  | nil : TabOK w mean mg mb D U []
  | cons {t : Tb} {T : List Tb} (a : TbOK w mean mg mb D U t) (b : TabOK w mean mg mb D U T) : TabOK w mean mg mb D U (t :: T)
theorem tbV_is {x : Str} {k : Sh → Prop} {T : List Tb} (O : TabOK w mean mg mb D U T) (h : tbV T x k) : ∃ t, TbOK w mean mg mb D U t ∧ t.x = x ∧ k t.sh := by
  induction O with
  | nil => exact h.elim
  | @cons t T a b ih =>
    unfold tbV at h
    cases e : t.x == x with
    | true => rw [e] at h; exact ⟨t, a, eq_of_beq e, h⟩
    | false => rw [e] at h; exact ih h
theorem tbC_is {v : Value} {shs : List Sh} {k : Sh → Prop} {T : List Tb} (O : TabOK w mean mg mb D U T) (h : tbC T v shs k) : ∃ t, TbOK w mean mg mb D U t ∧ t.v = v ∧ t.en shs k := by
  induction O with
  | nil => exact h.elim
  | @cons t T a b ih =>
    unfold tbC at h
    by_cases e : t.v = v
    · rw [decide_eq_true e] at h; exact ⟨t, a, e, h⟩
    · rw [decide_eq_false e] at h; exact ih h
theorem stays_trans {a b c : Heap} (x : a.StaysIn b) (y : b.StaysIn c) : a.StaysIn c := fun _ _ e => y _ _ (x _ _ e)
inductive XOk (w : World) (dp un : Nat) (fr : Option (List Env)) (gd : Option (List Code)) (env : Env) (h : Heap) (e : Expr) (k : Sh → Prop) : Prop
  | mk (sh : Sh) (x : k sh) (y : Ev w dp un fr gd env h e sh) (p : Pl env e)
inductive TOk (w : World) (dp un : Nat) (fr : Option (List Env)) (gd : Option (List Code)) (env : Env) (h : Heap) (e : Expr) (k : Sh → Prop) : Prop
  | mk (b : Bool) (x : k (.bool b)) (y : Ec w dp un fr gd env h e b)
theorem XOk.e {e : Expr} {k : Sh → Prop} {G : Prop} (o : XOk w dp un fr gd env h e k) (f : ∀ sh, k sh → Ev w dp un fr gd env h e sh → Pl env e → G) : G := o.casesOn f
theorem TOk.e {e : Expr} {k : Sh → Prop} {G : Prop} (o : TOk w dp un fr gd env h e k) (f : ∀ b, k (.bool b) → Ec w dp un fr gd env h e b → G) : G := o.casesOn f
theorem XOk.cast {e e' : Expr} {k : Sh → Prop} (v : e = e') (o : XOk w dp un fr gd env h e' k) : XOk w dp un fr gd env h e k := v ▸ o
theorem TOk.cast {e e' : Expr} {k : Sh → Prop} (v : e = e') (o : TOk w dp un fr gd env h e' k) : TOk w dp un fr gd env h e k := v ▸ o
theorem Ev.conv {e : Expr} {a b : Sh} (x : Ev w dp un fr gd env h e a) (z : a.le b) : Ev w dp un fr gd env h e b :=
  .of fun s Q E st q => x.run s Q E st fun v h' t' s' i => q v h' t' s' (z _ _ _ i)
theorem wpL_e {ev : Expr → (Sh → Prop) → Prop} (H : ∀ e k, ev e k → XOk w dp un fr gd env h e k) (es : List Expr) {G : Prop} : ∀ {k}, wpL ev es k → (∀ shs, k shs → EvL w dp un fr gd env h es shs → G) → G := by
  induction es with
  | nil => exact fun x f => f [] x EvL.nil
  | cons e es ih => exact fun x f => (H _ _ x).e fun sh x y p => ih x fun shs x z => f _ x (EvL.cons y z (p.a es))
noncomputable def EcB (w : World) (dp un : Nat) (fr : Option (List Env)) (gd : Option (List Code)) (env : Env) (h : Heap) (e : Expr) (whole : Sem Value) (b : Bool) : Prop :=
  ∀ (s : Shared) (Q : Bool → Shared → Prop) (E : Value → Shared → Prop), h.StaysIn s.heap → (∀ h' tk', s.heap.StaysIn h' → Q b { s with heap := h', toks := tk' }) → wpAny (model Pg w) (AA dp un fr gd) (isTrue e env whole) Q E s
theorem wpB_e {ev : Expr → (Sh → Prop) → Prop} {o : BoolOp} {pos : Pos} {whole : Sem Value} {G : Prop} (H : ∀ e k, ev e k → TOk w dp un fr gd env h e k) (es : List Expr) : ∀ {k}, wpB ev o es k → (∀ b, k b → EcB w dp un fr gd env h (.BoolOp o es pos) whole b → G) → G := by
  induction es with
  | nil => exact fun x => x.elim
  | cons e es ih =>
    refine fun x f => (H _ _ x).e fun b x c => ?_
    cases es with
    | nil =>
      refine f b x fun s Q E st q => ?_
      cases o with
      | And => refine isTrue_and (c.run s _ _ st fun h1 t1 s1 => ?_); cases b with
        | false => exact q h1 t1 s1
        | true => exact isTrue_and_nil (q h1 t1 s1)
      | Or => refine isTrue_or (c.run s _ _ st fun h1 t1 s1 => ?_); cases b with
        | true => exact q h1 t1 s1
        | false => exact isTrue_or_nil (q h1 t1 s1)
    | cons e' es =>
      cases o with
      | And => exact ih (k := fun r => _) x fun r x d => f (b && r) x fun s Q E st q => isTrue_and (c.run s _ _ st fun h1 t1 s1 => by
          cases b with
          | false => exact q h1 t1 s1
          | true => exact d _ _ _ (stays_trans st s1) fun h2 t2 s2 => q h2 t2 (stays_trans s1 s2))
      | Or => exact ih (k := fun r => _) x fun r x d => f (b || r) x fun s Q E st q => isTrue_or (c.run s _ _ st fun h1 t1 s1 => by
          cases b with
          | true => exact q h1 t1 s1
          | false => exact d _ _ _ (stays_trans st s1) fun h2 t2 s2 => q h2 t2 (stays_trans s1 s2))
theorem Shs.nil_is {h0 h : Heap} {vs : List Value} (i : Shs h0 h [] vs) : vs = [] := by cases vs with | nil => rfl | cons _ _ => exact i.elim
theorem Shs.cons_is {h0 h : Heap} {a : Sh} {l : List Sh} {vs : List Value} (i : Shs h0 h (a :: l) vs) : ∃ v r, vs = v :: r ∧ a.is h0 h v ∧ Shs h0 h l r := by
  cases vs with
  | nil => exact i.elim
  | cons v r => exact ⟨v, r, rfl, i⟩
noncomputable def Ints (l : List Int) (vs : List Value) : Prop := match l with
  | [] => vs = []
  | i :: l => ∃ t r, vs = .int i t :: r ∧ Ints l r
theorem Shs.ints {h0 h : Heap} (l : List Int) : ∀ {vs : List Value}, Shs h0 h (l.map Sh.int) vs → Ints l vs := by
  induction l with
  | nil => exact fun i => i.nil_is
  | cons n l ih => exact fun i => let ⟨v, r, e, ⟨t, e'⟩, i⟩ := i.cons_is; ⟨t, r, e' ▸ e, ih i⟩
/-- a display of a tuple of ints -/
theorem Ev.disp {es : List Expr} (l : List Int) {sh : Sh} {n : Nat} {pos : Pos} (hl : EvL w dp un fr gd env h es (l.map Sh.int)) (hs : ∀ vs, Ints l vs → vs.length ≤ sizeLine)
    (ha : ∀ h0 h2 vs (a : Addr), Ints l vs → h2.get? a = some { cls := .type "tuple", data := .seq vs.toArray } → h0.get? a = none → sh.is h0 h2 (.ref a)) : Ev w dp un fr gd env h (.Tuple es n pos) sh :=
  .of fun s Q E st q => Tuple_ ((hl.p1 pos).symm ▸ hl.run s _ _ st fun vs h1 t1 s1 i =>
    wpAny_newObj_type (q _ _ _ (stays_trans s1 fun _ _ e => Heap.get?_push_of_some _ e) (ha _ _ vs _ i.ints (Heap.get?_push_size _ rfl) (Heap.StaysIn.fresh (stays_trans st s1)))) (by show vs.toArray.size ≤ sizeLine; rw [List.size_toArray]; exact hs vs i.ints))
theorem Ev.nil {k : Nat} {pos : Pos} : Ev w dp un fr gd env h (.Constant .none k pos) (.val .none) :=
  .of fun s Q E st q => wpAny_pure (q _ s.heap _ (stays_refl _) rfl)
theorem Ev.not {e : Expr} {b : Bool} {pos : Pos} (he : Ev w dp un fr gd env h e (.bool b)) : Ev w dp un fr gd env h (.UnaryOp .Not e pos) (.bool (!b)) :=
  .of fun s Q E st q => UnaryOp_ (he.run s _ _ st fun v h1 t1 s1 e1 => (show v = _ from e1) ▸ not_of (wpAny_truthy_bool (q _ h1 _ s1 rfl)))
theorem Ev.op {op : Operator} {a b : Expr} {x y : Sh} {n : Int} {pos : Pos} (ya : Ev w dp un fr gd env h a x) (yb : Ev w dp un fr gd env h b y) (o : OpIs op x y n) : Ev w dp un fr gd env h (.BinOp a op b pos) (.int n) :=
  .of fun s Q E st q => wpAny_BinOp (ya.run s _ _ st fun v h1 t1 s1 e1 => yb.run _ _ _ (stays_trans st s1) fun v2 h2 t2 s2 e2 =>
    o w _ h _ _ _ _ _ (Sh.keeps e1 s2) e2 fun t tk => q _ h2 tk (stays_trans s1 s2) ⟨t, rfl⟩)
theorem Ev.cmp2 {o1 o2 : CmpOp} {a b c : Expr} {x y z : Sh} {p q : Bool} {pos : Pos} (ya : Ev w dp un fr gd env h a x) (yb : Ev w dp un fr gd env h b y) (yc : Ev w dp un fr gd env h c z) (c1 : CmpIs o1 x y p) (c2 : CmpIs o2 y z q) (hm : behindInMarks o2 c = false) : Ev w dp un fr gd env h (.Compare a [o1, o2] [b, c] pos) (.bool (p && q)) :=
  .of fun s Q E st k => Compare_chain (ya.run s _ _ st fun v h1 t1 s1 e1 => chain_link (yb.run _ _ _ (stays_trans st s1) fun v2 h2 t2 s2 e2 => c1 _ _ h _ _ _ _ _ (Sh.keeps e1 s2) e2 (wpAny_truthy_bool (by
    cases p with
    | false => exact k _ h2 _ (stays_trans s1 s2) rfl
    | true => exact chain_last (yc.run _ _ _ (stays_trans st (stays_trans s1 s2)) fun v3 h3 t3 s3 e3 => c2 _ _ h _ _ _ _ _ (Sh.keeps e2 s3) e3 (k _ h3 _ (stays_trans s1 (stays_trans s2 s3)) rfl)))))) hm
theorem constX_e {c : Const} {k : Sh → Prop} {G : Prop} (x : constX c k) (f : ∀ sh, k sh → (∀ n pos, Ev w dp un fr gd env h (.Constant c n pos) sh) → G) : G := by
  cases c with
  | int i => exact f _ x fun _ _ => Ev.lit
  | str i => exact f _ x fun _ _ => Ev.text
  | none => exact f _ x fun _ _ => Ev.nil
  | _ => exact x.elim
theorem sub_e {a : Expr} {i : Const} {c d : Int} {k : Sh → Prop} {n : Nat} {p pos : Pos} {G : Prop} (ha : Ev w dp un fr gd env h a (.tup c d)) (x : constX i fun j => j.asI fun j => br (j == 0) (k (.int c)) (br (j == 1) (k (.int d)) False)) (f : ∀ sh, k sh → Ev w dp un fr gd env h (.Subscript a (.Constant i n p) pos) sh → G) : G := by
  cases i with
  | int j =>
    have x : br (j == 0) (k (.int c)) (br (j == 1) (k (.int d)) False) := x
    by_cases e : j = 0
    · subst e; exact f _ x (Ev.item0 ha)
    · by_cases e1 : j = 1
      · subst e1; exact f _ x (Ev.item1 ha)
      · rw [beq_eq_false_iff_ne.mpr e, beq_eq_false_iff_ne.mpr e1] at x; exact x.elim
  | _ => exact x.elim
theorem nameX_e (C : Cx w mean mg mb env h₀ L m h) (A : Agr h m μ) (O : TabOK w mean mg mb D U T) {x : Str} {k : Sh → Prop} {G : Prop} (q : nameX T env.scope μ x k) (f : ∀ sh, k sh → (∀ pos, Ev w dp un fr gd env h (.Name x pos) sh) → G) : G := by
  unfold nameX at q
  generalize hd : (x == ("__debug__" : Str)) = d at q
  cases d with
  | true => exact q.elim
  | false =>
    generalize hk : env.scope.names.lookup x = o at q
    cases o with
    | none => exact q.elim
    | some o =>
      cases o with
      | «local» =>
        generalize hs : μ.lookup x = o at q
        cases o with
        | none => exact q.elim
        | some sh => exact let ⟨v, e, i⟩ := A _ _ hs; f sh q fun _ => Ev.nm C hk e i hd
      | globalImplicit => exact let ⟨t, ht, e, q1⟩ := tbV_is O q; f _ q1 fun _ => e ▸ ht.val C (e ▸ hk) (e ▸ hd)
      | _ => exact q.elim
theorem callX_e (C : Cx w mean mg mb env h₀ L m h) (O : TabOK w mean mg mb D U T) (hd : dp + D < recursionLimit) (hu : un + U < cLine) {f : Str} {g : Sh} {e : Expr} {es : List Expr} {shs : List Sh} {k : Sh → Prop} {p pos : Pos} {G : Prop} (ef : Ev w dp un fr gd env h (.Name f p) g) (ea : EvL w dp un fr gd env h (e :: es) shs) (ns : NoStar env e) (q : callX T g shs k) (fin : ∀ sh, k sh → Ev w dp un fr gd env h (.Call (.Name f p) (e :: es) [] pos) sh → G) : G := by
  cases g with
  | val v =>
    obtain ⟨t, ht, z, q1⟩ := tbC_is O q
    have hp : (starEach es env).any (·.1) = false := by
      have := ea.p2
      rw [ns es] at this
      exact (Bool.false_or _).symm.trans this
    obtain ⟨sh, q, r⟩ := ht.run (pos := pos) (C.X.keeps C.F.keep) (C.T.keeps C.F.keep) hd hu ea ns hp q1
    exact fin sh q (.of fun s Q E st y => Call_ (ef.run s _ _ st fun v h1 t1 s1 i => ((show v = _ from i).trans z.symm) ▸ r _ _ _ (stays_trans st s1) fun v h2 t2 s2 j => y v h2 t2 (stays_trans s1 s2) j))
  | _ => exact q.elim
theorem strs_len {vs : List Value} {xs : List Str} (x : StrsAre vs xs) : vs.length = xs.length := by
  induction x with
  | nil => rfl
  | cons y t _ ih => exact congrArg (· + 1) ih
theorem asStr_e {e : Expr} {k : Str → Prop} {G : Prop} (V : Vw) (v : V.is e) (x : asStr k V) (f : ∀ y n, e = .Constant (.str y) n e.pos → k y → G) : G := by
  cases V with
  | lit c => cases c with
    | str y => exact v.elim fun n v => f y n v x
    | _ => exact x.elim
  | _ => exact x.elim
theorem strsX_e {G : Prop} (es : List Expr) : ∀ {k}, strsX es k → (∀ xs shs, k xs → EvL w dp un fr gd env h es shs → (∀ h0 h vs, Shs h0 h shs vs → StrsAre vs xs) → G) → G := by
  induction es with
  | nil => exact fun x f => f [] [] x EvL.nil fun _ _ vs i => i.nil_is ▸ .nil
  | cons a es ih => exact fun x f => asStr_e (xv a) (xv_is a) x fun y n v x => ih x fun xs shs x i z => f _ (.str y :: shs) x (EvL.cons (v ▸ Ev.text) i (v ▸ rfl)) fun _ _ vs j => let ⟨_, _, e, ⟨_, e'⟩, j⟩ := j.cons_is; e ▸ e' ▸ .cons _ _ (z _ _ _ j)
theorem tupX_e {e : Expr} {k : List Expr → Prop} {G : Prop} (x : tupX e k) (f : ∀ es n, e = .Tuple es n e.pos → k es → G) : G := by
  cases e with
  | Tuple es n p => exact f es n rfl x
  | _ => exact x.elim
theorem br_dec {P Q : Prop} [Decidable P] (x : br (decide P) Q False) : P ∧ Q := by
  by_cases h : P
  · rw [decide_eq_true h] at x; exact ⟨h, x⟩
  · rw [decide_eq_false h] at x; exact x.elim
theorem Ec.inS {a : Expr} {es : List Expr} {shs : List Sh} {x : Str} {xs : List Str} {n : Nat} {p pos : Pos} (ya : Ev w dp un fr gd env h a (.str x)) (hl : EvL w dp un fr gd env h es shs) (z : ∀ h0 h vs, Shs h0 h shs vs → StrsAre vs xs) (hx : xs.length ≤ 20) : Ec w dp un fr gd env h (.Compare a [.In] [.Tuple es n p] pos) (xs.any fun y => y == x) :=
  .of fun s Q E st q => wpAny_isTrue_Compare1 (ya.run s _ _ st fun v h1 t1 s1 ⟨t, e1⟩ => Tuple_ ((hl.p1 p).symm ▸ hl.run _ _ _ (stays_trans st s1) fun vs h2 t2 s2 i =>
    have sa := z _ _ _ i
    e1 ▸ wpAny_newObj_type (in_tuple_strs (items := vs.toArray) ⟨_, Heap.get?_push_size _ rfl, rfl, _, rfl⟩ sa (wpAny_truthy_bool (q _ _ (stays_trans s1 (stays_trans s2 fun _ _ e => Heap.get?_push_of_some _ e))))) (by show vs.toArray.size ≤ sizeLine; rw [List.size_toArray, strs_len sa]; exact Nat.le_trans hx (by decide)))) rfl
theorem stepT_is {rt rf : Expr → (Sh → Prop) → Prop} (i1 : ∀ e k, rt e k → TOk w dp un fr gd env h e k) (i2 : ∀ e k, rf e k → XOk w dp un fr gd env h e k) {e : Expr} {k : Sh → Prop} (V : Vw) (v : V.is e) (x : stepT rt rf e k V) : TOk w dp un fr gd env h e k := by
  cases V with
  | bo o vs => exact wpB_e (pos := e.pos) (whole := eval (.BoolOp o vs e.pos) env) i1 _ x fun b x y => .cast v (.mk b x (.of y))
  | un op a =>
    cases op with
    | Not => exact (i1 _ _ x).e fun c x y => .cast v (.mk _ x (Ec.not y))
    | _ => exact x.elim
  | cmp a op b =>
    refine (i2 _ _ x).e fun x1 x y1 _ => .cast v ?_
    cases op with
    | In => exact tupX_e x fun es n v x => strsX_e es x fun xs shs x hl z => let ⟨hx, x⟩ := br_dec x; Sh.asS_e x fun a x l => v ▸ .mk _ x (Ec.inS (y1.conv l) hl z hx)
    | _ => exact (i2 _ _ x).e fun x2 x y2 s2 => cmX_e x fun c x y => .mk _ x (Ec.cmpI y1 y2 y (s2.b _))
  | nm id => exact (i2 _ _ x).e fun sh x y _ => Sh.asB_e x fun b x l => .cast v (.mk _ x (Ec.plain (v ▸ y.conv l) fun _ => rfl))
  | call f e1 es => exact let ⟨p, v⟩ := v; (i2 _ _ x).e fun sh x y _ => Sh.asB_e x fun b x l => .cast v (.mk _ x (Ec.plain (v ▸ y.conv l) fun _ => rfl))
  | _ => exact x.elim
theorem stepF_is (C : Cx w mean mg mb env h₀ L m h) (A : Agr h m μ) (O : TabOK w mean mg mb D U T) (hd : dp + D < recursionLimit) (hu : un + U < cLine) {rt rf : Expr → (Sh → Prop) → Prop} (i1 : ∀ e k, rt e k → TOk w dp un fr gd env h e k) (i2 : ∀ e k, rf e k → XOk w dp un fr gd env h e k) {e : Expr} {k : Sh → Prop} (V : Vw) (v : V.is e) (x : stepF T env.scope μ rt rf k V) : XOk w dp un fr gd env h e k := by
  cases V with
  | bin a op b => exact (i2 _ _ x).e fun x1 x y1 _ => (i2 _ _ x).e fun x2 x y2 _ => opX_e x fun n x o => .cast v (.mk _ x (Ev.op y1 y2 o) ⟨fun _ => rfl, fun _ => rfl, fun _ _ => rfl⟩)
  | un op a =>
    refine (i2 _ _ x).e fun sh x y _ => .cast v ?_
    cases op with
    | USub => exact Sh.asI_e x fun b x l => .mk _ x (Ev.neg (y.conv l)) ⟨fun _ => rfl, fun _ => rfl, fun _ _ => rfl⟩
    | Not => exact Sh.asB_e x fun b x l => .mk _ x (Ev.not (y.conv l)) ⟨fun _ => rfl, fun _ => rfl, fun _ _ => rfl⟩
    | _ => exact x.elim
  | cmp a op b => exact (i2 _ _ x).e fun x1 x y1 _ => (i2 _ _ x).e fun x2 x y2 s2 => cmX_e x fun c x y => .cast v (.mk _ x (Ev.cmpI y1 y2 y (s2.b _)) ⟨fun _ => rfl, fun _ => rfl, fun _ _ => rfl⟩)
  | cmp2 a op b op' c => exact (i2 _ _ x).e fun x1 x y1 _ => (i2 _ _ x).e fun x2 x y2 _ => (i2 _ _ x).e fun x3 x y3 s3 => cmX_e x fun p x z1 => cmX_e x fun q x z2 => .cast v (.mk _ x (Ev.cmp2 y1 y2 y3 z1 z2 (s3.b _)) ⟨fun _ => rfl, fun _ => rfl, fun _ _ => rfl⟩)
  | ite t a b =>
    refine (i1 _ _ x).e fun c x y => .cast v ?_
    cases c with
    | true => exact (i2 _ _ x).e fun sh x z _ => .mk _ x (Ev.ite y (fun _ => z) nofun) ⟨fun _ => rfl, fun _ => rfl, fun _ _ => rfl⟩
    | false => exact (i2 _ _ x).e fun sh x z _ => .mk _ x (Ev.ite y nofun fun _ => z) ⟨fun _ => rfl, fun _ => rfl, fun _ _ => rfl⟩
  | lit c => exact let ⟨n, v⟩ := v; constX_e x fun sh x y => .cast v (.mk _ x (y _ _) ⟨fun _ => rfl, fun _ => rfl, fun _ _ => rfl⟩)
  | nm id => exact nameX_e C A O x fun sh x y => .cast v (.mk _ x (y _) ⟨fun _ => rfl, fun _ => rfl, fun _ _ => rfl⟩)
  | sub a i => exact let ⟨n, p, v⟩ := v; (i2 _ _ x).e fun sh x y _ => Sh.asP_e x fun c d x l => sub_e (n := n) (p := p) (pos := e.pos) (y.conv l) x fun sh x y => .cast v (.mk _ x y ⟨fun _ => rfl, fun _ => rfl, fun _ _ => rfl⟩)
  | tp2 a b =>
    exact let ⟨n, v⟩ := v; (i2 _ _ x).e fun x1 x y1 s1 => (i2 _ _ x).e fun x2 x y2 s2 => Sh.asI_e x fun c x l1 => Sh.asI_e x fun d x l2 => .cast v (.mk _ x (Ev.disp [c, d] (EvL.cons (y1.conv l1) (EvL.cons (y2.conv l2) EvL.nil (s2.a [])) (s1.a _))
      (fun vs ⟨t, r, e, u, r', e', e''⟩ => by subst e e' e''; show (2 : Nat) ≤ sizeLine; decide) fun h0 h2 vs q ⟨t, r, e, u, r', e', e''⟩ g n => by subst e e' e''; exact ⟨_, t, u, rfl, g, n⟩) ⟨fun _ => rfl, fun _ => rfl, fun _ _ => rfl⟩)
  | tp3 a b c =>
    exact let ⟨n, v⟩ := v; (i2 _ _ x).e fun x1 x y1 s1 => (i2 _ _ x).e fun x2 x y2 s2 => (i2 _ _ x).e fun x3 x y3 s3 => Sh.asI_e x fun c x l1 => Sh.asI_e x fun d x l2 => Sh.asI_e x fun e x l3 => .cast v (.mk _ x (Ev.disp [c, d, e] (EvL.cons (y1.conv l1) (EvL.cons (y2.conv l2) (EvL.cons (y3.conv l3) EvL.nil (s3.a [])) (s2.a _)) (s1.a _))
      (fun vs ⟨t, r, e, u, r', e', o, r'', e'', z⟩ => by subst e e' e'' z; show (3 : Nat) ≤ sizeLine; decide) fun h0 h2 vs q ⟨t, r, e, u, r', e', o, r'', e'', z⟩ g n => by subst e e' e'' z; exact ⟨_, t, u, o, rfl, g, n⟩) ⟨fun _ => rfl, fun _ => rfl, fun _ _ => rfl⟩)
  | call f e1 es => exact let ⟨p, v⟩ := v; nameX_e C A O x fun g x y1 => (i2 _ _ x).e fun sh x y2 s2 => wpL_e i2 _ x fun shs x y3 => callX_e (pos := e.pos) C O hd hu (y1 p) (EvL.cons y2 y3 (s2.a es)) s2.a x fun sh x y => .cast v (.mk _ x y ⟨fun _ => rfl, fun _ => rfl, fun _ _ => rfl⟩)
  | _ => exact x.elim
/-- the reckoner is sound -/
theorem wpX_is (C : Cx w mean mg mb env h₀ L m h) (A : Agr h m μ) (O : TabOK w mean mg mb D U T) (hd : dp + D < recursionLimit) (hu : un + U < cLine) (n : Nat) :
    (∀ (e : Expr) (k : Sh → Prop), wpX T env.scope μ n true e k → TOk w dp un fr gd env h e k) ∧ (∀ (e : Expr) (k : Sh → Prop), wpX T env.scope μ n false e k → XOk w dp un fr gd env h e k) := by
  induction n with
  | zero => exact ⟨fun _ _ x => x.elim, fun _ _ x => x.elim⟩
  | succ n ih => exact ⟨fun e k x => stepT_is ih.1 ih.2 (xv e) (xv_is e) x, fun e k x => stepF_is C A O hd hu ih.1 ih.2 (xv e) (xv_is e) x⟩
/-- shapes that no base bears on -/
noncomputable def Sh.stat : Sh → Bool
  | .new _ => false
  | .new3 _ => false
  | .vv _ _ => false
  | _ => true
noncomputable def Sh.wk (sh : Sh) (k : Sh → Prop) : Prop := match sh with
  | .new p => k (.tup p.1 p.2)
  | .vv b n => k (.wv b n)
  | .new3 _ => False
  | s => k s
theorem Sh.wk_e {sh : Sh} {k : Sh → Prop} {G : Prop} (x : sh.wk k) (f : ∀ s, k s → s.stat = true → sh.le s → G) : G := by
  cases sh with
  | new p => exact f _ x rfl Sh.new_le
  | vv b n => exact f _ x rfl Sh.vv_le
  | new3 p => exact x.elim
  | _ => exact f _ x rfl (Sh.refl _)
theorem Sh.rebase {h1 h2 h : Heap} {sh : Sh} {v : Value} (z : sh.stat = true) (x : sh.is h1 h v) : sh.is h2 h v := by
  cases sh with
  | new p => cases z
  | new3 p => cases z
  | vv k n => cases z
  | _ => exact x
theorem tup_same {h h' : Heap} {L a : Addr} {m : Str → Option Value} {l : Array Value} (n : h.Ns L m) (s : Heap.SameBut L h h') (i : IsTup h a l) : IsTup h' a l := by
  obtain ⟨o, e, c, k, d⟩ := i
  refine ⟨o, (s.2 a fun q => ?_).trans e, c, k, d⟩
  subst q
  obtain ⟨o', es, ep, e', d', _⟩ := n
  cases e.symm.trans e'
  cases d.symm.trans d'
theorem Sh.same {h h' : Heap} {L : Addr} {m : Str → Option Value} {sh : Sh} {v : Value} (z : sh.stat = true) (n : h.Ns L m) (s : Heap.SameBut L h h') (x : sh.is h h v) : sh.is h' h' v := by
  cases sh with
  | tup c e => obtain ⟨a, t, u, e1, i⟩ := x; exact ⟨a, t, u, e1, tup_same n s i⟩
  | new p => cases z
  | new3 p => cases z
  | vv k n => cases z
  | wv k j => cases k with
    | true => obtain ⟨a, t, u, e1, i⟩ := x; exact ⟨a, t, u, e1, tup_same n s i⟩
    | false => exact x
  | _ => exact x
theorem Sh.grow {h h' : Heap} {sh : Sh} {v : Value} (z : sh.stat = true) (s : h.StaysIn h') (x : sh.is h h v) : sh.is h' h' v := Sh.rebase z (Sh.keeps x s)
/-- the frame's names hold these worths -/
noncomputable def AgS (h : Heap) (m : Str → Option Value) (μ : Mu) : Prop := ∀ x sh, μ.lookup x = some sh → sh.stat = true ∧ ∃ v, m x = some v ∧ sh.is h h v
theorem AgS.agr {m : Str → Option Value} {μ : Mu} (x : AgS h m μ) : Agr h m μ := fun y sh e => (x y sh e).2
theorem AgS.grow {h' : Heap} (x : AgS h m μ) (s : h.StaysIn h') : AgS h' m μ := fun y sh e => let ⟨a, v, b, c⟩ := x y sh e; ⟨a, v, b, Sh.grow a s c⟩
noncomputable def setM : Mu → Str → Sh → Mu
  | [], x, s => [(x, s)]
  | p :: μ, x, s => bif p.1 == x then (p.1, s) :: μ else p :: setM μ x s
theorem setM_is {x y : Str} {s : Sh} {μ : Mu} : (setM μ x s).lookup y = if y = x then some s else μ.lookup y := by
  induction μ with
  | nil =>
    unfold setM
    rw [List.lookup_cons]
    by_cases e : y = x
    · rw [if_pos e, beq_iff_eq.mpr e]
    · rw [if_neg e, beq_eq_false_iff_ne.mpr e]
  | cons p μ ih =>
    unfold setM
    by_cases e : p.1 = x
    · rw [beq_iff_eq.mpr e]
      show List.lookup y ((p.1, s) :: μ) = _
      rw [List.lookup_cons, e]
      by_cases f : y = x
      · rw [if_pos f, beq_iff_eq.mpr f]
      · rw [if_neg f, beq_eq_false_iff_ne.mpr f]
        show _ = List.lookup y ((p.1, p.2) :: μ)
        rw [List.lookup_cons, e, beq_eq_false_iff_ne.mpr f]
    · rw [beq_eq_false_iff_ne.mpr e]
      show List.lookup y ((p.1, p.2) :: setM μ x s) = if y = x then _ else List.lookup y ((p.1, p.2) :: μ)
      rw [List.lookup_cons, List.lookup_cons]
      by_cases f : y = p.1
      · rw [beq_iff_eq.mpr f, if_neg (fun z => e (f.symm.trans z))]
      · rw [beq_eq_false_iff_ne.mpr f]; exact ih
theorem AgS.put {h' : Heap} {x : Str} {v : Value} {sh : Sh} (a : AgS h m μ) (n : h.Ns L m) (s : Heap.SameBut L h h') (z : sh.stat = true) (i : sh.is h h v) : AgS h' (fun y => if y = x then some v else m y) (setM μ x sh) := fun y sh' e => by
  rw [setM_is] at e
  show _ ∧ ∃ u, (if y = x then some v else m y) = some u ∧ _
  by_cases q : y = x
  · rw [if_pos q] at e ⊢
    cases e
    exact ⟨z, v, rfl, Sh.same z n s i⟩
  · rw [if_neg q] at e ⊢
    obtain ⟨a, u, b, c⟩ := a y sh' e
    exact ⟨a, u, b, Sh.same a n s c⟩
/-- a store of a name of the frame -/
theorem put_name {s : Shared} {x : Str} {v : Value} {sh : Sh} {Q : Unit → Shared → Prop} {E : Value → Shared → Prop} (C : Cx w mean mg mb env h₀ L m s.heap) (A : AgS s.heap m μ) (hk : env.kindOf x = some .local) (z : sh.stat = true) (i : sh.is s.heap s.heap v)
    (q : ∀ h' tk' m', Cx w mean mg mb env h₀ L m' h' → AgS h' m' (setM μ x sh) → (∀ (sh : Sh) v, sh.stat = true → sh.is s.heap s.heap v → sh.is h' h' v) → Q () { s with heap := h', toks := tk' }) : wpAny (model Pg w) (AA dp un fr gd) (storeName env x v) Q E s := by
  obtain ⟨X, T, F, hL, hg, hkf, hbn⟩ := C
  subst hL
  refine wpAny_storeName_local hk F.ns (fun h' hn hs => q h' _ _ ⟨X, T, F.set hn hs, rfl, hg, hkf, hbn⟩ (A.put F.ns hs z i) fun sh v z i => Sh.same z F.ns hs i) ?_
  rw [hkf]
  rfl
theorem Cx.grow {h' : Heap} (C : Cx w mean mg mb env h₀ L m h) (s : h.StaysIn h') : Cx w mean mg mb env h₀ L m h' := ⟨C.X, C.T, fr_stays C.F s, C.hL, C.hg, C.hk, C.hbn⟩
section
set_option genInjectivity false
set_option genSizeOf false
/-- what the reckoner sees of a statement -/
inductive Sv where
  | no
  | ret (e : Expr)
  | asg (x : Str) (e : Expr)
  | tup (ts : List Expr) (k : Nat) (p : Pos) (e : Expr)
  | ite (t : Expr) (a b : List Stmt)
  | whl (t : Expr) (a : List Stmt)
  | aug (x : Str) (op : Operator) (e : Expr)
noncomputable def Sv.is (st : Stmt) : Sv → Prop
  | .no => True
  | .ret e => ∃ p, st = .Return (some e) p
  | .asg x e => ∃ p q, st = .Assign [.Name x p] e q
  | .tup ts k p e => ∃ q, st = .Assign [.Tuple ts k p] e q
  | .ite t a b => ∃ p, st = .If t a b p
  | .whl t a => ∃ p, st = .While t a [] p
  | .aug x op e => ∃ p q, st = .AugAssign (.Name x p) op e q
noncomputable def svA (ts : List Expr) (e : Expr) : Sv := match ts with
  | [] => .no
  | t :: l => match l with
    | [] => match t with
      | .Name x _ => .asg x e
      | .Tuple ts k p => .tup ts k p e
      | _ => .no
    | _ => .no
noncomputable def sv (st : Stmt) : Sv := match st with
  | .Return v _ => match v with
    | some e => .ret e
    | none => .no
  | .Assign ts e _ => svA ts e
  | .If t a b _ => .ite t a b
  | .While t a o _ => (match o with
    | [] => .whl t a
    | _ => .no)
  | .AugAssign t op e _ => (match t with
    | .Name x _ => .aug x op e
    | _ => .no)
  | _ => .no
theorem sv_is (st : Stmt) : (sv st).is st := by
  cases st with
  | Return v p => cases v with
    | some e => exact ⟨p, rfl⟩
    | none => trivial
  | Assign ts e q =>
    cases ts with
    | nil => trivial
    | cons t l =>
      cases l with
      | cons _ _ => trivial
      | nil =>
        cases t with
        | Name x p => exact ⟨p, q, rfl⟩
        | Tuple ts k p => exact ⟨q, rfl⟩
        | _ => trivial
  | If t a b p => exact ⟨p, rfl⟩
  | While t a o p => cases o with
    | nil => exact ⟨p, rfl⟩
    | cons _ _ => trivial
  | AugAssign t op e q => cases t with
    | Name x p => exact ⟨p, q, rfl⟩
    | _ => trivial
  | _ => trivial
/-- a loop: its state, what holds of it, its measure, a turn -/
structure Lp where
  α : Type
  st : α → Mu
  ok : α → Prop
  ms : α → Nat
  a0 : α
  nx : α → α
noncomputable def Lp.no : Lp := ⟨Unit, fun _ => [], fun _ => False, fun _ => 0, (), fun _ => ()⟩
end
noncomputable def envS (sc : Scope) : Env := envOf "" sc 0 0 .none
/-- how a tuple of names takes its worths: all at once, or from one worth -/
noncomputable def swX (t e : Expr) (sc : Scope) (k : List Str → Prop) (P : Prop) : Prop := match swappedStores [t] e (envS sc) with
  | .pure o => match o with
    | some xs => k xs
    | none => P
  | _ => False
theorem swX_e {t e : Expr} {k : List Str → Prop} {P G : Prop} {env : Env} (x : swX t e env.scope k P) (f : ∀ xs, swappedStores [t] e env = pure (some xs) → k xs → G) (g : swappedStores [t] e env = pure none → P → G) : G := by
  unfold swX at x
  have z : swappedStores [t] e (envS env.scope) = swappedStores [t] e env := rfl
  rw [z] at x
  generalize swappedStores [t] e env = r at x f g
  cases r with
  | pure o => cases o with
    | some xs => exact f xs rfl x
    | none => exact g rfl x
  | _ => exact x.elim
noncomputable def nm2 (sc : Scope) (xs : List Str) (k : Str → Str → Prop) : Prop := match xs with
  | [] => False
  | x :: l => match l with
    | [] => False
    | y :: l => match l with
      | [] => isLo sc x (isLo sc y (k x y))
      | _ => False
theorem isLo_e {sc : Scope} {x : Str} {P G : Prop} (h : isLo sc x P) (f : sc.names.lookup x = some .local → P → G) : G := by
  unfold isLo at h
  generalize sc.names.lookup x = o at h f
  cases o with
  | none => exact h.elim
  | some o => cases o with
    | «local» => exact f rfl h
    | _ => exact h.elim
theorem nm2_e {sc : Scope} {xs : List Str} {k : Str → Str → Prop} {G : Prop} (h : nm2 sc xs k) (f : ∀ x y, xs = [x, y] → sc.names.lookup x = some .local → sc.names.lookup y = some .local → k x y → G) : G := by
  cases xs with
  | nil => exact h.elim
  | cons x l => cases l with
    | nil => exact h.elim
    | cons y l => cases l with
      | nil => exact isLo_e h fun a h => isLo_e h fun b h => f x y rfl a b h
      | cons _ _ => exact h.elim
noncomputable def asTwo (k : Expr → Expr → Prop) : Vw → Prop
  | .tp2 a b => k a b
  | _ => False
theorem asTwo_e {e : Expr} {k : Expr → Expr → Prop} {G : Prop} (V : Vw) (v : V.is e) (x : asTwo k V) (f : ∀ a b n, e = .Tuple [a, b] n e.pos → k a b → G) : G := by
  cases V with
  | tp2 a b => exact v.elim fun n v => f a b n v x
  | _ => exact x.elim
/-- names that take the ints of a pair or a triple -/
noncomputable def asNm (k : Str → Prop) : Vw → Prop
  | .nm x => k x
  | _ => False
theorem asNm_e {e : Expr} {k : Str → Prop} {G : Prop} (V : Vw) (v : V.is e) (x : asNm k V) (f : ∀ y, e = .Name y e.pos → k y → G) : G := by
  cases V with
  | nm y => exact f y v x
  | _ => exact x.elim
noncomputable def takeX (sc : Scope) : List Expr → List Int → Mu → (Mu → Prop) → Prop
  | [], l, μ, k => (match l with
    | [] => k μ
    | _ :: _ => False)
  | t :: ts, l, μ, k => (match l with
    | [] => False
    | i :: l => asNm (fun x => isLo sc x (takeX sc ts l (setM μ x (.int i)) k)) (xv t))
noncomputable def unpX (sc : Scope) (ts : List Expr) (sh : Sh) (μ : Mu) (k : Mu → Prop) : Prop := match sh with
  | .new3 p => takeX sc ts [p.1, p.2.1, p.2.2] μ k
  | .tup c d => takeX sc ts [c, d] μ k
  | .new p => takeX sc ts [p.1, p.2] μ k
  | _ => False
/-- a step of the reckoner at a statement: kn: what follows, ws: a block -/
noncomputable def stepS (T : List Tb) (sc : Scope) (P : Lp) (n : Nat) (μ : Mu) (kn : Mu → Prop) (k : Sh → Prop) (ws : Mu → List Stmt → (Mu → Prop) → Prop) : Sv → Prop
  | .ret e => wpX T sc μ n false e k
  | .asg x e => isLo sc x (wpX T sc μ n false e fun sh => sh.wk fun sh => kn (setM μ x sh))
  | .tup ts j p e => swX (.Tuple ts j p) e sc
      (fun xs => nm2 sc xs fun x y => asTwo (fun a b => wpX T sc μ n false a fun a => wpX T sc μ n false b fun b => a.wk fun a => b.wk fun b => kn (setM (setM μ y b) x a)) (xv e))
      (wpX T sc μ n false e fun sh => unpX sc ts sh μ kn)
  | .ite t a b => wpX T sc μ n true t fun c => c.asB fun c => br c (ws μ a kn) (ws μ b kn)
  | .whl t a => μ = P.st P.a0 ∧ P.ok P.a0 ∧ ∀ z, P.ok z → wpX T sc (P.st z) n true t fun c => c.asB fun c => br c (ws (P.st z) a fun μ' => μ' = P.st (P.nx z) ∧ P.ok (P.nx z) ∧ P.ms (P.nx z) < P.ms z) (kn (P.st z))
  | .aug x op e => isLo sc x (match μ.lookup x with
    | some o => wpX T sc μ n false e fun y => opA op o y fun r => kn (setM μ x (.int r))
    | none => False)
  | .no => False
/-- what a body comes to: kn: its end is reached, k: it returns -/
noncomputable def wpS (T : List Tb) (sc : Scope) (P : Lp) : Nat → Mu → List Stmt → (Mu → Prop) → (Sh → Prop) → Prop
  | 0, _, _, _, _ => False
  | n + 1, μ, l, kn, k => match l with
    | [] => kn μ
    | st :: rest => stepS T sc P n μ (fun μ => wpS T sc P n μ rest kn k) k (fun μ l kn => wpS T sc P n μ l kn k) (sv st)
theorem takeX_len (ts : List Expr) : ∀ {l : List Int} {vs : List Value} {μ : Mu} {k : Mu → Prop}, Ints l vs → takeX env.scope ts l μ k → (assignEach ts env).length = vs.length ∧ (assignEach ts env).findIdx? (·.1) = none := by
  induction ts with
  | nil =>
    intro l vs μ k i x
    cases l with
    | nil => cases i; exact ⟨rfl, rfl⟩
    | cons _ _ => exact x.elim
  | cons t ts ih =>
    intro l vs μ k i x
    cases l with
    | nil => exact x.elim
    | cons n l => exact let ⟨u, r, e, i⟩ := i; asNm_e (xv t) (xv_is t) x fun y v x => isLo_e x fun _ x => e ▸ v ▸ let ⟨a, b⟩ := ih i x; ⟨congrArg (· + 1) a, List.findIdx?_cons.trans (congrArg (Option.map (· + 1)) b)⟩
/-- where a piece of the body comes to -/
noncomputable def NextOK (w : World) (mean : ExcName → Option Value) (mg mb : Str → Option Value) (env : Env) (h₀ : Heap) (L : Addr) (s : Shared) (kn : Mu → Prop) (q : Shared → Prop) : Prop :=
  ∀ μ' m' h' tk', kn μ' → Cx w mean mg mb env h₀ L m' h' → AgS h' m' μ' → q { s with heap := h', toks := tk' }
noncomputable def RetOK (h₀ : Heap) (s : Shared) (k : Sh → Prop) (Q : Flow → Shared → Prop) : Prop :=
  ∀ sh v h' tk', k sh → h₀.StaysIn h' → sh.is h₀ h' v → Q (.ret v) { s with heap := h', toks := tk' }
theorem takeX_is {q : Shared → Prop} {E : Value → Shared → Prop} {k : Mu → Prop} (ts : List Expr) : ∀ {s : Shared} {l : List Int} {vs : List Value} {μ : Mu} {m : Str → Option Value}, Cx w mean mg mb env h₀ L m s.heap → AgS s.heap m μ → Ints l vs → takeX env.scope ts l μ k → NextOK w mean mg mb env h₀ L s k q →
    wpAny (model Pg w) (AA dp un fr gd) (assignInOrder ((assignEach ts env).map (·.2)) vs) (fun _ => q) E s := by
  induction ts with
  | nil =>
    intro s l vs μ m C A i x q
    cases l with
    | nil => exact assignInOrder_nil (q μ m s.heap s.toks x C A)
    | cons _ _ => exact x.elim
  | cons t ts ih =>
    intro s l vs μ m C A i x q
    cases l with
    | nil => exact x.elim
    | cons n l => exact let ⟨u, r, e, i⟩ := i; asNm_e (xv t) (xv_is t) x fun y v x => isLo_e x fun hk x => e ▸ v ▸ assignInOrder_cons (assign_Name (put_name (sh := .int n) C A hk rfl ⟨u, rfl⟩ fun h' t' m' C' A' _ => ih (s := { s with heap := h', toks := t' }) C' A' i x q))
theorem unpX_is {q : Shared → Prop} {E : Value → Shared → Prop} {k : Mu → Prop} {s : Shared} {ts : List Expr} {sh : Sh} {b : Heap} {v : Value} {n : Nat} {pos : Pos} (C : Cx w mean mg mb env h₀ L m s.heap) (A : AgS s.heap m μ) (i : sh.is b s.heap v) (x : unpX env.scope ts sh μ k)
    (q1 : NextOK w mean mg mb env h₀ L s k q) : wpAny (model Pg w) (AA dp un fr gd) (assign (.Tuple ts n pos) env v) (fun _ => q) E s := by
  have go : ∀ {l : List Int} {vs : List Value} {a : Addr}, Ints l vs → IsTup s.heap a vs.toArray → takeX env.scope ts l μ k → wpAny (model Pg w) (AA dp un fr gd) (assign (.Tuple ts n pos) env (.ref a)) (fun _ => q) E s := fun i it x =>
    have z := takeX_len ts i x
    assign_Tuple_tuple rfl it (z.1.trans (List.size_toArray ..).symm) z.2 fun h2 x2 =>
      have s2 : s.heap.StaysIn h2 := fun c o e => x2 c o (Nat.ne_of_lt (Heap.lt_size e)) e
      takeX_is (s := { s with heap := h2 }) ts (C.grow s2) (A.grow s2) i x q1
  cases sh with
  | tup c d => exact let ⟨a, t, u, e, it⟩ := i; e ▸ go (l := [c, d]) (vs := [.int c t, .int d u]) ⟨t, _, rfl, u, _, rfl, rfl⟩ it x
  | new p => exact let ⟨a, t, u, e, it, _⟩ := i; e ▸ go (l := [p.1, p.2]) (vs := [.int p.1 t, .int p.2 u]) ⟨t, _, rfl, u, _, rfl, rfl⟩ ⟨_, it, rfl, _, rfl⟩ x
  | new3 p => exact let ⟨a, t, u, o, e, it, _⟩ := i; e ▸ go (l := [p.1, p.2.1, p.2.2]) (vs := [.int p.1 t, .int p.2.1 u, .int p.2.2 o]) ⟨t, _, rfl, u, _, rfl, o, _, rfl, rfl⟩ ⟨_, it, rfl, _, rfl⟩ x
  | _ => exact x.elim
noncomputable def SRun (w : World) (mean : ExcName → Option Value) (mg mb : Str → Option Value) (dp un : Nat) (fr : Option (List Env)) (gd : Option (List Code)) (env : Env) (h₀ : Heap) (L : Addr) (c : Sem Flow) (μ : Mu) (kn : Mu → Prop) (k : Sh → Prop) : Prop :=
  ∀ (s : Shared) (m : Str → Option Value) (Q : Flow → Shared → Prop), Cx w mean mg mb env h₀ L m s.heap → AgS s.heap m μ → NextOK w mean mg mb env h₀ L s kn (Q .next) → RetOK h₀ s k Q → wpAny (model Pg w) (AA dp un fr gd) c Q (fun _ _ => False) s
section
variable {kn : Mu → Prop} {k : Sh → Prop} {n : Nat}
theorem SRun.seq {st : Stmt} {rest : List Stmt} {kn' : Mu → Prop} (a : SRun w mean mg mb dp un fr gd env h₀ L (exec st env) μ kn' k) (b : ∀ μ', kn' μ' → SRun w mean mg mb dp un fr gd env h₀ L (execs rest env) μ' kn k) : SRun w mean mg mb dp un fr gd env h₀ L (execs (st :: rest) env) μ kn k :=
  fun s m Q C A q1 q2 => wpAny_execs_cons (a s m _ C A (fun μ' m' h' t' x C A => b μ' x { s with heap := h', toks := t' } m' Q C A q1 q2) q2)
theorem SRun.ret (O : TabOK w mean mg mb D U T) (hd : dp + D < recursionLimit) (hu : un + U < cLine) {e : Expr} {p : Pos} (x : wpX T env.scope μ n false e k) : SRun w mean mg mb dp un fr gd env h₀ L (exec (.Return (some e) p) env) μ kn k :=
  fun s m Q C A q1 q2 => ((wpX_is (fr := fr) (gd := gd) C A.agr O hd hu n).2 e k x).e fun sh x y _ => wpAny_Return_some (y.run s _ _ (stays_refl _) fun v h' t' st i => q2 sh v h' t' x (stays_trans C.F.keep st) (Sh.base i C.F.keep))
theorem SRun.asg (O : TabOK w mean mg mb D U T) (hd : dp + D < recursionLimit) (hu : un + U < cLine) {a : Str} {e : Expr} {p q : Pos} (x : isLo env.scope a (wpX T env.scope μ n false e fun sh => sh.wk fun sh => kn (setM μ a sh))) : SRun w mean mg mb dp un fr gd env h₀ L (exec (.Assign [.Name a p] e q) env) μ kn k :=
  fun s m Q C A q1 q2 => isLo_e x fun hk x => ((wpX_is (fr := fr) (gd := gd) C A.agr O hd hu n).2 e _ x).e fun sh x y pl => Sh.wk_e x fun sh' x z cv =>
    wpAny_Assign_Name (y.run s _ _ (stays_refl _) fun v h1 t1 s1 i => put_name (s := { s with heap := h1, toks := t1 }) (C.grow s1) (A.grow s1) hk z (Sh.rebase z (cv _ _ _ i)) fun h2 t2 m2 C2 A2 _ => q1 _ m2 h2 t2 x C2 A2) (pl.c _ _)
theorem SRun.aug (O : TabOK w mean mg mb D U T) (hd : dp + D < recursionLimit) (hu : un + U < cLine) {a : Str} {op : Operator} {e : Expr} {p q : Pos} (x : isLo env.scope a (match μ.lookup a with
    | some o => wpX T env.scope μ n false e fun y => opA op o y fun r => kn (setM μ a (.int r))
    | none => False)) : SRun w mean mg mb dp un fr gd env h₀ L (exec (.AugAssign (.Name a p) op e q) env) μ kn k :=
  fun s m Q C A q1 q2 => isLo_e x fun hk x => by
    generalize ho : μ.lookup a = o at x
    cases o with
    | none => exact x.elim
    | some o =>
      exact let ⟨_, v, e1, i⟩ := A _ _ ho
        ((wpX_is (fr := fr) (gd := gd) C A.agr O hd hu n).2 e _ x).e fun sh x y pl => opA_e x fun r x o => wpAny_AugAssign_Name (wpAny_loadName_local C.hk hk (C.hL ▸ C.F.ns) e1 (y.run s _ _ (stays_refl _) fun v h1 t1 s1 j =>
          o w _ _ _ _ _ _ _ (Sh.keeps i s1) j fun t tk => put_name (s := { s with heap := h1, toks := tk }) (sh := .int r) (C.grow s1) (A.grow s1) hk rfl ⟨t, rfl⟩ fun h2 t2 m2 C2 A2 _ => q1 _ m2 h2 t2 x C2 A2))
theorem SRun.ite (O : TabOK w mean mg mb D U T) (hd : dp + D < recursionLimit) (hu : un + U < cLine) {t : Expr} {a b : List Stmt} {p : Pos} {X Y : Prop} (x : wpX T env.scope μ n true t fun c => c.asB fun c => br c X Y) (ha : X → SRun w mean mg mb dp un fr gd env h₀ L (execs a env) μ kn k) (hb : Y → SRun w mean mg mb dp un fr gd env h₀ L (execs b env) μ kn k) : SRun w mean mg mb dp un fr gd env h₀ L (exec (.If t a b p) env) μ kn k :=
  fun s m Q C A q1 q2 => ((wpX_is (fr := fr) (gd := gd) C A.agr O hd hu n).1 t _ x).e fun c x y => wpAny_If (y.run s _ _ (stays_refl _) fun h1 t1 s1 => by
    cases c with
    | true => exact ha x { s with heap := h1, toks := t1 } m Q (C.grow s1) (A.grow s1) q1 q2
    | false => exact hb x { s with heap := h1, toks := t1 } m Q (C.grow s1) (A.grow s1) q1 q2)
theorem SRun.whl (O : TabOK w mean mg mb D U T) (hd : dp + D < recursionLimit) (hu : un + U < cLine) {P : Lp} {t : Expr} {a : List Stmt} {p : Pos} {X : Lp.α P → Prop} (h0 : μ = P.st P.a0) (ok : P.ok P.a0) (x : ∀ z, P.ok z → wpX T env.scope (P.st z) n true t fun c => c.asB fun c => br c (X z) (kn (P.st z)))
    (ha : ∀ z, X z → SRun w mean mg mb dp un fr gd env h₀ L (execs a env) (P.st z) (fun μ' => μ' = P.st (P.nx z) ∧ P.ok (P.nx z) ∧ P.ms (P.nx z) < P.ms z) k) : SRun w mean mg mb dp un fr gd env h₀ L (exec (.While t a [] p) env) μ kn k := by
  intro s m Q C A q1 q2
  refine wpAny_mono (Q := Q) (E := fun _ _ => False) (wpAny_While (codeAny_whileLoop (fun j s' => ∃ h1 t1 m1 z, s' = { s with heap := h1, toks := t1 } ∧ Cx w mean mg mb env h₀ L m1 h1 ∧ AgS h1 m1 (P.st z) ∧ P.ok z ∧ P.ms z = j) ?_ _ ⟨s.heap, s.toks, m, P.a0, rfl, C, h0 ▸ A, ok, rfl⟩)) (fun _ _ x => x) fun _ _ x => x
  rintro j _ ⟨h1, t1, m1, z, rfl, C1, A1, ok1, rfl⟩
  refine ((wpX_is (fr := fr) (gd := gd) C1 A1.agr O hd hu n).1 t _ (x z ok1)).e fun b x y => ?_
  refine y.run _ _ _ (stays_refl _) fun h2 t2 s2 => ?_
  have x : br b (X z) (kn (P.st z)) := x
  cases b with
  | false => exact wpAny_execs_nil (q1 _ m1 h2 t2 x (C1.grow s2) (A1.grow s2))
  | true =>
    refine wpAny_mono (E := fun _ _ => False) (ha z x { s with heap := h2, toks := t2 } m1 (fun f s3 => match f with | .next => ∃ j, j < P.ms z ∧ ∃ h1 t1 m1 z, s3 = { s with heap := h1, toks := t1 } ∧ Cx w mean mg mb env h₀ L m1 h1 ∧ AgS h1 m1 (P.st z) ∧ P.ok z ∧ P.ms z = j | .ret v => Q (.ret v) s3 | _ => False) (C1.grow s2) (A1.grow s2) (fun μ' m' h' t' x C A => ⟨_, x.2.2, h', t', m', P.nx z, rfl, C, x.1 ▸ A, x.2.1, rfl⟩) q2) (fun f s3 y => ?_) fun _ _ x => x.elim
    cases f with
    | next => exact y
    | ret v => exact y
    | brk => exact y.elim
    | cont => exact y.elim
theorem SRun.sw (O : TabOK w mean mg mb D U T) (hd : dp + D < recursionLimit) (hu : un + U < cLine) {ts : List Expr} {j j' : Nat} {p p' q : Pos} {ea eb : Expr} {a b : Str} (hs : swappedStores [.Tuple ts j p] (.Tuple [ea, eb] j' p') env = pure (some [a, b])) (ha : env.scope.names.lookup a = some .local) (hb : env.scope.names.lookup b = some .local)
    (x : wpX T env.scope μ n false ea fun va => wpX T env.scope μ n false eb fun vb => va.wk fun va => vb.wk fun vb => kn (setM (setM μ b vb) a va)) : SRun w mean mg mb dp un fr gd env h₀ L (exec (.Assign [.Tuple ts j p] (.Tuple [ea, eb] j' p') q) env) μ kn k := by
  refine fun s m Q C A q1 q2 => ((wpX_is (fr := fr) (gd := gd) C A.agr O hd hu n).2 _ _ x).e fun sa x ya pa => ((wpX_is (fr := fr) (gd := gd) C A.agr O hd hu n).2 _ _ x).e fun sb x yb pb => Sh.wk_e x fun sa' x za ca => Sh.wk_e x fun sb' x zb cb => ?_
  have hl := EvL.cons ya (EvL.cons yb EvL.nil (pb.a [])) (pa.a _)
  refine Assign_Tuple_swapped (Tuple_ ((hl.p1 p').symm ▸ hl.run s _ _ (stays_refl _) fun vs h1 t1 s1 i => ?_)) rfl hs
  obtain ⟨va, _, rfl, ia, i1⟩ := i.cons_is
  obtain ⟨vb, _, rfl, ib, i2⟩ := i1.cons_is
  cases i2.nil_is
  refine wpAny_newObj_type (unpackItems_tuple (items := #[va, vb]) rfl ⟨_, Heap.get?_push_size _ rfl, rfl, _, rfl⟩ fun h2 x2 => ?_) (by show (2 : Nat) ≤ sizeLine; decide)
  have s2 : h1.StaysIn h2 := fun c o e => x2 c o (Nat.ne_of_lt (Heap.lt_size (Heap.get?_push_of_some _ e))) (Heap.get?_push_of_some _ e)
  have s3 := stays_trans s1 s2
  exact assignInOrder_cons (bindName_ (put_name (s := { s with heap := h2, toks := t1 }) (C.grow s3) (A.grow s3) hb zb (Sh.grow zb s2 (Sh.rebase zb (cb _ _ _ ib))) fun h3 t3 m3 C3 A3 k3 =>
    assignInOrder_cons (bindName_ (put_name (s := { s with heap := h3, toks := t3 }) C3 A3 ha za (k3 _ _ za (Sh.grow za s2 (Sh.rebase za (ca _ _ _ ia)))) fun h4 t4 m4 C4 A4 _ =>
      assignInOrder_nil (q1 _ m4 h4 t4 x C4 A4)))))
theorem SRun.unp (O : TabOK w mean mg mb D U T) (hd : dp + D < recursionLimit) (hu : un + U < cLine) {ts : List Expr} {j : Nat} {p q : Pos} {e : Expr} (hs : swappedStores [.Tuple ts j p] e env = pure none) (x : wpX T env.scope μ n false e fun sh => unpX env.scope ts sh μ kn) : SRun w mean mg mb dp un fr gd env h₀ L (exec (.Assign [.Tuple ts j p] e q) env) μ kn k :=
  fun s m Q C A q1 q2 => ((wpX_is (fr := fr) (gd := gd) C A.agr O hd hu n).2 _ _ x).e fun sh x y pl => Assign_Tuple (y.run s _ _ (stays_refl _) fun v h1 t1 s1 i => unpX_is (s := { s with heap := h1, toks := t1 }) (C.grow s1) (A.grow s1) i x q1) (pl.c (some (.Tuple ts j p)) q.line) hs
theorem stepS_is (O : TabOK w mean mg mb D U T) (hd : dp + D < recursionLimit) (hu : un + U < cLine) {P : Lp} {ws : Mu → List Stmt → (Mu → Prop) → Prop} (H : ∀ μ l kn, ws μ l kn → SRun w mean mg mb dp un fr gd env h₀ L (execs l env) μ kn k) {st : Stmt} (V : Sv) (v : V.is st) (x : stepS T env.scope P n μ kn k ws V) : SRun w mean mg mb dp un fr gd env h₀ L (exec st env) μ kn k := by
  cases V with
  | no => exact x.elim
  | ret e => exact v.elim fun p v => v ▸ SRun.ret O hd hu x
  | asg a e => exact v.elim fun p v => v.elim fun q v => v ▸ SRun.asg O hd hu x
  | aug a op e => exact v.elim fun p v => v.elim fun q v => v ▸ SRun.aug O hd hu x
  | ite t a b => exact v.elim fun p v => v ▸ SRun.ite O hd hu x (H _ _ _) (H _ _ _)
  | whl t a => exact v.elim fun p v => v ▸ SRun.whl O hd hu x.1 x.2.1 x.2.2 fun z => H _ _ _
  | tup ts j p e => exact v.elim fun q v => v ▸ swX_e x (fun xs hs x => nm2_e x fun a b ex ha hb x1 => asTwo_e (xv e) (xv_is e) x1 fun ea eb j' ee x2 => by rw [ex] at hs; rw [ee] at hs ⊢; exact SRun.sw O hd hu hs ha hb x2) fun hs x => SRun.unp O hd hu hs x
end
theorem wpS_is (O : TabOK w mean mg mb D U T) (hd : dp + D < recursionLimit) (hu : un + U < cLine) {P : Lp} {k : Sh → Prop} (n : Nat) : ∀ (μ : Mu) (l : List Stmt) (kn : Mu → Prop), wpS T env.scope P n μ l kn k → SRun w mean mg mb dp un fr gd env h₀ L (execs l env) μ kn k := by
  induction n with
  | zero => exact fun _ _ _ x => x.elim
  | succ n ih =>
    intro μ l kn x
    cases l with
    | nil => exact fun s m Q C A q1 q2 => wpAny_execs_nil (q1 μ m s.heap s.toks x C A)
    | cons st rest => exact SRun.seq (stepS_is O hd hu ih (sv st) (sv_is st) (show stepS T env.scope P n μ (fun μ => wpS T env.scope P n μ rest kn k) k (fun μ l kn => wpS T env.scope P n μ l kn k) (sv st) from x)) fun μ' x => ih μ' rest kn x
end
section
variable {w : World} {mean : ExcName → Option Value} {mg mb : Str → Option Value} {D U : Nat}
noncomputable def Par (h : Heap) : List (Str × Value) → Mu → Prop
  | [], [] => True
  | p :: rb, q :: μ => p.1 = q.1 ∧ q.2.stat = true ∧ q.2.is h h p.2 ∧ Par h rb μ
  | _, _ => False
theorem Par.ags {h : Heap} : ∀ {rb : List (Str × Value)} {μ : Mu}, Par h rb μ → AgS h (fun y => rb.lookup y) μ := by
  intro rb
  induction rb with
  | nil =>
    intro μ x y sh e
    cases μ with
    | nil => cases e
    | cons _ _ => exact x.elim
  | cons p rb ih =>
    intro μ x y sh e
    cases μ with
    | nil => exact x.elim
    | cons q μ =>
      obtain ⟨e1, z, i, x⟩ := x
      show _ ∧ ∃ v, List.lookup y ((p.1, p.2) :: rb) = some v ∧ _
      have e : List.lookup y ((q.1, q.2) :: μ) = some sh := e
      rw [List.lookup_cons] at e ⊢
      rw [e1]
      by_cases f : y = q.1
      · rw [beq_iff_eq.mpr f] at e ⊢; cases e; exact ⟨z, p.2, rfl, i⟩
      · rw [beq_eq_false_iff_ne.mpr f] at e ⊢; exact ih x y sh e
noncomputable def scChk (sc : Scope) (rb : List (Str × Value)) : Bool := (rb.all fun x => decide (sc.names.lookup x.1 = some .local)) && (sc.names.all fun x => x.2 != .cell) && !sc.isCoroutine && !sc.isGenerator && sc.kind == .function
theorem Con.run {f c i : Nat} {name qual : Str} {dV pm ct oc : Value} {od : Option Addr} {osl : Array (Option Value)} {vs : List Value} {binds rb : List (Str × Value)} {d u n : Nat} {T : List Tb} {μ : Mu} {pre : Heap → Prop} {Out : Heap → Heap → Value → Prop} {P : Sh → Prop} {Q : Lp}
    (ho : (K w.params).lookup f = some ⟨oc, od, .func (fnOf name qual (sArgs (stm i)) (sBody (stm i)) (sScope (stm i)) dV .none .none pm none (.ref c) ct), osl⟩)
    (hcd : codeIn (K w.params) (.ref c) qual = true)
    (hbind : bindArgs (fnOf name qual (sArgs (stm i)) (sBody (stm i)) (sScope (stm i)) dV .none .none pm none (.ref c) ct) ⟨vs, []⟩ = pure binds)
    (hz : ((sArgs (stm i)).args.map (·.arg)).zip vs = binds) (hr : binds.reverse = rb)
    (chk : scChk (sScope (stm i)) binds = true)
    (O : TabOK w mean mg mb D U T) (hd : D + 1 ≤ d) (hu : U + 3 ≤ u)
    (hv : ∀ h, pre h → Par h rb μ ∧ wpS T (sScope (stm i)) Q n μ (sBody (stm i)) (fun _ => False) P)
    (hP : ∀ sh, P sh → ∀ h0 h v, sh.is h0 h v → Out h0 h v) : Con w mean mg mb f vs d u pre Out := by
  intro dp un fr gd s QQ E X TT hp hd1 hu1 hret
  obtain ⟨par, vc⟩ := hv _ hp
  unfold scChk at chk
  simp only [Bool.and_eq_true] at chk
  obtain ⟨⟨⟨⟨k1, k2⟩, k3⟩, k4⟩, k5⟩ := chk
  have k5 := eq_of_beq k5
  refine enter X TT ho hcd (Nat.lt_of_le_of_lt (Nat.le_add_right dp d) hd1) rfl rfl rfl hz hr hbind k1 (fun L' h1 tk F N => ?_) k2 ((Bool.not_eq_true' _).mp k3) ((Bool.not_eq_true' _).mp k4) k5
  refine wpS_is (fr := fr.map _) (gd := gd) (dp := dp + 1) (un := un + 3) (L := L') (env := envOf qual (sScope (stm i)) L' f (.ref c)) O (by omega) (by omega) n μ _ _ vc { s with heap := h1, toks := tk } _ _ ⟨X, TT, F, rfl, rfl, k5, rfl⟩ (AgS.grow par.ags F.keep) (fun _ _ _ _ x => x.elim) fun sh v h' tk' x st i => ?_
  exact hret _ _ _ st (hP _ x _ _ _ i)
/-- an int, or a pair of ints -/
noncomputable def isK (h : Heap) (b : Bool) (v : Value) : Prop := match b with
  | false => ∃ n t, v = .int n t
  | true => ∃ a c e t u, v = .ref a ∧ IsTup h a [Value.int c t, Value.int e u].toArray
theorem isV.isK {h : Heap} {b : Bool} {n : Int} {v : Value} (x : isV h b n v) : Mine.isK h b v := by
  cases b with
  | false => exact ⟨n, x⟩
  | true => obtain ⟨a, t, u, e1, i⟩ := x; exact ⟨a, _, _, t, u, e1, i⟩
noncomputable def Sh.asK : Sh → (Bool → Prop) → Prop
  | .int _, k => k false
  | .tup _ _, k => k true
  | .wv b _, k => k b
  | _, _ => False
theorem Sh.asK_e {sh : Sh} {k : Bool → Prop} {G : Prop} (h : sh.asK k) (f : ∀ b, k b → (∀ h0 h v, sh.is h0 h v → isK h b v) → G) : G := by
  cases sh with
  | int n => exact f _ h fun _ _ _ ⟨t, e⟩ => ⟨n, t, e⟩
  | tup c e => exact f _ h fun _ _ _ ⟨a, t, u, e1, i⟩ => ⟨a, c, e, t, u, e1, i⟩
  | wv b n => exact f _ h fun _ _ _ x => isV.isK x
  | _ => exact h.elim
/-- kinds of arguments -/
inductive AK where
  | I | P | V | S | K
noncomputable abbrev AK.Fn (a : AK) (β : Type) : Type := match a with
  | .I => Int → β
  | .P => Int → Int → β
  | .V => Bool → Int → β
  | .S => Str → β
  | .K => Bool → β
noncomputable abbrev SigF : List AK → Type
  | [] => Option Prop × Sh
  | a :: l => a.Fn (SigF l)
noncomputable def AK.get {β : Type} (a : AK) (f : a.Fn β) (sh : Sh) (k : β → Prop) : Prop := match a with
  | .I => sh.asI fun n => k (f n)
  | .P => sh.asP fun c e => k (f c e)
  | .V => sh.asV fun b n => k (f b n)
  | .S => sh.asS fun x => k (f x)
  | .K => sh.asK fun x => k (f x)
noncomputable def sigE : (l : List AK) → SigF l → Ent
  | [], F, shs, k => (match shs with
    | [] => (match F.1 with
      | none => k F.2
      | some c => c ∧ k F.2)
    | _ => False)
  | a :: l, F, shs, k => (match shs with
    | [] => False
    | s :: r => a.get F s fun G => sigE l G r k)
noncomputable def sigH (w : World) (mean : ExcName → Option Value) (mg mb : Str → Option Value) (D U : Nat) (f : Addr) (h : Heap) : (l : List AK) → SigF l → List Value → Prop
  | [], F, vs => F.1.getD True → ∃ d u pre, Con w mean mg mb f vs d u pre (fun a b r => F.2.is a b r) ∧ pre h ∧ d ≤ D ∧ u ≤ U
  | .I :: l, F, vs => ∀ n t, sigH w mean mg mb D U f h l (F n) (vs ++ [.int n t])
  | .P :: l, F, vs => ∀ c e a t u, IsTup h a [Value.int c t, Value.int e u].toArray → sigH w mean mg mb D U f h l (F c e) (vs ++ [.ref a])
  | .V :: l, F, vs => ∀ b n v, isV h b n v → sigH w mean mg mb D U f h l (F b n) (vs ++ [v])
  | .S :: l, F, vs => ∀ x t, sigH w mean mg mb D U f h l (F x) (vs ++ [.str x t])
  | .K :: l, F, vs => ∀ b v, isK h b v → sigH w mean mg mb D U f h l (F b) (vs ++ [v])
theorem EvL.tail_p1 {dp un : Nat} {fr : Option (List Env)} {gd : Option (List Code)} {env : Env} {h : Heap} {e : Expr} {es : List Expr} {shs : List Sh} (x : EvL w dp un fr gd env h (e :: es) shs) (ns : NoStar env e) (pos : Pos) : backTo pos (starEach es env) = starEach es env := by
  have y := x.p1 pos
  rw [ns es] at y
  exact (List.cons.inj y).2
theorem sigE_is {f : Addr} (l : List AK) : ∀ {F : SigF l} {shs : List Sh} {k : Sh → Prop}, sigE l F shs k →
    ∃ sh, k sh ∧ ∀ h0 h vs acc, sigH w mean mg mb D U f h l F acc → Shs h0 h shs vs → (∃ d u pre, Con w mean mg mb f (acc ++ vs) d u pre (fun a b r => sh.is a b r) ∧ pre h ∧ d ≤ D ∧ u ≤ U) := by
  induction l with
  | nil =>
    intro F shs k x
    cases shs with
    | nil =>
      obtain ⟨c, sh⟩ := F
      refine ⟨sh, ?_, fun h0 h vs acc H i => ?_⟩
      · cases c with
        | none => exact x
        | some c => exact x.2
      · cases i.nil_is
        rw [List.append_nil]
        cases c with
        | none => exact H trivial
        | some c => exact H x.1
    | cons _ _ => exact x.elim
  | cons a l ih =>
    intro F shs k x
    cases shs with
    | nil => exact x.elim
    | cons s r =>
      have go : ∀ {G : SigF l}, sigE l G r k → (∀ h0 h v acc, s.is h0 h v → sigH w mean mg mb D U f h (a :: l) F acc → sigH w mean mg mb D U f h l G (acc ++ [v])) →
          ∃ sh, k sh ∧ ∀ h0 h vs acc, sigH w mean mg mb D U f h (a :: l) F acc → Shs h0 h (s :: r) vs → (∃ d u pre, Con w mean mg mb f (acc ++ vs) d u pre (fun a b r => sh.is a b r) ∧ pre h ∧ d ≤ D ∧ u ≤ U) := by
        intro G x z
        obtain ⟨sh, x, y⟩ := ih x
        refine ⟨sh, x, fun h0 h vs acc H i => ?_⟩
        obtain ⟨v, vs', rfl, i1, i2⟩ := i.cons_is
        rw [List.append_cons]
        exact y h0 h vs' _ (z _ _ _ _ i1 H) i2
      cases a with
      | I => exact Sh.asI_e x fun n x y => go x fun _ h v _ i H => let ⟨t, e⟩ := y _ _ _ i; e ▸ H n t
      | P => exact Sh.asP_e x fun c e x y => go x fun _ h v _ i H => let ⟨a, t, u, e1, i⟩ := y _ _ _ i; e1 ▸ H c e a t u i
      | V => exact Sh.asV_e x fun b n x y => go x fun _ h v _ i H => H b n v (y _ _ _ i)
      | K => exact Sh.asK_e x fun b x y => go x fun _ h v _ i H => H b v (y _ _ _ i)
      | S => exact Sh.asS_e x fun n x y => go x fun _ h v _ i H => let ⟨t, e⟩ := y _ _ _ i; e ▸ H n t
theorem TbOK.sig {x : Str} {f : Addr} {l : List AK} {F : SigF l} (hn : nsIn (K w.params) mainGlobals x = some (some (.ref f))) (hk : keepIn (K w.params) (.ref f) = true) (H : ∀ h, sigH w mean mg mb D U f h l F []) : TbOK w mean mg mb D U ⟨x, .ref f, sigE l F, .val (.ref f)⟩ := by
  constructor
  · intro dp un fr gd env h₀ L h m pos C hx hd
    exact .of fun s Q E st q => Name_function_global C.hk hx (loadGlobal_global (env := env) (C.hg ▸ ((C.T.keeps C.F.keep).keeps st).g) (mg_of C.X C.T.g hn) (q _ s.heap _ (stays_refl _) rfl)) hd
  · intro dp un fr gd env h e es shs k pos X TT hd hu ea ns hp x
    obtain ⟨sh, x, y⟩ := sigE_is l x
    refine ⟨sh, x, fun s Q E st q => callWith_K (X.keeps st) hk ?_ (ns es) ((ea.tail_p1 ns pos).symm ▸ hp)⟩
    rw [ea.p1]
    refine ea.run s _ _ st fun vs h1 t1 s1 i => ⟨X.keeps (stays_trans st s1), ?_⟩
    obtain ⟨d, u, pre, Co, hpre, h1', h2'⟩ := y h h1 vs [] (H h1) i
    refine Co dp un fr gd { s with heap := h1, toks := t1 } _ _ (X.keeps (stays_trans st s1)) (TT.keeps (stays_trans st s1)) hpre (Nat.lt_of_le_of_lt (Nat.add_le_add_left h1' dp) hd) (Nat.lt_of_le_of_lt (Nat.add_le_add_left h2' un) hu) fun r h2 t2 s2 e2 => ?_
    exact q r h2 t2 (stays_trans s1 s2) (Sh.base e2 (stays_trans st s1))
/-- a builtin as a name of the top -/
theorem TbOK.built {x : Str} {id : String} {en : Ent} (hb : bootBuiltins x = some (Value.builtin id)) (hn0 : x ≠ "__name__") (hn : nsIn (K w.params) mainGlobals x = some none)
    (H : ∀ shs k, en shs k → ∃ sh, k sh ∧ ∀ (A : Around) (h0 : Heap) vs (s : Shared) (Q E : Value → Shared → Prop), A.handled = none → (K w.params).In s.heap → Shs h0 s.heap shs vs → (∀ v h' tk, s.heap.StaysIn h' → sh.is h0 h' v → Q v { s with heap := h', toks := tk }) → wpAny (model Pg w) A (PySem.call (Value.builtin id) vs) Q E s) :
    TbOK w mean mg mb D U ⟨x, .builtin id, en, .val (.builtin id)⟩ := by
  constructor
  · exact fun C hx hd => Ev.nmBT C hx hd hb hn0 hn
  · intro dp un fr gd env h e es shs k pos X TT hd hu ea ns hp x
    obtain ⟨sh, x, y⟩ := H _ _ x
    refine ⟨sh, x, fun s Q E st q => callWith_builtin1 ?_ (ns es) ((ea.tail_p1 ns pos).symm ▸ hp)⟩
    rw [ea.p1]
    exact ea.run s _ _ st fun vs h1 t1 s1 i => y _ h vs { s with heap := h1, toks := t1 } Q E rfl (X.keeps (stays_trans st s1)) i fun v h2 t2 s2 j => q v h2 t2 (stays_trans s1 s2) j
theorem TbOK.type {x : Str} {T : String} (hb : bootBuiltins x = some (Value.type T)) (hn0 : x ≠ "__name__") (hn : nsIn (K w.params) mainGlobals x = some none) : TbOK w mean mg mb D U ⟨x, .type T, fun _ _ => False, .val (.type T)⟩ :=
  ⟨fun C hx hd => Ev.nmBT C hx hd hb hn0 hn, fun _ _ _ _ _ _ _ x => x.elim⟩
/-- a value of the top as a name -/
theorem TbOK.name {x : Str} {v : Value} {sh : Sh} (hn : nsIn (K w.params) mainGlobals x = some (some v)) (hv : ∀ h, (K w.params).In h → sh.is h h v) (hs : sh.stat = true) : TbOK w mean mg mb D U ⟨x, .none, fun _ _ => False, sh⟩ :=
  ⟨fun {dp un fr gd env h₀ L h m pos} C hx hd => .of fun s Q E st q => Name_function_global C.hk hx (loadGlobal_global (env := env) (C.hg ▸ ((C.T.keeps C.F.keep).keeps st).g) (mg_of C.X C.T.g hn) (q _ s.heap _ (stays_refl _) (Sh.rebase hs (hv _ ((C.X.keeps C.F.keep).keeps st))))) hd, fun _ _ _ _ _ _ _ x => x.elim⟩
/-- ints for ints -/
noncomputable def enI1 (f : Int → Int) : Ent := fun shs k => match shs with
  | [] => False
  | s :: l => match l with
    | [] => s.asI fun a => k (.int (f a))
    | _ :: _ => False
noncomputable def enI2 (f : Int → Int → Int) : Ent := fun shs k => match shs with
  | [] => False
  | s :: l => s.asI fun a => enI1 (f a) l k
theorem enI1_is {f : Int → Int} {shs : List Sh} {k : Sh → Prop} (x : enI1 f shs k) : ∃ a, k (.int (f a)) ∧ ∀ h0 h vs, Shs h0 h shs vs → ∃ t, vs = [.int a t] := by
  cases shs with
  | nil => exact x.elim
  | cons s l => cases l with
    | cons _ _ => exact x.elim
    | nil => exact Sh.asI_e x fun a x l => ⟨a, x, fun _ _ _ i => let ⟨_, _, e, i, j⟩ := i.cons_is; let ⟨t, e'⟩ := l _ _ _ i; ⟨t, by rw [e, e', j.nil_is]⟩⟩
theorem enI2_is {f : Int → Int → Int} {shs : List Sh} {k : Sh → Prop} (x : enI2 f shs k) : ∃ a b, k (.int (f a b)) ∧ ∀ h0 h vs, Shs h0 h shs vs → ∃ t u, vs = [.int a t, .int b u] := by
  cases shs with
  | nil => exact x.elim
  | cons s l => exact Sh.asI_e x fun a x l => let ⟨b, x, z⟩ := enI1_is x; ⟨a, b, x, fun _ _ _ i => let ⟨_, _, e, i, j⟩ := i.cons_is; let ⟨t, e'⟩ := l _ _ _ i; let ⟨u, e''⟩ := z _ _ _ j; ⟨t, u, by rw [e, e', e'']⟩⟩
noncomputable def tb_abs : Tb := ⟨"abs", .builtin "abs", enI1 absI, .val (.builtin "abs")⟩
noncomputable def tb_min : Tb := ⟨"min", .builtin "min", enI2 min, .val (.builtin "min")⟩
noncomputable def tb_max : Tb := ⟨"max", .builtin "max", enI2 max, .val (.builtin "max")⟩
theorem ok_abs : TbOK w mean mg mb D U tb_abs := .built boot_abs (by decide) (by k_is) fun shs k x => let ⟨a, x, z⟩ := enI1_is x; ⟨_, x, fun A h0 vs s Q E hA X i q => let ⟨t, e⟩ := z _ _ _ i; e ▸ call_abs fun u tk => q _ s.heap tk (stays_refl _) ⟨u, rfl⟩⟩
theorem ok_min : TbOK w mean mg mb D U tb_min := .built PyProof.Rows.boot_min (by decide) (by k_is) fun shs k x => let ⟨a, b, x, z⟩ := enI2_is x; ⟨_, x, fun A h0 vs s Q E hA X i q => let ⟨t, u, e⟩ := z _ _ _ i; e ▸ min_two_ints hA fun h' tk st => by
  by_cases c : b < a
  · rw [if_pos c]; exact q _ h' tk st ⟨u, by rw [Int.min_eq_right (Int.le_of_lt c)]⟩
  · rw [if_neg c]; exact q _ h' tk st ⟨t, by rw [Int.min_eq_left (Int.not_lt.mp c)]⟩⟩
theorem ok_max : TbOK w mean mg mb D U tb_max := .built PyProof.Rows.boot_max (by decide) (by k_is) fun shs k x => let ⟨a, b, x, z⟩ := enI2_is x; ⟨_, x, fun A h0 vs s Q E hA X i q => let ⟨t, u, e⟩ := z _ _ _ i; e ▸ max_two_ints hA fun h' tk st => by
  by_cases c : b > a
  · rw [if_pos c]; exact q _ h' tk st ⟨u, by rw [Int.max_eq_right (Int.le_of_lt c)]⟩
  · rw [if_neg c]; exact q _ h' tk st ⟨t, by rw [Int.max_eq_left (Int.not_lt.mp c)]⟩⟩
/-- isinstance of a worth and tuple or str -/
noncomputable def isiT (s : Sh) (k : Bool → Prop) : Prop := match s with
  | .int _ => k false
  | .tup _ _ => k true
  | _ => False
noncomputable def isiS (s : Sh) (k : Bool → Prop) : Prop := match s with
  | .int _ => k false
  | .tup _ _ => k false
  | _ => False
noncomputable def enIsi : Ent := fun shs k => match shs with
  | [] => False
  | s :: l => match l with
    | [] => False
    | t :: l => match l with
      | [] => match t with
        | .val v => br (decide (v = .type "tuple")) (isiT s fun b => k (.bool b)) (br (decide (v = .type "str")) (isiS s fun b => k (.bool b)) False)
        | _ => False
      | _ :: _ => False
theorem enIsi_is {shs : List Sh} {k : Sh → Prop} (x : enIsi shs k) : ∃ s T b, k (.bool b) ∧ IsiIs s T b ∧ shs = [s, .val T] := by
  cases shs with
  | nil => exact x.elim
  | cons s l => cases l with
    | nil => exact x.elim
    | cons t l => cases l with
      | cons _ _ => exact x.elim
      | nil => cases t with
        | val v =>
          have x : br (decide (v = .type "tuple")) (isiT s fun b => k (.bool b)) (br (decide (v = .type "str")) (isiS s fun b => k (.bool b)) False) := x
          by_cases e : v = .type "tuple"
          · rw [decide_eq_true e] at x
            subst e
            cases s with
            | int n => exact ⟨_, _, _, x, IsiIs.it, rfl⟩
            | tup c e => exact ⟨_, _, _, x, IsiIs.tt, rfl⟩
            | _ => exact x.elim
          · rw [decide_eq_false e] at x
            by_cases e : v = .type "str"
            · rw [decide_eq_true e] at x
              subst e
              cases s with
              | int n => exact ⟨_, _, _, x, IsiIs.is, rfl⟩
              | tup c e => exact ⟨_, _, _, x, IsiIs.ts, rfl⟩
              | _ => exact x.elim
            · rw [decide_eq_false e] at x; exact x.elim
        | _ => exact x.elim
noncomputable def tb_isi : Tb := ⟨"isinstance", .builtin "isinstance", enIsi, .val (.builtin "isinstance")⟩
noncomputable def tb_tuple : Tb := ⟨"tuple", .type "tuple", fun _ _ => False, .val (.type "tuple")⟩
noncomputable def tb_str : Tb := ⟨"str", .type "str", fun _ _ => False, .val (.type "str")⟩
theorem ok_isi : TbOK w mean mg mb D U tb_isi := .built boot_isinstance (by decide) (by k_is) fun shs k x => let ⟨sh, T, b, x, z, e⟩ := enIsi_is x; ⟨_, x, fun A h0 vs s Q E hA X i q => by
  subst e
  obtain ⟨v, _, rfl, i1, i⟩ := i.cons_is
  obtain ⟨t, _, rfl, i2, i⟩ := i.cons_is
  cases i.nil_is
  cases (show t = _ from i2)
  exact z w A h0 s Q E v X i1 fun tk => q _ s.heap tk (stays_refl _) rfl⟩
theorem ok_tuple : TbOK w mean mg mb D U tb_tuple := .type PyProof.Rows.boot_tuple (by decide) (by k_is)
theorem ok_str : TbOK w mean mg mb D U tb_str := .type PyProof.Rows.boot_str (by decide) (by k_is)
/-- ends -/
noncomputable def eI (n : Int) (sh : Sh) : Prop := sh.asI fun m => m = n
noncomputable def eB (b : Bool) (sh : Sh) : Prop := sh.asB fun c => c = b
noncomputable def eS (x : Str) (sh : Sh) : Prop := sh.asS fun c => c = x
noncomputable def eT (p : Int × Int) (sh : Sh) : Prop := match sh with
  | .new q => q = p
  | .vv b n => b = true ∧ lawDec n = p
  | _ => False
noncomputable def eT3 (p : Int × Int × Int) (sh : Sh) : Prop := match sh with
  | .new3 q => q = p
  | _ => False
noncomputable def eV (k : Bool) (n : Int) (sh : Sh) : Prop := match sh with
  | .vv b m => b = k ∧ m = n
  | .new p => k = true ∧ p = lawDec n
  | .int m => k = false ∧ m = n
  | _ => False
theorem eI_is {n : Int} (sh : Sh) (x : eI n sh) (h0 h : Heap) (v : Value) (i : sh.is h0 h v) : OutI n h0 h v := Sh.asI_e x fun m e l => e ▸ l _ _ _ i
theorem eB_is {n : Bool} (sh : Sh) (x : eB n sh) (h0 h : Heap) (v : Value) (i : sh.is h0 h v) : OutB n h0 h v := Sh.asB_e x fun m e l => e ▸ l _ _ _ i
theorem eT_is {p : Int × Int} (sh : Sh) (x : eT p sh) (h0 h : Heap) (v : Value) (i : sh.is h0 h v) : OutT p h0 h v := by
  cases sh with
  | new q => exact (show q = p from x) ▸ i
  | vv b n => obtain ⟨rfl, rfl⟩ := x; exact i
  | _ => exact x.elim
theorem eT3_is {p : Int × Int × Int} (sh : Sh) (x : eT3 p sh) (h0 h : Heap) (v : Value) (i : sh.is h0 h v) : OutT3 p h0 h v := by
  cases sh with
  | new3 q => exact (show q = p from x) ▸ i
  | _ => exact x.elim
theorem eV_is {k : Bool} {n : Int} (sh : Sh) (x : eV k n sh) (h0 h : Heap) (v : Value) (i : sh.is h0 h v) : OutV k n h0 h v := by
  cases sh with
  | vv b m => obtain ⟨rfl, rfl⟩ := x; exact i
  | new p => obtain ⟨rfl, rfl⟩ := x; exact i
  | int m => obtain ⟨rfl, rfl⟩ := x; exact i
  | _ => exact x.elim
end
noncomputable def lpFig (n : Int) : Lp := ⟨Int × Int, fun z => [("number", .int n), ("many", .int z.1), ("bound", .int z.2)], fun z => ∃ k : Nat, z = ((k : Int) + 1, 10 ^ (k + 1)) ∧ (k = 0 ∨ 10 ^ k ≤ n), fun z => (n + 1 - z.1).toNat, (1, 10), fun z => (z.1 + 1, z.2 * 10)⟩
theorem figures_of_c {w : World} {mean : ExcName → Option Value} {mg mb : Str → Option Value} {n : Int} {t1 : Tok} :
    Con w mean mg mb 44 [.int n t1] 1 16 (fun _ => True) (OutI (figs n)) :=
  Con.run (i := 3) (D := 0) (U := 0) (n := 40) (Q := lpFig n) (rb := [("number", .int n t1)])
    (μ := [("number", .int n)]) (by k_is) (by k_is) rfl rfl rfl rfl
    (.nil) (by decide) (by decide) (fun h hp => ⟨⟨rfl, rfl, ⟨_, rfl⟩, trivial⟩, by
      show setM (setM [(Str.ofString "number", Sh.int n)] (Str.ofString "many") (Sh.int (1 : Int))) (Str.ofString "bound") (Sh.int (10 : Int)) = (lpFig n).st (lpFig n).a0 ∧ (lpFig n).ok (lpFig n).a0 ∧ ∀ z : Int × Int, (lpFig n).ok z → br (decide (z.snd ≤ n)) (IntMulOk z.snd (10 : Int) ∧ setM (setM ((lpFig n).st z) (Str.ofString "bound") (Sh.int (z.snd * (10 : Int)))) (Str.ofString "many") (Sh.int (z.fst + (1 : Int))) = (lpFig n).st ((lpFig n).nx z) ∧ (lpFig n).ok ((lpFig n).nx z) ∧ ((lpFig n).ms ((lpFig n).nx z)).succ.le ((lpFig n).ms z)) (z.fst = figs n)
      refine ⟨rfl, ⟨0, rfl, .inl rfl⟩, fun z ok => ?_⟩
      obtain ⟨k, rfl, hk⟩ := ok
      refine br_i (fun g => ?_) fun g => (figs_unique (n := n) (k := k + 1) (Nat.succ_le_succ (Nat.zero_le k)) (Int.not_le.mp (of_decide_eq_false g)) (hk.elim (fun e => .inl (congrArg (· + 1) e)) .inr)).symm
      have g := of_decide_eq_true g
      have q : ((k + 1 : Nat) : Int) < ((10 ^ (k + 1) : Nat) : Int) := Int.ofNat_lt.mpr (Nat.lt_pow_self (by decide))
      rw [Int.natCast_pow] at q
      have q := Int.lt_of_lt_of_le q g
      exact ⟨by mul_fits, rfl, ⟨k + 1, rfl, .inr g⟩, by show (n + 1 - ((k : Int) + 1 + 1)).toNat < (n + 1 - ((k : Int) + 1)).toNat; omega⟩⟩) eI_is
theorem gd1 {α : Type} {o : Option α} {p d : α} (h : o = some p) : o = some (o.getD d) := by rw [h]; rfl
theorem gd2 {α : Type} {o : Option α} {p d : α} (h : o = some p) : o.getD d = p := by rw [h]; rfl
noncomputable def tb_figures_of : Tb := ⟨"figures_of", .ref 44, sigE [.I] fun n => (none, .int (figs n)), .val (.ref 44)⟩
theorem ok_figures_of {w : World} {mean : ExcName → Option Value} {mg mb : Str → Option Value} {D U : Nat} (hD : 1 ≤ D) (hU : 16 ≤ U) : TbOK w mean mg mb D U tb_figures_of := TbOK.sig (by k_is) (by k_is) fun h n t _ => ⟨_, _, _, figures_of_c, trivial, hD, hU⟩
theorem sm_pow {k : Int} (h : k < 400) : Sm ((10 : Int) ^ k.toNat) := Sm.pow10 (by omega)
theorem sm_two : Sm 2 := Sm.small (by decide) (by decide)
theorem sm_fmod {n u : Int} (h : Sm u) (p : 0 < u) : Sm (n.fmod u) := by
  exact Nat.lt_trans (Int.natAbs_lt_natAbs_of_nonneg_of_lt (Int.fmod_nonneg_of_pos n p) (Int.fmod_lt_of_pos n p)) h
theorem cmp_b2i (x y : Int) : b2i (decide (x > y)) - b2i (decide (x < y)) = cmpI x y := by unfold cmpI; rw [b2i_decide, b2i_decide]
theorem min_lo {x y : Int} (h : x - y < 400) : 0 ≤ x - min x y ∧ x - min x y ≤ 1000000 ∧ x - min x y < 400 := by
  rcases Int.le_total x y with c | c
  · rw [Int.min_eq_left c, Int.sub_self]; decide
  · rw [Int.min_eq_right c]; exact ⟨Int.sub_nonneg.mpr c, Int.le_trans (Int.le_of_lt h) (by decide), h⟩
theorem min_hi {x y : Int} (h : y - x < 400) : 0 ≤ y - min x y ∧ y - min x y ≤ 1000000 ∧ y - min x y < 400 := Int.min_comm y x ▸ min_lo h
theorem add_lt {n m : Int} {a c : Nat} (h1 : n.natAbs < a) (h2 : m.natAbs < a) (h3 : a + a ≤ c) : (n + m).natAbs < c := Nat.lt_of_lt_of_le (Nat.lt_of_le_of_lt (Int.natAbs_add_le n m) (Nat.add_lt_add h1 h2)) h3
theorem sub_lt {n m : Int} {a c : Nat} (h1 : n.natAbs < a) (h2 : m.natAbs < a) (h3 : a + a ≤ c) : (n - m).natAbs < c := Nat.lt_of_lt_of_le (Nat.lt_of_le_of_lt (Int.natAbs_sub_le n m) (Nat.add_lt_add h1 h2)) h3
theorem or_t {a b : Bool} (g : (a || b) = true) : a = true ∨ b = true := by cases a <;> cases b <;> first | exact .inl rfl | exact .inr rfl | cases g
theorem or_f {a b : Bool} (g : (a || b) = false) : ¬ (a = true ∨ b = true) := by cases a with | true => cases g | false => cases b with | true => cases g | false => exact fun z => z.elim (fun q => Bool.noConfusion q) fun q => Bool.noConfusion q
theorem sm_absI {m : Int} (h : Sm m) : Sm (absI m) := by unfold Sm at h ⊢; rw [absI_eq]; exact h
theorem absI_ne {m : Int} (h : m ≠ 0) : absI m ≠ 0 := by rw [absI_eq]; omega
theorem reck_vc {k k' : Bool} {n m b d x y : Int} (h1 : 1 ≤ b ∧ b ≤ 64 ∧ n.natAbs < 10 ^ 10 ∧ m.natAbs < 10 ^ 10 ∧ 30 ≤ d) (e : y = x) (h2 : n.natAbs < 10 ^ 29) (h3 : m.natAbs < 10 ^ 29) :
    br (!k && !k') ((k = false ∧ k' = false ∧ 1 ≤ b ∧ b ≤ 64 ∧ n.natAbs < 10 ^ 10 ∧ m.natAbs < 10 ^ 10 ∧ 30 ≤ d) ∧ (!fitsB y b) = (k || k' || !fitsB x b) ∧ y = x)
      ((n.natAbs < 10 ^ 29 ∧ 30 ≤ d) ∧ (m.natAbs < 10 ^ 29 ∧ 30 ≤ d) ∧ (true = true ∧ true = true ∧ n.natAbs < 10 ^ 10 ∧ m.natAbs < 10 ^ 10 ∧ 30 ≤ d) ∧ true = (k || k' || !fitsB x b) ∧ x = x) := by
  subst e
  have z := h1.2.2
  cases k <;> cases k' <;> first | exact ⟨⟨rfl, rfl, h1⟩, rfl, rfl⟩ | exact ⟨⟨h2, z.2.2⟩, ⟨h3, z.2.2⟩, ⟨rfl, rfl, z⟩, rfl, rfl⟩
theorem rounded_by_c {w : World} {mean : ExcName → Option Value} {mg mb : Str → Option Value} {n p : Int} {t1 t2 : Tok} :
    Con w mean mg mb 51 [.int n t1, .int p t2] 2 32 (fun _ => p < 400) (OutI (rounded n p)) :=
  Con.run (i := 4) (D := 1) (U := 16) (n := 40) (Q := Lp.no) (rb := [("places", .int p t2), ("number", .int n t1)])
    (μ := [("places", .int p), ("number", .int n)]) (by k_is) (by k_is) rfl rfl rfl rfl
    (.cons (ok_figures_of (by decide) (by decide)) .nil) (by decide) (by decide) (fun h hp => ⟨⟨rfl, rfl, ⟨_, rfl⟩, rfl, rfl, ⟨_, rfl⟩, trivial⟩, by
      show br (decide (p ≤ (0 : Int))) (n = rounded n p) (br (decide (p > figs n + (1 : Int))) ((0 : Int) = rounded n p) ((0 : Int) ≤ p ∧ p ≤ (1000000 : Int) ∧ Int.natAbs (10 : Int) < (2 : Nat) ^ (64 : Nat) ∧ (10 : Int) ^ p.toNat ≠ (0 : Int) ∧ ((10 : Int) ^ p.toNat).natAbs.log2 < (9000 : Nat) ∧ (10 : Int) ^ p.toNat ≠ (0 : Int) ∧ IntMulOk (2 : Int) (n.fmod ((10 : Int) ^ p.toNat)) ∧ IntMulOk (2 : Int) (n.fmod ((10 : Int) ^ p.toNat)) ∧ (2 : Int) ≠ (0 : Int) ∧ br (decide ((2 : Int) * n.fmod ((10 : Int) ^ p.toNat) > (10 : Int) ^ p.toNat) || (2 : Int) * n.fmod ((10 : Int) ^ p.toNat) == (10 : Int) ^ p.toNat && (n.fdiv ((10 : Int) ^ p.toNat)).fmod (2 : Int) == (1 : Int)) (n.fdiv ((10 : Int) ^ p.toNat) + (1 : Int) = rounded n p) (n.fdiv ((10 : Int) ^ p.toNat) = rounded n p)))
      have hp : p < 400 := hp
      have s := sm_pow hp
      have t := Sm.mulOk sm_two (sm_fmod (n := n) s (Int.pow_pos (by decide)))
      unfold rounded
      refine br_i (fun e => (if_pos (of_decide_eq_true e)).symm) fun e => ?_
      rw [if_neg (of_decide_eq_false e)]
      refine br_i (fun f => (if_pos (of_decide_eq_true f)).symm) fun f => ?_
      rw [if_neg (of_decide_eq_false f)]
      have e := of_decide_eq_false e
      exact ⟨by omega, by omega, by decide, pow10_ne _, s.log2, pow10_ne _, t, t, by decide, br_i (fun g => (if_pos (by simpa using g)).symm) fun g => (if_neg (by simpa using g)).symm⟩⟩) eI_is
noncomputable def tb_rounded_by : Tb := ⟨"rounded_by", .ref 51, sigE [.I, .I] fun n p => (some (p < 400), .int (rounded n p)), .val (.ref 51)⟩
theorem ok_rounded_by {w : World} {mean : ExcName → Option Value} {mg mb : Str → Option Value} {D U : Nat} (hD : 2 ≤ D) (hU : 32 ≤ U) : TbOK w mean mg mb D U tb_rounded_by := TbOK.sig (by k_is) (by k_is) fun h n t p t' hp => ⟨_, _, _, rounded_by_c, hp, hD, hU⟩
noncomputable def tb_most : Tb := ⟨"MOST_EXPONENT", .none, fun _ _ => False, .int 99⟩
theorem ok_most {w : World} {mean : ExcName → Option Value} {mg mb : Str → Option Value} {D U : Nat} : TbOK w mean mg mb D U tb_most := .name (by k_is) (fun _ _ => ⟨_, rfl⟩) rfl
noncomputable def lpMade (c e d : Int) : Lp := ⟨Int × Int, fun z => [("digits", .int d), ("exponent", .int z.2), ("coefficient", .int c), ("size", .int z.1), ("more", .int (figs (absI c) - d))], fun z => 0 < z.1 ∧ stripI z.1 z.2 = stripI (made1 c e d).1 (made1 c e d).2, fun z => z.1.toNat, made1 c e d, fun z => (z.1.fdiv 10, z.2 + 1)⟩
theorem made1_pos {c e d : Int} (h : (made1 c e d).1 ≠ 0) : 0 < (made1 c e d).1 := by
  have p0 : 0 ≤ (made1 c e d).1 := by
    unfold made1
    split
    · exact rounded_nonneg (absI_nonneg c)
    · exact absI_nonneg c
  omega
theorem made_c {w : World} {mean : ExcName → Option Value} {mg mb : Str → Option Value} {c e d : Int} {p : Int × Int} {t1 t2 t3 : Tok} :
    Con w mean mg mb 58 [.int c t1, .int e t2, .int d t3] 3 48 (fun _ => figs (absI c) - d < 400 ∧ made c e d = some p) (OutT p) :=
  Con.run (i := 5) (D := 2) (U := 32) (n := 40) (Q := lpMade c e d) (rb := [("digits", .int d t3), ("exponent", .int e t2), ("coefficient", .int c t1)])
    (μ := [("digits", .int d), ("exponent", .int e), ("coefficient", .int c)]) (by k_is) (by k_is) rfl rfl rfl rfl
    (.cons ok_abs (.cons (ok_figures_of (by decide) (by decide)) (.cons (ok_rounded_by (by decide) (by decide)) (.cons ok_most .nil)))) (by decide) (by decide) (fun h hp => ⟨⟨rfl, rfl, ⟨_, rfl⟩, rfl, rfl, ⟨_, rfl⟩, rfl, rfl, ⟨_, rfl⟩, trivial⟩, by
      show br (decide (figs (absI c) - d > (0 : Int))) (figs (absI c) - d < (400 : Int) ∧ br (rounded (absI c) (figs (absI c) - d) == (0 : Int)) (((0 : Int), (0 : Int)) = p) (setM (setM (setM (setM [(Str.ofString "digits", Sh.int d), (Str.ofString "exponent", Sh.int e), (Str.ofString "coefficient", Sh.int c)] (Str.ofString "size") (Sh.int (absI c))) (Str.ofString "more") (Sh.int (figs (absI c) - d))) (Str.ofString "exponent") (Sh.int (e + (figs (absI c) - d)))) (Str.ofString "size") (Sh.int (rounded (absI c) (figs (absI c) - d))) = (lpMade c e d).st (lpMade c e d).a0 ∧ (lpMade c e d).ok (lpMade c e d).a0 ∧ ∀ z : Int × Int, (lpMade c e d).ok z → (10 : Int) ≠ (0 : Int) ∧ br (z.fst.fmod (10 : Int) == (0 : Int)) ((10 : Int) ≠ (0 : Int) ∧ (Int.natAbs (10 : Int)).log2 < (9000 : Nat) ∧ setM (setM ((lpMade c e d).st z) (Str.ofString "exponent") (Sh.int (z.snd + (1 : Int)))) (Str.ofString "size") (Sh.int (z.fst.fdiv (10 : Int))) = (lpMade c e d).st ((lpMade c e d).nx z) ∧ (lpMade c e d).ok ((lpMade c e d).nx z) ∧ ((lpMade c e d).ms ((lpMade c e d).nx z)).succ.le ((lpMade c e d).ms z)) (br (decide (z.snd + figs z.fst - (1 : Int) > (99 : Int))) False (br (decide (z.snd + figs z.fst - (1 : Int) < (-99 : Int))) (((0 : Int), (0 : Int)) = p) (br (decide (c < (0 : Int))) ((-z.fst, z.snd) = p) ((z.fst, z.snd) = p)))))) (br (absI c == (0 : Int)) (((0 : Int), (0 : Int)) = p) (setM (setM [(Str.ofString "digits", Sh.int d), (Str.ofString "exponent", Sh.int e), (Str.ofString "coefficient", Sh.int c)] (Str.ofString "size") (Sh.int (absI c))) (Str.ofString "more") (Sh.int (figs (absI c) - d)) = (lpMade c e d).st (lpMade c e d).a0 ∧ (lpMade c e d).ok (lpMade c e d).a0 ∧ ∀ z : Int × Int, (lpMade c e d).ok z → (10 : Int) ≠ (0 : Int) ∧ br (z.fst.fmod (10 : Int) == (0 : Int)) ((10 : Int) ≠ (0 : Int) ∧ (Int.natAbs (10 : Int)).log2 < (9000 : Nat) ∧ setM (setM ((lpMade c e d).st z) (Str.ofString "exponent") (Sh.int (z.snd + (1 : Int)))) (Str.ofString "size") (Sh.int (z.fst.fdiv (10 : Int))) = (lpMade c e d).st ((lpMade c e d).nx z) ∧ (lpMade c e d).ok ((lpMade c e d).nx z) ∧ ((lpMade c e d).ms ((lpMade c e d).nx z)).succ.le ((lpMade c e d).ms z)) (br (decide (z.snd + figs z.fst - (1 : Int) > (99 : Int))) False (br (decide (z.snd + figs z.fst - (1 : Int) < (-99 : Int))) (((0 : Int), (0 : Int)) = p) (br (decide (c < (0 : Int))) ((-z.fst, z.snd) = p) ((z.fst, z.snd) = p))))))
      obtain ⟨h1, h2⟩ := hp
      have tail : (made1 c e d).1 ≠ 0 → ∀ z : Int × Int, (lpMade c e d).ok z → (10 : Int) ≠ (0 : Int) ∧ br (z.fst.fmod (10 : Int) == (0 : Int)) ((10 : Int) ≠ (0 : Int) ∧ (Int.natAbs (10 : Int)).log2 < (9000 : Nat) ∧ setM (setM ((lpMade c e d).st z) (Str.ofString "exponent") (Sh.int (z.snd + (1 : Int)))) (Str.ofString "size") (Sh.int (z.fst.fdiv (10 : Int))) = (lpMade c e d).st ((lpMade c e d).nx z) ∧ (lpMade c e d).ok ((lpMade c e d).nx z) ∧ ((lpMade c e d).ms ((lpMade c e d).nx z)).succ.le ((lpMade c e d).ms z)) (br (decide (z.snd + figs z.fst - (1 : Int) > (99 : Int))) False (br (decide (z.snd + figs z.fst - (1 : Int) < (-99 : Int))) (((0 : Int), (0 : Int)) = p) (br (decide (c < (0 : Int))) ((-z.fst, z.snd) = p) ((z.fst, z.snd) = p)))) := fun h0 z ok => ⟨by decide, br_i (fun g => (let s := stripI_step (e := z.2) ok.1 (eq_of_beq g); ⟨by decide, by decide, rfl, ⟨s.2.1, s.1.symm.trans ok.2⟩, s.2.2⟩)) fun g =>
        have y := made_tail h2 h0 ok.2 (stripI_stop ok.1 (ne_of_beq_false g))
        br_i (fun f => nomatch (if_pos (of_decide_eq_true f)).symm.trans y) fun f =>
          have y := (if_neg (of_decide_eq_false f)).symm.trans y
          br_i (fun q => Option.some.inj ((if_pos (of_decide_eq_true q)).symm.trans y)) fun q =>
            have y := Option.some.inj ((if_neg (of_decide_eq_false q)).symm.trans y)
            br_i (fun o => y ▸ congrArg (fun a => (a, z.2)) (if_pos (of_decide_eq_true o)).symm) fun o => y ▸ congrArg (fun a => (a, z.2)) (if_neg (of_decide_eq_false o)).symm⟩
      refine br_i (fun g => ⟨h1, ?_⟩) fun g => ?_
      · have m1 : made1 c e d = (rounded (absI c) (figs (absI c) - d), e + (figs (absI c) - d)) := if_pos (of_decide_eq_true g)
        have n1 : (made1 c e d).1 = rounded (absI c) (figs (absI c) - d) := congrArg Prod.fst m1
        exact br_i (fun f => (made_zero h2 (n1.trans (eq_of_beq f))).symm) fun f => have z : (made1 c e d).1 ≠ 0 := fun q => ne_of_beq_false f (n1.symm.trans q); ⟨congrArg (lpMade c e d).st m1.symm, ⟨made1_pos z, rfl⟩, tail z⟩
      · have m1 : made1 c e d = (absI c, e) := if_neg (of_decide_eq_false g)
        have n1 : (made1 c e d).1 = absI c := congrArg Prod.fst m1
        exact br_i (fun f => (made_zero h2 (n1.trans (eq_of_beq f))).symm) fun f => have z : (made1 c e d).1 ≠ 0 := fun q => ne_of_beq_false f (n1.symm.trans q); ⟨congrArg (lpMade c e d).st m1.symm, ⟨made1_pos z, rfl⟩, tail z⟩⟩) eT_is
end
section
set_option maxHeartbeats 8000000
section
variable {w : World} {mean : ExcName → Option Value} {mg mb : Str → Option Value} {t1 t2 t3 u1 u2 u3 u4 : Tok} {a b : Addr}
noncomputable def tb_made : Tb := ⟨"made", .ref 58, sigE [.I, .I, .I] fun c e d => (some (figs (absI c) - d < 400 ∧ made c e d = some ((made c e d).getD (0, 0))), .new ((made c e d).getD (0, 0))), .val (.ref 58)⟩
theorem ok_made {w : World} {mean : ExcName → Option Value} {mg mb : Str → Option Value} {D U : Nat} (hD : 3 ≤ D) (hU : 48 ≤ U) : TbOK w mean mg mb D U tb_made := TbOK.sig (by k_is) (by k_is) fun h c t e t' d t'' hp => ⟨_, _, _, made_c, hp, hD, hU⟩
theorem whole_near_c {c e : Int} :
    Con w mean mg mb 65 [.ref a] 3 48 (fun h => IsTup h a [Value.int c u1, Value.int e u2].toArray ∧ Sm c ∧ e < 400 ∧ -e < 400) (OutI (wholeNear c e)) :=
  Con.run (i := 6) (D := 2) (U := 32) (n := 40) (Q := Lp.no) (rb := [("value", .ref a)])
    (μ := [("value", .tup c e)]) (by k_is) (by k_is) rfl rfl rfl rfl
    (.cons (ok_rounded_by (by decide) (by decide)) (.cons ok_abs .nil)) (by decide) (by decide) (fun h hp => ⟨⟨rfl, rfl, ⟨_, _, _, rfl, hp.1⟩, trivial⟩, by
      show br (decide (e ≥ (0 : Int))) ((0 : Int) ≤ e ∧ e ≤ (1000000 : Int) ∧ Int.natAbs (10 : Int) < (2 : Nat) ^ (64 : Nat) ∧ IntMulOk c ((10 : Int) ^ e.toNat) ∧ c * (10 : Int) ^ e.toNat = wholeNear c e) (-e < (400 : Int) ∧ br (decide (c < (0 : Int))) (-rounded (absI c) (-e) = wholeNear c e) (rounded (absI c) (-e) = wholeNear c e))
      obtain ⟨-, sc, h1, h2⟩ := hp
      unfold wholeNear
      refine br_i (fun g => ⟨of_decide_eq_true g, by omega, by decide, Sm.mulOk sc (sm_pow h1), (if_pos (of_decide_eq_true g)).symm⟩) fun g => ?_
      rw [if_neg (of_decide_eq_false g)]
      exact ⟨h2, br_i (fun f => (if_pos (of_decide_eq_true f)).symm) fun f => (if_neg (of_decide_eq_false f)).symm⟩⟩) eI_is
noncomputable def tb_whole_near : Tb := ⟨"whole_near", .ref 65, sigE [.P] fun c e => (some (Sm c ∧ e < 400 ∧ -e < 400), .int (wholeNear c e)), .val (.ref 65)⟩
theorem ok_whole_near {w : World} {mean : ExcName → Option Value} {mg mb : Str → Option Value} {D U : Nat} (hD : 3 ≤ D) (hU : 48 ≤ U) : TbOK w mean mg mb D U tb_whole_near := TbOK.sig (by k_is) (by k_is) fun h c e a t u i hp => ⟨_, _, _, whole_near_c, ⟨i, hp⟩, hD, hU⟩
theorem fits_c {n b : Int} :
    Con w mean mg mb 72 [.int n t1, .int b t2] 1 16 (fun _ => 1 ≤ b ∧ b ≤ 64) (OutB (fitsB n b)) :=
  Con.run (i := 7) (D := 0) (U := 0) (n := 40) (Q := Lp.no) (rb := [("bits", .int b t2), ("number", .int n t1)])
    (μ := [("bits", .int b), ("number", .int n)]) (by k_is) (by k_is) rfl rfl rfl rfl
    (.nil) (by decide) (by decide) (fun h hp => ⟨⟨rfl, rfl, ⟨_, rfl⟩, rfl, rfl, ⟨_, rfl⟩, trivial⟩, by
      show (0 : Int) ≤ b - (1 : Int) ∧ b - (1 : Int) ≤ (1000000 : Int) ∧ Int.natAbs (1 : Int) < (2 : Nat) ^ (64 : Nat) ∧ (0 : Int) ≤ b - (1 : Int) ∧ b - (1 : Int) ≤ (1000000 : Int) ∧ Int.natAbs (1 : Int) < (2 : Nat) ^ (64 : Nat) ∧ (decide (-((1 : Int) * (2 : Int) ^ (b - (1 : Int)).toNat) ≤ n) && decide (n < (1 : Int) * (2 : Int) ^ (b - (1 : Int)).toNat)) = fitsB n b
      have hp : 1 ≤ b ∧ b ≤ 64 := hp
      have h1 : 0 ≤ b - 1 := by omega
      have h2 : b - 1 ≤ 1000000 := by omega
      refine ⟨h1, h2, by decide, h1, h2, by decide, ?_⟩
      unfold fitsB
      rw [Int.one_mul]
      exact (Bool.decide_and _ _).symm⟩) eB_is
end
end
section
set_option maxHeartbeats 8000000
section
variable {w : World} {mean : ExcName → Option Value} {mg mb : Str → Option Value} {t1 t2 t3 u1 u2 u3 u4 : Tok} {a b : Addr}
noncomputable def tb_fits : Tb := ⟨"fits", .ref 72, sigE [.I, .I] fun n b => (some (1 ≤ b ∧ b ≤ 64), .bool (fitsB n b)), .val (.ref 72)⟩
theorem ok_fits {w : World} {mean : ExcName → Option Value} {mg mb : Str → Option Value} {D U : Nat} (hD : 1 ≤ D) (hU : 16 ≤ U) : TbOK w mean mg mb D U tb_fits := TbOK.sig (by k_is) (by k_is) fun h n t b t' hp => ⟨_, _, _, fits_c, hp, hD, hU⟩
theorem whole_of_ci {n b : Int} :
    Con w mean mg mb 79 [.int n t1, .int b t2] 4 64 (fun _ => 1 ≤ b ∧ b ≤ 64 ∧ fitsB n b = true) (OutI n) :=
  Con.run (i := 8) (D := 3) (U := 48) (n := 40) (Q := Lp.no) (rb := [("bits", .int b t2), ("value", .int n t1)])
    (μ := [("bits", .int b), ("value", .int n)]) (by k_is) (by k_is) rfl rfl rfl rfl
    (.cons ok_isi (.cons ok_str (.cons ok_tuple (.cons (ok_fits (by decide) (by decide)) .nil)))) (by decide) (by decide) (fun h hp => ⟨⟨rfl, rfl, ⟨_, rfl⟩, rfl, rfl, ⟨_, rfl⟩, trivial⟩, by
      show ((1 : Int) ≤ b ∧ b ≤ (64 : Int)) ∧ br (!fitsB n b) False (n = n)
      exact ⟨⟨hp.1, hp.2.1⟩, br_f (congrArg Bool.not hp.2.2) rfl⟩⟩) eI_is
theorem whole_of_ct {c e b : Int} :
    Con w mean mg mb 79 [.ref a, .int b t2] 4 64 (fun h => IsTup h a [Value.int c u1, Value.int e u2].toArray ∧ Sm c ∧ e < 400 ∧ -e < 400 ∧ 1 ≤ b ∧ b ≤ 64 ∧ fitsB (wholeNear c e) b = true) (OutI (wholeNear c e)) :=
  Con.run (i := 8) (D := 3) (U := 48) (n := 40) (Q := Lp.no) (rb := [("bits", .int b t2), ("value", .ref a)])
    (μ := [("bits", .int b), ("value", .tup c e)]) (by k_is) (by k_is) rfl rfl rfl rfl
    (.cons ok_isi (.cons ok_str (.cons ok_tuple (.cons (ok_whole_near (by decide) (by decide)) (.cons (ok_fits (by decide) (by decide)) .nil))))) (by decide) (by decide) (fun h hp => ⟨⟨rfl, rfl, ⟨_, rfl⟩, rfl, rfl, ⟨_, _, _, rfl, hp.1⟩, trivial⟩, by
      show (Sm c ∧ e < (400 : Int) ∧ -e < (400 : Int)) ∧ ((1 : Int) ≤ b ∧ b ≤ (64 : Int)) ∧ br (!fitsB (wholeNear c e) b) False (wholeNear c e = wholeNear c e)
      exact ⟨⟨hp.2.1, hp.2.2.1, hp.2.2.2.1⟩, ⟨hp.2.2.2.2.1, hp.2.2.2.2.2.1⟩, br_f (congrArg Bool.not hp.2.2.2.2.2.2) rfl⟩⟩) eI_is
theorem decimal_of_ci {n d : Int} {p : Int × Int} :
    Con w mean mg mb 86 [.int n t1, .int d t2] 4 64 (fun _ => figs (absI n) - d < 400 ∧ made n 0 d = some p) (OutT p) :=
  Con.run (i := 9) (D := 3) (U := 48) (n := 40) (Q := Lp.no) (rb := [("digits", .int d t2), ("value", .int n t1)])
    (μ := [("digits", .int d), ("value", .int n)]) (by k_is) (by k_is) rfl rfl rfl rfl
    (.cons ok_isi (.cons ok_str (.cons ok_tuple (.cons (ok_made (by decide) (by decide)) .nil)))) (by decide) (by decide) (fun h hp => ⟨⟨rfl, rfl, ⟨_, rfl⟩, rfl, rfl, ⟨_, rfl⟩, trivial⟩, by
      show (figs (absI n) - d < (400 : Int) ∧ made n (0 : Int) d = some ((made n (0 : Int) d).getD ((0 : Int), (0 : Int)))) ∧ (made n (0 : Int) d).getD ((0 : Int), (0 : Int)) = p
      exact ⟨⟨hp.1, gd1 hp.2⟩, gd2 hp.2⟩⟩) eT_is
theorem decimal_of_ct {c e d : Int} {p : Int × Int} :
    Con w mean mg mb 86 [.ref a, .int d t2] 4 64 (fun h => IsTup h a [Value.int c u1, Value.int e u2].toArray ∧ figs (absI c) - d < 400 ∧ made c e d = some p) (OutT p) :=
  Con.run (i := 9) (D := 3) (U := 48) (n := 40) (Q := Lp.no) (rb := [("digits", .int d t2), ("value", .ref a)])
    (μ := [("digits", .int d), ("value", .tup c e)]) (by k_is) (by k_is) rfl rfl rfl rfl
    (.cons ok_isi (.cons ok_str (.cons ok_tuple (.cons (ok_made (by decide) (by decide)) .nil)))) (by decide) (by decide) (fun h hp => ⟨⟨rfl, rfl, ⟨_, rfl⟩, rfl, rfl, ⟨_, _, _, rfl, hp.1⟩, trivial⟩, by
      show (figs (absI c) - d < (400 : Int) ∧ made c e d = some ((made c e d).getD ((0 : Int), (0 : Int)))) ∧ (made c e d).getD ((0 : Int), (0 : Int)) = p
      exact ⟨⟨hp.2.1, gd1 hp.2.2⟩, gd2 hp.2.2⟩⟩) eT_is
theorem d_negated_c {c e : Int} :
    Con w mean mg mb 94 [.ref a] 1 16 (fun h => IsTup h a [Value.int c u1, Value.int e u2].toArray) (OutT (0 - c, e)) :=
  Con.run (i := 13) (D := 0) (U := 0) (n := 40) (Q := Lp.no) (rb := [("a", .ref a)])
    (μ := [("a", .tup c e)]) (by k_is) (by k_is) rfl rfl rfl rfl
    (.nil) (by decide) (by decide) (fun h hp => ⟨⟨rfl, rfl, ⟨_, _, _, rfl, hp⟩, trivial⟩, by
      show ((0 : Int) - c, e) = ((0 : Int) - c, e)
      rfl⟩) eT_is
noncomputable def tb_d_negated : Tb := ⟨"d_negated", .ref 94, sigE [.P] fun c e => (none, .new (0 - c, e)), .val (.ref 94)⟩
theorem ok_d_negated {w : World} {mean : ExcName → Option Value} {mg mb : Str → Option Value} {D U : Nat} (hD : 1 ≤ D) (hU : 16 ≤ U) : TbOK w mean mg mb D U tb_d_negated := TbOK.sig (by k_is) (by k_is) fun h c e a t u i _ => ⟨_, _, _, d_negated_c, i, hD, hU⟩
theorem alike_c {c1 e1 c2 e2 : Int} :
    Con w mean mg mb 101 [.ref a, .ref b] 1 16 (fun h => IsTup h a [Value.int c1 u1, Value.int e1 u2].toArray ∧ IsTup h b [Value.int c2 u3, Value.int e2 u4].toArray ∧ Sm c1 ∧ Sm c2 ∧ e1 - e2 < 400 ∧ e2 - e1 < 400) (OutT3 (alike c1 e1 c2 e2)) :=
  Con.run (i := 14) (D := 0) (U := 0) (n := 40) (Q := Lp.no) (rb := [("b", .ref b), ("a", .ref a)])
    (μ := [("b", .tup c2 e2), ("a", .tup c1 e1)]) (by k_is) (by k_is) rfl rfl rfl rfl
    (.cons ok_min .nil) (by decide) (by decide) (fun h hp => ⟨⟨rfl, rfl, ⟨_, _, _, rfl, hp.2.1⟩, rfl, rfl, ⟨_, _, _, rfl, hp.1⟩, trivial⟩, by
      show (0 : Int) ≤ e1 - min e1 e2 ∧ e1 - min e1 e2 ≤ (1000000 : Int) ∧ Int.natAbs (10 : Int) < (2 : Nat) ^ (64 : Nat) ∧ IntMulOk c1 ((10 : Int) ^ (e1 - min e1 e2).toNat) ∧ (0 : Int) ≤ e2 - min e1 e2 ∧ e2 - min e1 e2 ≤ (1000000 : Int) ∧ Int.natAbs (10 : Int) < (2 : Nat) ^ (64 : Nat) ∧ IntMulOk c2 ((10 : Int) ^ (e2 - min e1 e2).toNat) ∧ (c1 * (10 : Int) ^ (e1 - min e1 e2).toNat, c2 * (10 : Int) ^ (e2 - min e1 e2).toNat, min e1 e2) = alike c1 e1 c2 e2
      obtain ⟨-, -, s1, s2, h1, h2⟩ := hp
      have a := min_lo h1
      have b := min_hi h2
      exact ⟨a.1, a.2.1, by decide, Sm.mulOk s1 (sm_pow a.2.2), b.1, b.2.1, by decide, Sm.mulOk s2 (sm_pow b.2.2), rfl⟩⟩) eT3_is
noncomputable def tb_alike : Tb := ⟨"alike", .ref 101, sigE [.P, .P] fun c1 e1 c2 e2 => (some (Sm c1 ∧ Sm c2 ∧ e1 - e2 < 400 ∧ e2 - e1 < 400), .new3 (alike c1 e1 c2 e2)), .val (.ref 101)⟩
theorem ok_alike {w : World} {mean : ExcName → Option Value} {mg mb : Str → Option Value} {D U : Nat} (hD : 1 ≤ D) (hU : 16 ≤ U) : TbOK w mean mg mb D U tb_alike := TbOK.sig (by k_is) (by k_is) fun h c1 e1 a t u i c2 e2 a' t' u' i' hp => ⟨_, _, _, alike_c, ⟨i, i', hp⟩, hD, hU⟩
theorem with_rest_c {n r e : Int} :
    Con w mean mg mb 129 [.int n t1, .int r t2, .int e t3] 1 16 (fun _ => True) (OutT (withRest n r e)) :=
  Con.run (i := 18) (D := 0) (U := 0) (n := 40) (Q := Lp.no) (rb := [("exponent", .int e t3), ("rest", .int r t2), ("whole", .int n t1)])
    (μ := [("exponent", .int e), ("rest", .int r), ("whole", .int n)]) (by k_is) (by k_is) rfl rfl rfl rfl
    (.nil) (by decide) (by decide) (fun h hp => ⟨⟨rfl, rfl, ⟨_, rfl⟩, rfl, rfl, ⟨_, rfl⟩, rfl, rfl, ⟨_, rfl⟩, trivial⟩, by
      show br (r == (0 : Int)) ((n, e) = withRest n r e) (IntMulOk n (10 : Int) ∧ (n * (10 : Int) + (1 : Int), e - (1 : Int)) = withRest n r e)
      exact br_i (fun g => (if_pos (eq_of_beq g)).symm) fun g => ⟨by mul_fits, (if_neg (ne_of_beq_false g)).symm⟩⟩) eT_is
end
end
section
set_option maxHeartbeats 8000000
section
variable {w : World} {mean : ExcName → Option Value} {mg mb : Str → Option Value} {t1 t2 t3 u1 u2 u3 u4 : Tok} {a b : Addr}
noncomputable def tb_with_rest : Tb := ⟨"with_rest", .ref 129, sigE [.I, .I, .I] fun n r e => (none, .new (withRest n r e)), .val (.ref 129)⟩
theorem ok_with_rest {w : World} {mean : ExcName → Option Value} {mg mb : Str → Option Value} {D U : Nat} (hD : 1 ≤ D) (hU : 16 ≤ U) : TbOK w mean mg mb D U tb_with_rest := TbOK.sig (by k_is) (by k_is) fun h n t r t' e t'' _ => ⟨_, _, _, with_rest_c, trivial, hD, hU⟩
theorem d_add_c {c1 e1 c2 e2 d : Int} {p : Int × Int} :
    Con w mean mg mb 108 [.ref a, .ref b, .int d t1] 4 64 (fun h => IsTup h a [Value.int c1 u1, Value.int e1 u2].toArray ∧ IsTup h b [Value.int c2 u3, Value.int e2 u4].toArray ∧ Sm c1 ∧ Sm c2 ∧ e1 - e2 < 400 ∧ e2 - e1 < 400 ∧
      figs (absI ((alike c1 e1 c2 e2).1 + (alike c1 e1 c2 e2).2.1)) - d < 400 ∧ dAdd c1 e1 c2 e2 d = some p) (OutT p) :=
  Con.run (i := 15) (D := 3) (U := 48) (n := 40) (Q := Lp.no) (rb := [("digits", .int d t1), ("b", .ref b), ("a", .ref a)])
    (μ := [("digits", .int d), ("b", .tup c2 e2), ("a", .tup c1 e1)]) (by k_is) (by k_is) rfl rfl rfl rfl
    (.cons (ok_alike (by decide) (by decide)) (.cons (ok_made (by decide) (by decide)) .nil)) (by decide) (by decide) (fun h hp => ⟨⟨rfl, rfl, ⟨_, rfl⟩, rfl, rfl, ⟨_, _, _, rfl, hp.2.1⟩, rfl, rfl, ⟨_, _, _, rfl, hp.1⟩, trivial⟩, by
      show (Sm c1 ∧ Sm c2 ∧ e1 - e2 < (400 : Int) ∧ e2 - e1 < (400 : Int)) ∧ (figs (absI ((alike c1 e1 c2 e2).fst + (alike c1 e1 c2 e2).snd.fst)) - d < (400 : Int) ∧ made ((alike c1 e1 c2 e2).fst + (alike c1 e1 c2 e2).snd.fst) (alike c1 e1 c2 e2).snd.snd d = some ((made ((alike c1 e1 c2 e2).fst + (alike c1 e1 c2 e2).snd.fst) (alike c1 e1 c2 e2).snd.snd d).getD ((0 : Int), (0 : Int)))) ∧ (made ((alike c1 e1 c2 e2).fst + (alike c1 e1 c2 e2).snd.fst) (alike c1 e1 c2 e2).snd.snd d).getD ((0 : Int), (0 : Int)) = p
      exact ⟨⟨hp.2.2.1, hp.2.2.2.1, hp.2.2.2.2.1, hp.2.2.2.2.2.1⟩, ⟨hp.2.2.2.2.2.2.1, gd1 hp.2.2.2.2.2.2.2⟩, gd2 hp.2.2.2.2.2.2.2⟩⟩) eT_is
noncomputable def tb_d_addP : Tb := ⟨"d_add", .ref 108, sigE [.P, .P, .I] fun c1 e1 c2 e2 d => (some (Sm c1 ∧ Sm c2 ∧ e1 - e2 < 400 ∧ e2 - e1 < 400 ∧ figs (absI ((alike c1 e1 c2 e2).1 + (alike c1 e1 c2 e2).2.1)) - d < 400 ∧ dAdd c1 e1 c2 e2 d = some ((dAdd c1 e1 c2 e2 d).getD (0, 0))), .new ((dAdd c1 e1 c2 e2 d).getD (0, 0))), .val (.ref 108)⟩
theorem ok_d_addP {w : World} {mean : ExcName → Option Value} {mg mb : Str → Option Value} {D U : Nat} (hD : 4 ≤ D) (hU : 64 ≤ U) : TbOK w mean mg mb D U tb_d_addP := TbOK.sig (by k_is) (by k_is) fun h c1 e1 a t u i c2 e2 a' t' u' i' d t'' hp => ⟨_, _, _, d_add_c, ⟨i, i', hp⟩, hD, hU⟩
theorem d_sub_c {c1 e1 c2 e2 d : Int} {p : Int × Int} :
    Con w mean mg mb 115 [.ref a, .ref b, .int d t1] 5 80 (fun h => IsTup h a [Value.int c1 u1, Value.int e1 u2].toArray ∧ IsTup h b [Value.int c2 u3, Value.int e2 u4].toArray ∧ Sm c1 ∧ Sm (0 - c2) ∧ e1 - e2 < 400 ∧ e2 - e1 < 400 ∧
      figs (absI ((alike c1 e1 (0 - c2) e2).1 + (alike c1 e1 (0 - c2) e2).2.1)) - d < 400 ∧ dAdd c1 e1 (0 - c2) e2 d = some p) (OutT p) :=
  Con.run (i := 16) (D := 4) (U := 64) (n := 40) (Q := Lp.no) (rb := [("digits", .int d t1), ("b", .ref b), ("a", .ref a)])
    (μ := [("digits", .int d), ("b", .tup c2 e2), ("a", .tup c1 e1)]) (by k_is) (by k_is) rfl rfl rfl rfl
    (.cons (ok_d_addP (by decide) (by decide)) (.cons (ok_d_negated (by decide) (by decide)) .nil)) (by decide) (by decide) (fun h hp => ⟨⟨rfl, rfl, ⟨_, rfl⟩, rfl, rfl, ⟨_, _, _, rfl, hp.2.1⟩, rfl, rfl, ⟨_, _, _, rfl, hp.1⟩, trivial⟩, by
      show (Sm c1 ∧ Sm ((0 : Int) - c2) ∧ e1 - e2 < (400 : Int) ∧ e2 - e1 < (400 : Int) ∧ figs (absI ((alike c1 e1 ((0 : Int) - c2) e2).fst + (alike c1 e1 ((0 : Int) - c2) e2).snd.fst)) - d < (400 : Int) ∧ dAdd c1 e1 ((0 : Int) - c2) e2 d = some ((dAdd c1 e1 ((0 : Int) - c2) e2 d).getD ((0 : Int), (0 : Int)))) ∧ (dAdd c1 e1 ((0 : Int) - c2) e2 d).getD ((0 : Int), (0 : Int)) = p
      exact ⟨⟨hp.2.2.1, hp.2.2.2.1, hp.2.2.2.2.1, hp.2.2.2.2.2.1, hp.2.2.2.2.2.2.1, gd1 hp.2.2.2.2.2.2.2⟩, gd2 hp.2.2.2.2.2.2.2⟩⟩) eT_is
theorem d_mul_c {c1 e1 c2 e2 d : Int} {p : Int × Int} :
    Con w mean mg mb 122 [.ref a, .ref b, .int d t1] 4 64 (fun h => IsTup h a [Value.int c1 u1, Value.int e1 u2].toArray ∧ IsTup h b [Value.int c2 u3, Value.int e2 u4].toArray ∧ Sm c1 ∧ Sm c2 ∧
      figs (absI (c1 * c2)) - d < 400 ∧ made (c1 * c2) (e1 + e2) d = some p) (OutT p) :=
  Con.run (i := 17) (D := 3) (U := 48) (n := 40) (Q := Lp.no) (rb := [("digits", .int d t1), ("b", .ref b), ("a", .ref a)])
    (μ := [("digits", .int d), ("b", .tup c2 e2), ("a", .tup c1 e1)]) (by k_is) (by k_is) rfl rfl rfl rfl
    (.cons (ok_made (by decide) (by decide)) .nil) (by decide) (by decide) (fun h hp => ⟨⟨rfl, rfl, ⟨_, rfl⟩, rfl, rfl, ⟨_, _, _, rfl, hp.2.1⟩, rfl, rfl, ⟨_, _, _, rfl, hp.1⟩, trivial⟩, by
      show IntMulOk c1 c2 ∧ (figs (absI (c1 * c2)) - d < (400 : Int) ∧ made (c1 * c2) (e1 + e2) d = some ((made (c1 * c2) (e1 + e2) d).getD ((0 : Int), (0 : Int)))) ∧ (made (c1 * c2) (e1 + e2) d).getD ((0 : Int), (0 : Int)) = p
      exact ⟨Sm.mulOk hp.2.2.1 hp.2.2.2.1, ⟨hp.2.2.2.2.1, gd1 hp.2.2.2.2.2⟩, gd2 hp.2.2.2.2.2⟩⟩) eT_is
noncomputable def tb_d_mulP : Tb := ⟨"d_mul", .ref 122, sigE [.P, .P, .I] fun c1 e1 c2 e2 d => (some (Sm c1 ∧ Sm c2 ∧ figs (absI (c1 * c2)) - d < 400 ∧ made (c1 * c2) (e1 + e2) d = some ((made (c1 * c2) (e1 + e2) d).getD (0, 0))), .new ((made (c1 * c2) (e1 + e2) d).getD (0, 0))), .val (.ref 122)⟩
theorem ok_d_mulP {w : World} {mean : ExcName → Option Value} {mg mb : Str → Option Value} {D U : Nat} (hD : 4 ≤ D) (hU : 64 ≤ U) : TbOK w mean mg mb D U tb_d_mulP := TbOK.sig (by k_is) (by k_is) fun h c1 e1 a t u i c2 e2 a' t' u' i' d t'' hp => ⟨_, _, _, d_mul_c, ⟨i, i', hp⟩, hD, hU⟩
theorem d_div_c {c1 e1 c2 e2 d : Int} {p : Int × Int} :
    Con w mean mg mb 136 [.ref a, .ref b, .int d t1] 4 64 (fun h => IsTup h a [Value.int c1 u1, Value.int e1 u2].toArray ∧ IsTup h b [Value.int c2 u3, Value.int e2 u4].toArray ∧ c2 ≠ 0 ∧ Sm (absI c1) ∧ Sm (absI c2) ∧ absI c2 ≠ 0 ∧ 0 ≤ divPlaces c1 c2 d ∧ divPlaces c1 c2 d < 400 ∧
      figs (absI (divC c1 e1 c2 e2 d)) - d < 400 ∧ made (divC c1 e1 c2 e2 d) (divQ c1 e1 c2 e2 d).2 d = some p) (OutT p) :=
  Con.run (i := 19) (D := 3) (U := 48) (n := 40) (Q := Lp.no) (rb := [("digits", .int d t1), ("b", .ref b), ("a", .ref a)])
    (μ := [("digits", .int d), ("b", .tup c2 e2), ("a", .tup c1 e1)]) (by k_is) (by k_is) rfl rfl rfl rfl
    (.cons ok_abs (.cons ok_max (.cons (ok_figures_of (by decide) (by decide)) (.cons (ok_with_rest (by decide) (by decide)) (.cons (ok_made (by decide) (by decide)) .nil))))) (by decide) (by decide) (fun h hp => ⟨⟨rfl, rfl, ⟨_, rfl⟩, rfl, rfl, ⟨_, _, _, rfl, hp.2.1⟩, rfl, rfl, ⟨_, _, _, rfl, hp.1⟩, trivial⟩, by
      show br (c2 == (0 : Int)) False ((0 : Int) ≤ divPlaces c1 c2 d ∧ divPlaces c1 c2 d ≤ (1000000 : Int) ∧ Int.natAbs (10 : Int) < (2 : Nat) ^ (64 : Nat) ∧ IntMulOk (absI c1) ((10 : Int) ^ (divPlaces c1 c2 d).toNat) ∧ absI c2 ≠ (0 : Int) ∧ (absI c2).natAbs.log2 < (9000 : Nat) ∧ absI c2 ≠ (0 : Int) ∧ br (decide (c1 < (0 : Int)) == decide (c2 < (0 : Int))) ((figs (absI (divQ c1 e1 c2 e2 d).fst) - d < (400 : Int) ∧ made (divQ c1 e1 c2 e2 d).fst (divQ c1 e1 c2 e2 d).snd d = some ((made (divQ c1 e1 c2 e2 d).fst (divQ c1 e1 c2 e2 d).snd d).getD ((0 : Int), (0 : Int)))) ∧ (made (divQ c1 e1 c2 e2 d).fst (divQ c1 e1 c2 e2 d).snd d).getD ((0 : Int), (0 : Int)) = p) ((figs (absI ((0 : Int) - (divQ c1 e1 c2 e2 d).fst)) - d < (400 : Int) ∧ made ((0 : Int) - (divQ c1 e1 c2 e2 d).fst) (divQ c1 e1 c2 e2 d).snd d = some ((made ((0 : Int) - (divQ c1 e1 c2 e2 d).fst) (divQ c1 e1 c2 e2 d).snd d).getD ((0 : Int), (0 : Int)))) ∧ (made ((0 : Int) - (divQ c1 e1 c2 e2 d).fst) (divQ c1 e1 c2 e2 d).snd d).getD ((0 : Int), (0 : Int)) = p))
      obtain ⟨-, -, a1, a2, a3, a4, a5, a6, a7, a8⟩ := hp
      unfold divC at a7 a8
      refine br_f (beq_eq_false_iff_ne.mpr a1) ⟨a5, Int.le_trans (Int.le_of_lt a6) (by decide), by decide, Sm.mulOk a2 (sm_pow a6), a4, a3.log2, a4, br_i (fun g => ?_) fun g => ?_⟩
      · rw [if_pos g] at a7 a8; exact ⟨⟨a7, gd1 a8⟩, gd2 a8⟩
      · rw [if_neg (ne_true_of_eq_false g)] at a7 a8; exact ⟨⟨a7, gd1 a8⟩, gd2 a8⟩⟩) eT_is
theorem d_compare_c {c1 e1 c2 e2 : Int} :
    Con w mean mg mb 143 [.ref a, .ref b] 4 64 (fun h => IsTup h a [Value.int c1 u1, Value.int e1 u2].toArray ∧ IsTup h b [Value.int c2 u3, Value.int e2 u4].toArray ∧ Sm c1 ∧ Sm c2 ∧ e1 - e2 < 400 ∧ e2 - e1 < 400) (OutI (dCompare c1 e1 c2 e2)) :=
  Con.run (i := 20) (D := 3) (U := 48) (n := 40) (Q := Lp.no) (rb := [("b", .ref b), ("a", .ref a)])
    (μ := [("b", .tup c2 e2), ("a", .tup c1 e1)]) (by k_is) (by k_is) rfl rfl rfl rfl
    (.cons (ok_alike (by decide) (by decide)) .nil) (by decide) (by decide) (fun h hp => ⟨⟨rfl, rfl, ⟨_, _, _, rfl, hp.2.1⟩, rfl, rfl, ⟨_, _, _, rfl, hp.1⟩, trivial⟩, by
      show (Sm c1 ∧ Sm c2 ∧ e1 - e2 < (400 : Int) ∧ e2 - e1 < (400 : Int)) ∧ b2i (decide ((alike c1 e1 c2 e2).fst > (alike c1 e1 c2 e2).snd.fst)) - b2i (decide ((alike c1 e1 c2 e2).fst < (alike c1 e1 c2 e2).snd.fst)) = dCompare c1 e1 c2 e2
      exact ⟨hp.2.2, cmp_b2i _ _⟩⟩) eI_is
theorem square_c {c e d : Int} {p : Int × Int} :
    Con w mean mg mb 157 [.ref a, .int d t1] 5 80 (fun h => IsTup h a [Value.int c u1, Value.int e u2].toArray ∧ Sm c ∧ 
      figs (absI (c * c)) - d < 400 ∧ made (c * c) (e + e) d = some p) (OutT p) :=
  Con.run (i := 22) (D := 4) (U := 64) (n := 40) (Q := Lp.no) (rb := [("work", .int d t1), ("a", .ref a)])
    (μ := [("work", .int d), ("a", .tup c e)]) (by k_is) (by k_is) rfl rfl rfl rfl
    (.cons (ok_d_mulP (by decide) (by decide)) .nil) (by decide) (by decide) (fun h hp => ⟨⟨rfl, rfl, ⟨_, rfl⟩, rfl, rfl, ⟨_, _, _, rfl, hp.1⟩, trivial⟩, by
      show (Sm c ∧ Sm c ∧ figs (absI (c * c)) - d < (400 : Int) ∧ made (c * c) (e + e) d = some ((made (c * c) (e + e) d).getD ((0 : Int), (0 : Int)))) ∧ (made (c * c) (e + e) d).getD ((0 : Int), (0 : Int)) = p
      exact ⟨⟨hp.2.1, hp.2.1, hp.2.2.1, gd1 hp.2.2.2⟩, gd2 hp.2.2.2⟩⟩) eT_is
end
end
section
set_option maxHeartbeats 8000000
section
variable {w : World} {mean : ExcName → Option Value} {mg mb : Str → Option Value} {s : Shared} {Q E : Value → Shared → Prop} {f : Addr} {vs : List Value} {d u d' u' : Nat} {pre pre' : Heap → Prop} {Out Out' : Heap → Heap → Value → Prop} {h₀ : Heap} {L : Addr} {m : Str → Option Value} {news : List (Addr × Obj)} {dp un : Nat} {fr : Option (List Env)} {gd : Option (List Code)}
theorem Con.mono (C : Con w mean mg mb f vs d u pre Out) (hp : ∀ h, pre' h → pre h) (ho : ∀ h h' r, Out h h' r → Out' h h' r) (hd : d ≤ d') (hu : u ≤ u') : Con w mean mg mb f vs d' u' pre' Out' :=
  fun dp un fr gd s Q E X T p hd' hu' k => C dp un fr gd s Q E X T (hp _ p) (Nat.lt_of_le_of_lt (Nat.add_le_add_left hd dp) hd') (Nat.lt_of_le_of_lt (Nat.add_le_add_left hu un) hu') fun r h' tk' st o => k r h' tk' st (ho _ _ _ o)
end
theorem absI_lt {n : Int} {k : Nat} (h : n.natAbs < 10 ^ k) : absI n < 10 ^ k := by
  rw [absI_eq]
  have : (n.natAbs : Int) < ((10 ^ k : Nat) : Int) := Int.ofNat_lt.mpr h
  simpa using this
theorem figs_small {n : Int} (h : n.natAbs < 10 ^ 29) : figs (absI n) ≤ 29 := figs_le_of_lt (by decide) (absI_lt h)
theorem made_int {n d : Int} (hd : 30 ≤ d) (h : n.natAbs < 10 ^ 29) : made n 0 d = some (lawDec n) := by
  have := made_whole (c := n) (e := 0) hd (by simpa using h)
  simpa using this
theorem made_dec {n d : Int} (hd : 30 ≤ d) (h : n.natAbs < 10 ^ 29) : made (lawDec n).1 (lawDec n).2 d = some (lawDec n) := by
  obtain ⟨t, e1, e2⟩ := lawDec_worth n
  have := made_whole (c := (lawDec n).1) (e := t) hd (by rw [e2]; exact h)
  rw [e2] at this
  rw [e1]; exact this
theorem lawDec_lt {n : Int} {k : Nat} (h : n.natAbs < 10 ^ k) : (lawDec n).1.natAbs < 10 ^ k := Nat.lt_of_le_of_lt (lawDec_le n) h
theorem wholeNear_dec (n : Int) : wholeNear (lawDec n).1 (lawDec n).2 = n := by
  obtain ⟨t, e1, e2⟩ := lawDec_worth n
  unfold wholeNear
  rw [e1, if_pos (by omega), Int.toNat_natCast, e2]
theorem sm_of {n : Int} (h : n.natAbs < 10 ^ 29) : Sm n := Sm.le (k := 29) (Nat.le_of_lt h) (by decide)
section
variable {w : World} {mean : ExcName → Option Value} {mg mb : Str → Option Value} {t1 t2 t3 u1 u2 u3 u4 : Tok} {a b : Addr}
theorem decimal_of_v {k : Bool} {n d : Int} {v : Value} :
    Con w mean mg mb 86 [v, .int d t2] 4 64 (fun h => isV h k n v ∧ n.natAbs < 10 ^ 29 ∧ 30 ≤ d) (OutT (lawDec n)) := by
  intro dp un fr gd s Q E X T ⟨hv, hn, hd⟩ h1 h2 hret
  cases k with
  | false =>
    obtain ⟨t, rfl⟩ := hv
    exact decimal_of_ci dp un fr gd s Q E X T ⟨by have := figs_small hn; omega, made_int hd hn⟩ h1 h2 hret
  | true =>
    obtain ⟨a, t, u, rfl, i⟩ := hv
    exact decimal_of_ct dp un fr gd s Q E X T ⟨i, by have := figs_small (lawDec_lt hn); omega, made_dec hd hn⟩ h1 h2 hret
theorem whole_of_v {k : Bool} {n b : Int} {v : Value} :
    Con w mean mg mb 79 [v, .int b t2] 4 64 (fun h => isV h k n v ∧ n.natAbs < 10 ^ 29 ∧ 1 ≤ b ∧ b ≤ 64 ∧ fitsB n b = true) (OutI n) := by
  intro dp un fr gd s Q E X T ⟨hv, hn, hb1, hb2, hf⟩ h1 h2 hret
  cases k with
  | false =>
    obtain ⟨t, rfl⟩ := hv
    exact whole_of_ci dp un fr gd s Q E X T ⟨hb1, hb2, hf⟩ h1 h2 hret
  | true =>
    obtain ⟨a, t, u, rfl, i⟩ := hv
    have e := wholeNear_dec n
    refine whole_of_ct dp un fr gd s Q E X T ⟨i, sm_of (lawDec_lt hn), ?_, ?_, hb1, hb2, by rw [e]; exact hf⟩ h1 h2 (by rw [e]; exact hret)
    · have := lawDec_exp hn; omega
    · obtain ⟨t, e1, _⟩ := lawDec_worth n; omega
end
end
section
set_option maxHeartbeats 8000000
section
variable {w : World} {mean : ExcName → Option Value} {mg mb : Str → Option Value} {t1 t2 t3 t4 u1 u2 u3 u4 : Tok} {a b : Addr}
theorem is_whole_ci {n : Int} : Con w mean mg mb 164 [.int n t1] 1 16 (fun _ => True) (OutB true) :=
  Con.run (i := 24) (D := 0) (U := 0) (n := 40) (Q := Lp.no) (rb := [("value", .int n t1)])
    (μ := [("value", .int n)]) (by k_is) (by k_is) rfl rfl rfl rfl
    (.cons ok_isi (.cons ok_str (.cons ok_tuple .nil))) (by decide) (by decide) (fun h hp => ⟨⟨rfl, rfl, ⟨_, rfl⟩, trivial⟩, by
      show (!false) = true
      rfl⟩) eB_is
theorem is_whole_ct {c e : Int} : Con w mean mg mb 164 [.ref a] 1 16 (fun h => IsTup h a [Value.int c u1, Value.int e u2].toArray) (OutB false) :=
  Con.run (i := 24) (D := 0) (U := 0) (n := 40) (Q := Lp.no) (rb := [("value", .ref a)])
    (μ := [("value", .tup c e)]) (by k_is) (by k_is) rfl rfl rfl rfl
    (.cons ok_isi (.cons ok_str (.cons ok_tuple .nil))) (by decide) (by decide) (fun h hp => ⟨⟨rfl, rfl, ⟨_, _, _, rfl, hp⟩, trivial⟩, by
      show (!true) = false
      rfl⟩) eB_is
theorem is_whole_v {k : Bool} {n : Int} {v : Value} : Con w mean mg mb 164 [v] 1 16 (fun h => isV h k n v) (OutB (!k)) := by
  intro dp un fr gd s Q E X T hv h1 h2 hret
  cases k with
  | false =>
    obtain ⟨t, rfl⟩ := hv
    exact is_whole_ci dp un fr gd s Q E X T trivial h1 h2 hret
  | true =>
    obtain ⟨a, t, u, rfl, i⟩ := hv
    exact is_whole_ct dp un fr gd s Q E X T i h1 h2 hret
noncomputable def tb_is_whole : Tb := ⟨"is_whole", .ref 164, sigE [.K] fun b => (none, .bool (!b)), .val (.ref 164)⟩
theorem ok_is_whole {w : World} {mean : ExcName → Option Value} {mg mb : Str → Option Value} {D U : Nat} (hD : 1 ≤ D) (hU : 16 ≤ U) : TbOK w mean mg mb D U tb_is_whole := TbOK.sig (by k_is) (by k_is) fun h b v hv _ => by
  cases b with
  | false => obtain ⟨n, t, rfl⟩ := hv; exact ⟨_, _, _, is_whole_ci, trivial, hD, hU⟩
  | true => obtain ⟨a, c, e, t, u, rfl, i⟩ := hv; exact ⟨_, _, _, is_whole_ct, i, hD, hU⟩
theorem settled_c {n b d : Int} : Con w mean mg mb 171 [.int n t1, .int b t2, .int d t3] 4 64 (fun _ => 1 ≤ b ∧ b ≤ 64 ∧ n.natAbs < 10 ^ 29 ∧ 30 ≤ d) (OutV (!fitsB n b) n) :=
  Con.run (i := 25) (D := 3) (U := 48) (n := 40) (Q := Lp.no) (rb := [("digits", .int d t3), ("bits", .int b t2), ("number", .int n t1)])
    (μ := [("digits", .int d), ("bits", .int b), ("number", .int n)]) (by k_is) (by k_is) rfl rfl rfl rfl
    (.cons (ok_fits (by decide) (by decide)) (.cons (ok_made (by decide) (by decide)) .nil)) (by decide) (by decide) (fun h hp => ⟨⟨rfl, rfl, ⟨_, rfl⟩, rfl, rfl, ⟨_, rfl⟩, rfl, rfl, ⟨_, rfl⟩, trivial⟩, by
      show ((1 : Int) ≤ b ∧ b ≤ (64 : Int)) ∧ br (fitsB n b) ((!fitsB n b) = false ∧ n = n) ((figs (absI n) - d < (400 : Int) ∧ made n (0 : Int) d = some ((made n (0 : Int) d).getD ((0 : Int), (0 : Int)))) ∧ (!fitsB n b) = true ∧ (made n (0 : Int) d).getD ((0 : Int), (0 : Int)) = lawDec n)
      have hm := made_int hp.2.2.2 hp.2.2.1
      exact ⟨⟨hp.1, hp.2.1⟩, br_i (fun g => ⟨congrArg Bool.not g, rfl⟩) fun g => ⟨⟨by have := figs_small hp.2.2.1; have := hp.2.2.2; omega, gd1 hm⟩, congrArg Bool.not g, gd2 hm⟩⟩⟩) eV_is
noncomputable def wholeOp (op : Str) (a b : Int) : Int := if (op == "+") = true then a + b else if (op == "-") = true then a - b else a * b
noncomputable def tb_settled : Tb := ⟨"settled", .ref 171, sigE [.I, .I, .I] fun n b d => (some (1 ≤ b ∧ b ≤ 64 ∧ n.natAbs < 10 ^ 29 ∧ 30 ≤ d), .vv (!fitsB n b) n), .val (.ref 171)⟩
theorem ok_settled {w : World} {mean : ExcName → Option Value} {mg mb : Str → Option Value} {D U : Nat} (hD : 4 ≤ D) (hU : 64 ≤ U) : TbOK w mean mg mb D U tb_settled := TbOK.sig (by k_is) (by k_is) fun h n t b t' d t'' hp => ⟨_, _, _, settled_c, hp, hD, hU⟩
theorem whole_reckoned_c {op : Str} {n m b d : Int} {t5 : Tok} : Con w mean mg mb 178 [.str op t5, .int n t1, .int m t4, .int b t2, .int d t3] 5 80 (fun _ => 1 ≤ b ∧ b ≤ 64 ∧ n.natAbs < 10 ^ 10 ∧ m.natAbs < 10 ^ 10 ∧ 30 ≤ d) (OutV (!fitsB (wholeOp op n m) b) (wholeOp op n m)) :=
  Con.run (i := 26) (D := 4) (U := 64) (n := 40) (Q := Lp.no) (rb := [("digits", .int d t3), ("bits", .int b t2), ("b", .int m t4), ("a", .int n t1), ("op", .str op t5)])
    (μ := [("digits", .int d), ("bits", .int b), ("b", .int m), ("a", .int n), ("op", .str op)]) (by k_is) (by k_is) rfl rfl rfl rfl
    (.cons (ok_settled (by decide) (by decide)) .nil) (by decide) (by decide) (fun h hp => ⟨⟨rfl, rfl, ⟨_, rfl⟩, rfl, rfl, ⟨_, rfl⟩, rfl, rfl, ⟨_, rfl⟩, rfl, rfl, ⟨_, rfl⟩, rfl, rfl, ⟨_, rfl⟩, trivial⟩, by
      show br (op == Str.ofString "+") (((1 : Int) ≤ b ∧ b ≤ (64 : Int) ∧ (n + m).natAbs < (10 : Nat) ^ (29 : Nat) ∧ (30 : Int) ≤ d) ∧ (!fitsB (n + m) b) = !fitsB (wholeOp op n m) b ∧ n + m = wholeOp op n m) (br (op == Str.ofString "-") (((1 : Int) ≤ b ∧ b ≤ (64 : Int) ∧ (n - m).natAbs < (10 : Nat) ^ (29 : Nat) ∧ (30 : Int) ≤ d) ∧ (!fitsB (n - m) b) = !fitsB (wholeOp op n m) b ∧ n - m = wholeOp op n m) (IntMulOk n m ∧ ((1 : Int) ≤ b ∧ b ≤ (64 : Int) ∧ (n * m).natAbs < (10 : Nat) ^ (29 : Nat) ∧ (30 : Int) ≤ d) ∧ (!fitsB (n * m) b) = !fitsB (wholeOp op n m) b ∧ n * m = wholeOp op n m))
      obtain ⟨a1, a2, a3, a4, a5⟩ := hp
      have go : ∀ x, x.natAbs < 10 ^ 29 → x = wholeOp op n m → (1 ≤ b ∧ b ≤ 64 ∧ x.natAbs < 10 ^ 29 ∧ 30 ≤ d) ∧ (!fitsB x b) = (!fitsB (wholeOp op n m) b) ∧ x = wholeOp op n m := fun x h e => ⟨⟨a1, a2, h, a5⟩, e ▸ rfl, e⟩
      exact br_i (fun g => go _ (add_lt a3 a4 (by decide)) (if_pos g).symm) fun g => br_i (fun f => go _ (sub_lt a3 a4 (by decide)) ((if_neg (ne_true_of_eq_false g)).trans (if_pos f)).symm) fun f =>
        ⟨Sm.mulOk (Sm.le (k := 10) (Nat.le_of_lt a3) (by decide)) (Sm.le (k := 10) (Nat.le_of_lt a4) (by decide)), go _ (Nat.lt_trans (natAbs_mul_lt a3 a4) (by decide)) ((if_neg (ne_true_of_eq_false g)).trans (if_neg (ne_true_of_eq_false f))).symm⟩⟩) eV_is
theorem cut_quotient_c {n m : Int} : Con w mean mg mb 185 [.int n t1, .int m t2] 1 16 (fun _ => m ≠ 0 ∧ absI m ≠ 0 ∧ Sm (absI m)) (OutI (cutQ n m)) :=
  Con.run (i := 27) (D := 0) (U := 0) (n := 40) (Q := Lp.no) (rb := [("b", .int m t2), ("a", .int n t1)])
    (μ := [("b", .int m), ("a", .int n)]) (by k_is) (by k_is) rfl rfl rfl rfl
    (.cons ok_abs .nil) (by decide) (by decide) (fun h hp => ⟨⟨rfl, rfl, ⟨_, rfl⟩, rfl, rfl, ⟨_, rfl⟩, trivial⟩, by
      show br (m == (0 : Int)) False (absI m ≠ (0 : Int) ∧ (absI m).natAbs.log2 < (9000 : Nat) ∧ br (decide (n < (0 : Int)) == decide (m < (0 : Int))) ((absI n).fdiv (absI m) = cutQ n m) ((0 : Int) - (absI n).fdiv (absI m) = cutQ n m))
      exact br_f (beq_eq_false_iff_ne.mpr hp.1) ⟨hp.2.1, hp.2.2.log2, br_i (fun g => (if_pos g).symm) fun g => (if_neg (ne_true_of_eq_false g)).symm⟩⟩) eI_is
noncomputable def tb_cut_quotient : Tb := ⟨"cut_quotient", .ref 185, sigE [.I, .I] fun n m => (some (m ≠ 0 ∧ absI m ≠ 0 ∧ Sm (absI m)), .int (cutQ n m)), .val (.ref 185)⟩
theorem ok_cut_quotient {w : World} {mean : ExcName → Option Value} {mg mb : Str → Option Value} {D U : Nat} (hD : 1 ≤ D) (hU : 16 ≤ U) : TbOK w mean mg mb D U tb_cut_quotient := TbOK.sig (by k_is) (by k_is) fun h n t m t' hp => ⟨_, _, _, cut_quotient_c, hp, hD, hU⟩
theorem exponent_of_ct {c e : Int} : Con w mean mg mb 199 [.ref a] 4 64 (fun h => IsTup h a [Value.int c u1, Value.int e u2].toArray ∧ Sm c ∧ e < 400 ∧ 0 ≤ e) (OutI (wholeNear c e)) :=
  Con.run (i := 29) (D := 3) (U := 48) (n := 40) (Q := Lp.no) (rb := [("value", .ref a)])
    (μ := [("value", .tup c e)]) (by k_is) (by k_is) rfl rfl rfl rfl
    (.cons (ok_is_whole (by decide) (by decide)) (.cons (ok_whole_near (by decide) (by decide)) .nil)) (by decide) (by decide) (fun h hp => ⟨⟨rfl, rfl, ⟨_, _, _, rfl, hp.1⟩, trivial⟩, by
      show br (decide (e < (0 : Int))) False ((Sm c ∧ e < (400 : Int) ∧ -e < (400 : Int)) ∧ wholeNear c e = wholeNear c e)
      exact br_f (decide_eq_false (Int.not_lt.mpr hp.2.2.2)) ⟨⟨hp.2.1, hp.2.2.1, by have := hp.2.2.2; omega⟩, rfl⟩⟩) eI_is
theorem exponent_of_ci {n : Int} : Con w mean mg mb 199 [.int n t1] 4 64 (fun _ => True) (OutI n) :=
  Con.run (i := 29) (D := 3) (U := 48) (n := 40) (Q := Lp.no) (rb := [("value", .int n t1)])
    (μ := [("value", .int n)]) (by k_is) (by k_is) rfl rfl rfl rfl
    (.cons (ok_is_whole (by decide) (by decide)) .nil) (by decide) (by decide) (fun h hp => ⟨⟨rfl, rfl, ⟨_, rfl⟩, trivial⟩, by
      show n = n
      rfl⟩) eI_is
theorem whole_power_c {n m b d : Int} : Con w mean mg mb 206 [.int n t1, .int m t4, .int b t2, .int d t3] 5 80 (fun _ => 4 ≤ b ∧ b ≤ 64 ∧ n.natAbs < 10 ^ 5 ∧ 0 ≤ m ∧ m ≤ 3 ∧ 30 ≤ d) (OutV (!fitsB (n ^ m.toNat) b) (n ^ m.toNat)) :=
  Con.run (i := 30) (D := 4) (U := 64) (n := 40) (Q := Lp.no) (rb := [("digits", .int d t3), ("bits", .int b t2), ("n", .int m t4), ("a", .int n t1)])
    (μ := [("digits", .int d), ("bits", .int b), ("n", .int m), ("a", .int n)]) (by k_is) (by k_is) rfl rfl rfl rfl
    (.cons ok_abs (.cons (ok_settled (by decide) (by decide)) .nil)) (by decide) (by decide) (fun h hp => ⟨⟨rfl, rfl, ⟨_, rfl⟩, rfl, rfl, ⟨_, rfl⟩, rfl, rfl, ⟨_, rfl⟩, rfl, rfl, ⟨_, rfl⟩, trivial⟩, by
      show br (decide (absI n < (2 : Int))) ((2 : Int) ≠ (0 : Int) ∧ br (m.fmod (2 : Int) == (1 : Int)) ((!fitsB (n ^ m.toNat) b) = false ∧ n = n ^ m.toNat) (br (m == (0 : Int)) ((!fitsB (n ^ m.toNat) b) = false ∧ (1 : Int) = n ^ m.toNat) ((!fitsB (n ^ m.toNat) b) = false ∧ absI n = n ^ m.toNat))) (IntMulOk (4 : Int) b ∧ br (decide (m > (4 : Int) * b)) False ((0 : Int) ≤ m ∧ m ≤ (1000000 : Int) ∧ n.natAbs < (2 : Nat) ^ (64 : Nat) ∧ ((1 : Int) ≤ b ∧ b ≤ (64 : Int) ∧ (n ^ m.toNat).natAbs < (10 : Nat) ^ (29 : Nat) ∧ (30 : Int) ≤ d) ∧ (!fitsB (n ^ m.toNat) b) = !fitsB (n ^ m.toNat) b ∧ n ^ m.toNat = n ^ m.toNat))
      obtain ⟨a1, a2, a3, a4, a5, a6⟩ := hp
      have e2 : (n ^ m.toNat).natAbs < 10 ^ 29 := by have := pow_bound a3 a4 a5; omega
      refine br_i (fun g => ⟨by decide, ?_⟩) fun g => ⟨by mul_fits, br_f (decide_eq_false (by omega)) ⟨a4, by omega, by omega, ⟨by omega, a2, e2, a6⟩, rfl, rfl⟩⟩
      have g := of_decide_eq_true g
      have go : ∀ x : Int, x = n ^ m.toNat → x.natAbs ≤ 7 → (!fitsB (n ^ m.toNat) b) = false ∧ x = n ^ m.toNat := fun x e h => ⟨by rw [← e, fits_tiny a1 h]; rfl, e⟩
      have h : n.natAbs ≤ 7 := by rw [absI_eq] at g; exact Nat.le_trans (Nat.le_of_lt (Int.ofNat_lt.mp g)) (by decide)
      exact br_i (fun f => go _ (pow_odd g a4 a5 (eq_of_beq f)).symm h) fun f => br_i (fun e => go _ (by rw [eq_of_beq e]; exact (Int.pow_zero n).symm) (by decide)) fun e => go _ (pow_even g a4 a5 (ne_of_beq_false f) (ne_of_beq_false e)).symm (by rw [absI_eq, Int.natAbs_natCast]; exact h)⟩) eV_is
theorem exponent_of_v {k : Bool} {n : Int} {v : Value} : Con w mean mg mb 199 [v] 4 64 (fun h => isV h k n v ∧ n.natAbs < 10 ^ 29) (OutI n) := by
  intro dp un fr gd s Q E X T ⟨hv, hn⟩ h1 h2 hret
  cases k with
  | false =>
    obtain ⟨t, rfl⟩ := hv
    exact exponent_of_ci dp un fr gd s Q E X T trivial h1 h2 hret
  | true =>
    obtain ⟨a, t, u, rfl, i⟩ := hv
    refine exponent_of_ct dp un fr gd s Q E X T ⟨i, sm_of (lawDec_lt hn), ?_, ?_⟩ h1 h2 (by rw [wholeNear_dec]; exact hret)
    · have := lawDec_exp hn; omega
    · obtain ⟨t, e1, _⟩ := lawDec_worth n; omega
end
end
section
set_option maxHeartbeats 8000000
section
variable {w : World} {mean : ExcName → Option Value} {mg mb : Str → Option Value} {t1 t2 t3 t4 u1 u2 u3 u4 : Tok} {a b : Addr}
theorem one_is {h : Heap} (X : (K w.params).In h) : IsTup h 87 [Value.int 1 294, Value.int 0 295].toArray := tupK X (by k_is)
theorem wv_dec {h : Heap} {b : Bool} {n : Int} {v : Value} (x : isV h b n v) (e : b = true) : ∃ a t u, v = .ref a ∧ IsTup h a [Value.int (lawDec n).1 t, Value.int (lawDec n).2 u].toArray := by subst e; exact x
theorem mul_pre {n m d : Int} (h : 30 ≤ d) (a : n.natAbs < 10 ^ 29) (b : m.natAbs < 10 ^ 29) (c : (n * m).natAbs < 10 ^ 29) : Sm (lawDec n).1 ∧ Sm (lawDec m).1 ∧ figs (absI ((lawDec n).1 * (lawDec m).1)) - d < 400 ∧ made ((lawDec n).1 * (lawDec m).1) ((lawDec n).2 + (lawDec m).2) d = some (lawDec (n * m)) :=
  ⟨sm_of (lawDec_lt a), sm_of (lawDec_lt b), (mul_law h c).2, (mul_law h c).1⟩
noncomputable def tb_d_mulW : Tb := ⟨"d_mul", .ref 122, sigE [.V, .V, .I] fun k n k' m d => (some (k = true ∧ k' = true ∧ 30 ≤ d ∧ n.natAbs < 10 ^ 29 ∧ m.natAbs < 10 ^ 29 ∧ (n * m).natAbs < 10 ^ 29), .vv true (n * m)), .val (.ref 122)⟩
theorem ok_d_mulW {w : World} {mean : ExcName → Option Value} {mg mb : Str → Option Value} {D U : Nat} (hD : 4 ≤ D) (hU : 64 ≤ U) : TbOK w mean mg mb D U tb_d_mulW := TbOK.sig (by k_is) (by k_is) fun h b n v hv b' n' v' hv' d t hp => let ⟨a, t, u, e, i⟩ := wv_dec hv hp.1; let ⟨a', t', u', e', i'⟩ := wv_dec hv' hp.2.1; e ▸ e' ▸ ⟨_, _, _, d_mul_c, ⟨i, i', mul_pre hp.2.2.1 hp.2.2.2.1 hp.2.2.2.2.1 hp.2.2.2.2.2⟩, hD, hU⟩
noncomputable def tb_square : Tb := ⟨"square_or_end", .ref 157, sigE [.V, .I] fun k n d => (some (k = true ∧ 30 ≤ d ∧ n.natAbs < 10 ^ 29 ∧ (n * n).natAbs < 10 ^ 29), .vv true (n * n)), .val (.ref 157)⟩
theorem ok_square {w : World} {mean : ExcName → Option Value} {mg mb : Str → Option Value} {D U : Nat} (hD : 5 ≤ D) (hU : 80 ≤ U) : TbOK w mean mg mb D U tb_square := TbOK.sig (by k_is) (by k_is) fun h b n v hv d t hp => let ⟨a, t, u, e, i⟩ := wv_dec hv hp.1; e ▸ ⟨_, _, _, square_c, ⟨i, (mul_pre hp.2.1 hp.2.2.1 hp.2.2.1 hp.2.2.2).2⟩, hD, hU⟩
noncomputable def tb_one : Tb := ⟨"ONE", .none, fun _ _ => False, .wv true 1⟩
theorem ok_one {w : World} {mean : ExcName → Option Value} {mg mb : Str → Option Value} {D U : Nat} : TbOK w mean mg mb D U tb_one := .name (by k_is) (fun _ X => ⟨_, _, _, rfl, by rw [lawDec_one]; exact one_is X⟩) rfl
noncomputable def tb_power : Tb := ⟨"MOST_POWER", .none, fun _ _ => False, .int 9999⟩
theorem ok_power {w : World} {mean : ExcName → Option Value} {mg mb : Str → Option Value} {D U : Nat} : TbOK w mean mg mb D U tb_power := .name (by k_is) (fun _ _ => ⟨_, rfl⟩) rfl
noncomputable def lpPow (x n d : Int) : Lp := ⟨Int × Int × Int, fun z => [("digits", .int d), ("n", .int n), ("a", .wv true z.2.1), ("work", .int (2 * d + 2)), ("left", .int z.2.2), ("found", .wv true z.1)], fun z => PowI z.2.2 z.1 z.2.1 (x ^ n.toNat), fun z => z.2.2.toNat, (1, x, n),
  fun z => (if z.2.2.fmod 2 = 1 then z.1 * z.2.1 else z.1, if 0 < z.2.2.fdiv 2 then z.2.1 * z.2.1 else z.2.1, z.2.2.fdiv 2)⟩
theorem pow_turn {x n d X Y : Int} {z : Int × Int × Int} (hX : (if z.2.2.fmod 2 = 1 then z.1 * z.2.1 else z.1) = X) (hY : (if 0 < z.2.2.fdiv 2 then z.2.1 * z.2.1 else z.2.1) = Y) (p : PowI (z.2.2.fdiv 2) X Y (x ^ n.toNat) ∧ (z.2.2.fdiv 2).toNat < z.2.2.toNat) :
    (lpPow x n d).st (X, Y, z.2.2.fdiv 2) = (lpPow x n d).st ((lpPow x n d).nx z) ∧ (lpPow x n d).ok ((lpPow x n d).nx z) ∧ (lpPow x n d).ms ((lpPow x n d).nx z) < (lpPow x n d).ms z := by
  subst hX hY
  exact ⟨rfl, p.1, p.2⟩
theorem d_power_c {x n d : Int} : Con w mean mg mb 150 [.ref a, .int n t1, .int d t2] 6 96 (fun h => IsTup h a [Value.int (lawDec x).1 u1, Value.int (lawDec x).2 u2].toArray ∧ x.natAbs < 10 ^ 5 ∧ 0 ≤ n ∧ n ≤ 3 ∧ 30 ≤ d) (OutT (lawDec (x ^ n.toNat))) :=
  Con.run (i := 21) (D := 5) (U := 80) (n := 40) (Q := lpPow x n d) (rb := [("digits", .int d t2), ("n", .int n t1), ("a", .ref a)])
    (μ := [("digits", .int d), ("n", .int n), ("a", .wv true x)]) (by k_is) (by k_is) rfl rfl rfl rfl
    (.cons ok_abs (.cons ok_power (.cons ok_one (.cons (ok_d_mulW (by decide) (by decide)) (.cons (ok_square (by decide) (by decide)) (.cons (ok_made (by decide) (by decide)) .nil)))))) (by decide) (by decide) (fun h hp => ⟨⟨rfl, rfl, ⟨_, rfl⟩, rfl, rfl, ⟨_, rfl⟩, rfl, rfl, ⟨_, _, _, rfl, hp.1⟩, trivial⟩, by
      show br (decide (absI n > (9999 : Int))) False (IntMulOk (2 : Int) d ∧ br (decide (n < (0 : Int))) False (setM (setM (setM [(Str.ofString "digits", Sh.int d), (Str.ofString "n", Sh.int n), (Str.ofString "a", Sh.wv true x)] (Str.ofString "work") (Sh.int ((2 : Int) * d + (2 : Int)))) (Str.ofString "left") (Sh.int n)) (Str.ofString "found") tb_one.sh = (lpPow x n d).st (lpPow x n d).a0 ∧ (lpPow x n d).ok (lpPow x n d).a0 ∧ ∀ z : Int × Int × Int, (lpPow x n d).ok z → br (decide (z.snd.snd > (0 : Int))) ((2 : Int) ≠ (0 : Int) ∧ br (z.snd.snd.fmod (2 : Int) == (1 : Int)) ((true = true ∧ true = true ∧ (30 : Int) ≤ (2 : Int) * d + (2 : Int) ∧ z.fst.natAbs < (10 : Nat) ^ (29 : Nat) ∧ z.snd.fst.natAbs < (10 : Nat) ^ (29 : Nat) ∧ (z.fst * z.snd.fst).natAbs < (10 : Nat) ^ (29 : Nat)) ∧ (2 : Int) ≠ (0 : Int) ∧ (Int.natAbs (2 : Int)).log2 < (9000 : Nat) ∧ br (decide (z.snd.snd.fdiv (2 : Int) > (0 : Int))) ((true = true ∧ (30 : Int) ≤ (2 : Int) * d + (2 : Int) ∧ z.snd.fst.natAbs < (10 : Nat) ^ (29 : Nat) ∧ (z.snd.fst * z.snd.fst).natAbs < (10 : Nat) ^ (29 : Nat)) ∧ setM (setM (setM ((lpPow x n d).st z) (Str.ofString "found") (Sh.wv true (z.fst * z.snd.fst))) (Str.ofString "left") (Sh.int (z.snd.snd.fdiv (2 : Int)))) (Str.ofString "a") (Sh.wv true (z.snd.fst * z.snd.fst)) = (lpPow x n d).st ((lpPow x n d).nx z) ∧ (lpPow x n d).ok ((lpPow x n d).nx z) ∧ ((lpPow x n d).ms ((lpPow x n d).nx z)).succ.le ((lpPow x n d).ms z)) (setM (setM ((lpPow x n d).st z) (Str.ofString "found") (Sh.wv true (z.fst * z.snd.fst))) (Str.ofString "left") (Sh.int (z.snd.snd.fdiv (2 : Int))) = (lpPow x n d).st ((lpPow x n d).nx z) ∧ (lpPow x n d).ok ((lpPow x n d).nx z) ∧ ((lpPow x n d).ms ((lpPow x n d).nx z)).succ.le ((lpPow x n d).ms z))) ((2 : Int) ≠ (0 : Int) ∧ (Int.natAbs (2 : Int)).log2 < (9000 : Nat) ∧ br (decide (z.snd.snd.fdiv (2 : Int) > (0 : Int))) ((true = true ∧ (30 : Int) ≤ (2 : Int) * d + (2 : Int) ∧ z.snd.fst.natAbs < (10 : Nat) ^ (29 : Nat) ∧ (z.snd.fst * z.snd.fst).natAbs < (10 : Nat) ^ (29 : Nat)) ∧ setM (setM ((lpPow x n d).st z) (Str.ofString "left") (Sh.int (z.snd.snd.fdiv (2 : Int)))) (Str.ofString "a") (Sh.wv true (z.snd.fst * z.snd.fst)) = (lpPow x n d).st ((lpPow x n d).nx z) ∧ (lpPow x n d).ok ((lpPow x n d).nx z) ∧ ((lpPow x n d).ms ((lpPow x n d).nx z)).succ.le ((lpPow x n d).ms z)) (setM ((lpPow x n d).st z) (Str.ofString "left") (Sh.int (z.snd.snd.fdiv (2 : Int))) = (lpPow x n d).st ((lpPow x n d).nx z) ∧ (lpPow x n d).ok ((lpPow x n d).nx z) ∧ ((lpPow x n d).ms ((lpPow x n d).nx z)).succ.le ((lpPow x n d).ms z)))) ((figs (absI (lawDec z.fst).fst) - d < (400 : Int) ∧ made (lawDec z.fst).fst (lawDec z.fst).snd d = some ((made (lawDec z.fst).fst (lawDec z.fst).snd d).getD ((0 : Int), (0 : Int)))) ∧ (made (lawDec z.fst).fst (lawDec z.fst).snd d).getD ((0 : Int), (0 : Int)) = lawDec (x ^ n.toNat))))
      obtain ⟨-, a1, a2, a3, a4⟩ := hp
      refine br_f (decide_eq_false (by rw [absI_eq]; omega)) ⟨by mul_fits, br_f (decide_eq_false (Int.not_lt.mpr a2)) ⟨rfl, PowI.init a1 a2 a3, fun z ok => ?_⟩⟩
      have w : 30 ≤ 2 * d + 2 := by omega
      have x1 : z.1.natAbs < 10 ^ 29 := Nat.lt_trans ok.x (by decide)
      have y1 : z.2.1.natAbs < 10 ^ 29 := Nat.lt_trans ok.y (by decide)
      refine br_i (fun g => ?_) fun g => ?_
      · have g := of_decide_eq_true g
        refine ⟨by decide, br_i (fun f => ?_) fun f => ?_⟩
        · have f := eq_of_beq f
          exact ⟨⟨rfl, rfl, w, x1, y1, ok.xy⟩, by decide, by decide, br_i (fun q => have q := of_decide_eq_true q; ⟨⟨rfl, w, y1, ok.yy⟩, pow_turn (if_pos f) (if_pos q) (ok.oddOn g f q)⟩) fun q => have q := of_decide_eq_false q; pow_turn (if_pos f) (if_neg q) (ok.oddOff g f q)⟩
        · have f := ne_of_beq_false f
          exact ⟨by decide, by decide, br_i (fun q => have q := of_decide_eq_true q; ⟨⟨rfl, w, y1, ok.yy⟩, pow_turn (if_neg f) (if_pos q) (ok.evenOn g f)⟩) fun q => (ok.evenOff g f (of_decide_eq_false q)).elim⟩
      · have z1 := made_dec (n := z.1) (d := d) a4 x1
        exact ⟨⟨by have := figs_small (lawDec_lt x1); omega, gd1 z1⟩, (gd2 z1).trans (congrArg lawDec (ok.done (of_decide_eq_false g)))⟩⟩) eT_is
end
end
section
set_option maxHeartbeats 8000000
section
variable {w : World} {mean : ExcName → Option Value} {mg mb : Str → Option Value} {t1 t2 t3 t4 t5 u1 u2 u3 u4 : Tok} {a b : Addr} {va vb : Value}
noncomputable abbrev isL (h : Heap) (a : Addr) (n : Int) (u v : Tok) : Prop := IsTup h a [Value.int (lawDec n).1 u, Value.int (lawDec n).2 v].toArray
theorem exps {n m : Int} (hn : n.natAbs < 10 ^ 10) (hm : m.natAbs < 10 ^ 10) : (lawDec n).2 - (lawDec m).2 < 400 ∧ (lawDec m).2 - (lawDec n).2 < 400 := by
  have a := lawDec_exp hn
  have b := lawDec_exp hm
  obtain ⟨t, e1, _⟩ := lawDec_worth n
  obtain ⟨v, f1, _⟩ := lawDec_worth m
  omega
theorem sm10 {n : Int} (h : n.natAbs < 10 ^ 10) : Sm (lawDec n).1 := Sm.le (k := 10) (Nat.le_of_lt (lawDec_lt h)) (by decide)
theorem d_add_l {n m d : Int} : Con w mean mg mb 108 [.ref a, .ref b, .int d t1] 4 64 (fun h => isL h a n u1 u2 ∧ isL h b m u3 u4 ∧ n.natAbs < 10 ^ 10 ∧ m.natAbs < 10 ^ 10 ∧ 30 ≤ d) (OutT (lawDec (n + m))) := by
  intro dp un fr gd s Q E X T ⟨i1, i2, hn, hm, hd⟩ h1 h2 hret
  obtain ⟨x1, x2⟩ := dAdd_law (a := n) (b := m) hd (by omega)
  obtain ⟨y1, y2⟩ := exps hn hm
  exact d_add_c dp un fr gd s Q E X T ⟨i1, i2, sm10 hn, sm10 hm, y1, y2, x2, x1⟩ h1 h2 hret
theorem d_sub_l {n m d : Int} : Con w mean mg mb 115 [.ref a, .ref b, .int d t1] 5 80 (fun h => isL h a n u1 u2 ∧ isL h b m u3 u4 ∧ n.natAbs < 10 ^ 10 ∧ m.natAbs < 10 ^ 10 ∧ 30 ≤ d) (OutT (lawDec (n - m))) := by
  intro dp un fr gd s Q E X T ⟨i1, i2, hn, hm, hd⟩ h1 h2 hret
  obtain ⟨x1, x2⟩ := dAdd_law (a := n) (b := -m) hd (by omega)
  obtain ⟨y1, y2⟩ := exps hn hm
  rw [lawDec_neg] at x1 x2
  have e : n + -m = n - m := by omega
  rw [e] at x1
  have s2 := sm10 (n := -m) (by omega)
  rw [lawDec_neg] at s2
  exact d_sub_c dp un fr gd s Q E X T ⟨i1, i2, sm10 hn, s2, y1, y2, x2, x1⟩ h1 h2 hret
theorem d_mul_l {n m d : Int} : Con w mean mg mb 122 [.ref a, .ref b, .int d t1] 4 64 (fun h => isL h a n u1 u2 ∧ isL h b m u3 u4 ∧ n.natAbs < 10 ^ 10 ∧ m.natAbs < 10 ^ 10 ∧ 30 ≤ d) (OutT (lawDec (n * m))) := by
  intro dp un fr gd s Q E X T ⟨i1, i2, hn, hm, hd⟩ h1 h2 hret
  obtain ⟨x1, x2⟩ := mul_law (a := n) (b := m) hd (by have := natAbs_mul_lt hn hm; omega)
  exact d_mul_c dp un fr gd s Q E X T ⟨i1, i2, sm10 hn, sm10 hm, x2, x1⟩ h1 h2 hret
theorem d_div_l {n m : Int} : Con w mean mg mb 136 [.ref a, .ref b, .int 30 t1] 4 64 (fun h => isL h a n u1 u2 ∧ isL h b m u3 u4 ∧ n.natAbs < 10 ^ 10 ∧ m.natAbs < 10 ^ 10 ∧ m ≠ 0) (OutT (divP n m)) := by
  intro dp un fr gd s Q E X T ⟨i1, i2, hn, hm, h0⟩ h1 h2 hret
  have hc0 : (lawDec m).1 ≠ 0 := by
    obtain ⟨v, _, f2⟩ := lawDec_worth m
    intro z; rw [z, Int.zero_mul] at f2; exact h0 f2.symm
  have ha : ∀ x : Int, Sm x → Sm (absI x) := fun x h => by unfold Sm at h ⊢; rw [absI_eq]; exact h
  obtain ⟨f, e⟩ := div_facts hn hm h0
  obtain ⟨p0, p1, p2⟩ := places_le (c1 := (lawDec n).1) (c2 := (lawDec m).1) (by have := lawDec_lt hm; omega)
  exact d_div_c dp un fr gd s Q E X T ⟨i1, i2, hc0, ha _ (sm10 hn), ha _ (sm10 hm), by rw [absI_eq]; omega, p0, by omega, by omega, divP_is hn hm h0⟩ h1 h2 hret
theorem whole_reckoned_v {k k' : Bool} {op : Str} {n m b d : Int} : Con w mean mg mb 178 [.str op t5, va, vb, .int b t2, .int d t3] 5 80 (fun h => (isV h k n va ∧ k = false) ∧ (isV h k' m vb ∧ k' = false) ∧ 1 ≤ b ∧ b ≤ 64 ∧ n.natAbs < 10 ^ 10 ∧ m.natAbs < 10 ^ 10 ∧ 30 ≤ d) (OutV (!fitsB (wholeOp op n m) b) (wholeOp op n m)) := by
  intro dp un fr gd s Q E X T ⟨⟨v1, k1⟩, ⟨v2, k2⟩, hp⟩ h1 h2 hret
  subst k1 k2
  obtain ⟨_, rfl⟩ := v1
  obtain ⟨_, rfl⟩ := v2
  exact whole_reckoned_c dp un fr gd s Q E X T hp h1 h2 hret
theorem whole_power_v {k : Bool} {n m b d : Int} : Con w mean mg mb 206 [va, .int m t4, .int b t2, .int d t3] 5 80 (fun h => (isV h k n va ∧ k = false) ∧ 4 ≤ b ∧ b ≤ 64 ∧ n.natAbs < 10 ^ 5 ∧ 0 ≤ m ∧ m ≤ 3 ∧ 30 ≤ d) (OutV (!fitsB (n ^ m.toNat) b) (n ^ m.toNat)) := by
  intro dp un fr gd s Q E X T ⟨⟨v1, k1⟩, hp⟩ h1 h2 hret
  subst k1
  obtain ⟨_, rfl⟩ := v1
  exact whole_power_c dp un fr gd s Q E X T hp h1 h2 hret
noncomputable def tb_decimal_of : Tb := ⟨"decimal_of", .ref 86, sigE [.V, .I] fun k n d => (some (n.natAbs < 10 ^ 29 ∧ 30 ≤ d), .vv true n), .val (.ref 86)⟩
theorem ok_decimal_of {w : World} {mean : ExcName → Option Value} {mg mb : Str → Option Value} {D U : Nat} (hD : 4 ≤ D) (hU : 64 ≤ U) : TbOK w mean mg mb D U tb_decimal_of := TbOK.sig (by k_is) (by k_is) fun h b n v hv d t hp => ⟨_, _, _, decimal_of_v, ⟨hv, hp⟩, hD, hU⟩
noncomputable def tb_whole_of : Tb := ⟨"whole_of", .ref 79, sigE [.V, .I] fun k n b => (some (n.natAbs < 10 ^ 29 ∧ 1 ≤ b ∧ b ≤ 64 ∧ fitsB n b = true), .int n), .val (.ref 79)⟩
theorem ok_whole_of {w : World} {mean : ExcName → Option Value} {mg mb : Str → Option Value} {D U : Nat} (hD : 4 ≤ D) (hU : 64 ≤ U) : TbOK w mean mg mb D U tb_whole_of := TbOK.sig (by k_is) (by k_is) fun h b n v hv d t hp => ⟨_, _, _, whole_of_v, ⟨hv, hp⟩, hD, hU⟩
noncomputable def tb_exponent_of : Tb := ⟨"exponent_of", .ref 199, sigE [.V] fun k n => (some (n.natAbs < 10 ^ 29), .int n), .val (.ref 199)⟩
theorem ok_exponent_of {w : World} {mean : ExcName → Option Value} {mg mb : Str → Option Value} {D U : Nat} (hD : 4 ≤ D) (hU : 64 ≤ U) : TbOK w mean mg mb D U tb_exponent_of := TbOK.sig (by k_is) (by k_is) fun h b n v hv hp => ⟨_, _, _, exponent_of_v, ⟨hv, hp⟩, hD, hU⟩
noncomputable def tb_whole_power : Tb := ⟨"whole_power", .ref 206, sigE [.V, .I, .I, .I] fun k n m b d => (some (k = false ∧ 4 ≤ b ∧ b ≤ 64 ∧ n.natAbs < 10 ^ 5 ∧ 0 ≤ m ∧ m ≤ 3 ∧ 30 ≤ d), .vv (!fitsB (n ^ m.toNat) b) (n ^ m.toNat)), .val (.ref 206)⟩
theorem ok_whole_power {w : World} {mean : ExcName → Option Value} {mg mb : Str → Option Value} {D U : Nat} (hD : 5 ≤ D) (hU : 80 ≤ U) : TbOK w mean mg mb D U tb_whole_power := TbOK.sig (by k_is) (by k_is) fun h b n v hv m t bi t2 d t3 hp => ⟨_, _, _, whole_power_v, ⟨⟨hv, hp.1⟩, hp.2⟩, hD, hU⟩
noncomputable def tb_d_power : Tb := ⟨"d_power", .ref 150, sigE [.V, .I, .I] fun k x n d => (some (k = true ∧ x.natAbs < 10 ^ 5 ∧ 0 ≤ n ∧ n ≤ 3 ∧ 30 ≤ d), .vv true (x ^ n.toNat)), .val (.ref 150)⟩
theorem ok_d_power {w : World} {mean : ExcName → Option Value} {mg mb : Str → Option Value} {D U : Nat} (hD : 6 ≤ D) (hU : 96 ≤ U) : TbOK w mean mg mb D U tb_d_power := TbOK.sig (by k_is) (by k_is) fun h b n v hv m t d t2 hp => let ⟨a, t, u, e, i⟩ := wv_dec hv hp.1; e ▸ ⟨_, _, _, d_power_c, ⟨i, hp.2⟩, hD, hU⟩
noncomputable def tb_d_add : Tb := ⟨"d_add", .ref 108, sigE [.V, .V, .I] fun k n k' m d => (some (k = true ∧ k' = true ∧ n.natAbs < 10 ^ 10 ∧ m.natAbs < 10 ^ 10 ∧ 30 ≤ d), .vv true (n + m)), .val (.ref 108)⟩
theorem ok_d_add {w : World} {mean : ExcName → Option Value} {mg mb : Str → Option Value} {D U : Nat} (hD : 4 ≤ D) (hU : 64 ≤ U) : TbOK w mean mg mb D U tb_d_add := TbOK.sig (by k_is) (by k_is) fun h b n v hv b' n' v' hv' d t hp => let ⟨a, t, u, e, i⟩ := wv_dec hv hp.1; let ⟨a', t', u', e', i'⟩ := wv_dec hv' hp.2.1; e ▸ e' ▸ ⟨_, _, _, d_add_l, ⟨i, i', hp.2.2⟩, hD, hU⟩
noncomputable def tb_d_sub : Tb := ⟨"d_sub", .ref 115, sigE [.V, .V, .I] fun k n k' m d => (some (k = true ∧ k' = true ∧ n.natAbs < 10 ^ 10 ∧ m.natAbs < 10 ^ 10 ∧ 30 ≤ d), .vv true (n - m)), .val (.ref 115)⟩
theorem ok_d_sub {w : World} {mean : ExcName → Option Value} {mg mb : Str → Option Value} {D U : Nat} (hD : 5 ≤ D) (hU : 80 ≤ U) : TbOK w mean mg mb D U tb_d_sub := TbOK.sig (by k_is) (by k_is) fun h b n v hv b' n' v' hv' d t hp => let ⟨a, t, u, e, i⟩ := wv_dec hv hp.1; let ⟨a', t', u', e', i'⟩ := wv_dec hv' hp.2.1; e ▸ e' ▸ ⟨_, _, _, d_sub_l, ⟨i, i', hp.2.2⟩, hD, hU⟩
noncomputable def tb_d_mul : Tb := ⟨"d_mul", .ref 122, sigE [.V, .V, .I] fun k n k' m d => (some (k = true ∧ k' = true ∧ n.natAbs < 10 ^ 10 ∧ m.natAbs < 10 ^ 10 ∧ 30 ≤ d), .vv true (n * m)), .val (.ref 122)⟩
theorem ok_d_mul {w : World} {mean : ExcName → Option Value} {mg mb : Str → Option Value} {D U : Nat} (hD : 4 ≤ D) (hU : 64 ≤ U) : TbOK w mean mg mb D U tb_d_mul := TbOK.sig (by k_is) (by k_is) fun h b n v hv b' n' v' hv' d t hp => let ⟨a, t, u, e, i⟩ := wv_dec hv hp.1; let ⟨a', t', u', e', i'⟩ := wv_dec hv' hp.2.1; e ▸ e' ▸ ⟨_, _, _, d_mul_l, ⟨i, i', hp.2.2⟩, hD, hU⟩
noncomputable def tb_d_div : Tb := ⟨"d_div", .ref 136, sigE [.V, .V, .I] fun k n k' m d => (some (k = true ∧ k' = true ∧ d = 30 ∧ n.natAbs < 10 ^ 10 ∧ m.natAbs < 10 ^ 10 ∧ m ≠ 0), .new (divP n m)), .val (.ref 136)⟩
theorem ok_d_div {w : World} {mean : ExcName → Option Value} {mg mb : Str → Option Value} {D U : Nat} (hD : 4 ≤ D) (hU : 64 ≤ U) : TbOK w mean mg mb D U tb_d_div := TbOK.sig (by k_is) (by k_is) fun h b n v hv b' n' v' hv' d t hp => let ⟨a, t, u, e, i⟩ := wv_dec hv hp.1; let ⟨a', t', u', e', i'⟩ := wv_dec hv' hp.2.1; by subst e e'; cases hp.2.2.1; exact ⟨_, _, _, d_div_l, ⟨i, i', hp.2.2.2⟩, hD, hU⟩
noncomputable def tb_d_compare : Tb := ⟨"d_compare", .ref 143, sigE [.P, .P] fun c1 e1 c2 e2 => (some (Sm c1 ∧ Sm c2 ∧ e1 - e2 < 400 ∧ e2 - e1 < 400), .int (dCompare c1 e1 c2 e2)), .val (.ref 143)⟩
theorem ok_d_compare {w : World} {mean : ExcName → Option Value} {mg mb : Str → Option Value} {D U : Nat} (hD : 4 ≤ D) (hU : 64 ≤ U) : TbOK w mean mg mb D U tb_d_compare := TbOK.sig (by k_is) (by k_is) fun h c1 e1 a t u i c2 e2 a' t' u' i' hp => ⟨_, _, _, d_compare_c, ⟨i, i', hp⟩, hD, hU⟩
noncomputable def tb_whole_reckoned : Tb := ⟨"whole_reckoned", .ref 178, sigE [.S, .V, .V, .I, .I] fun op k n k' m b d => (some (k = false ∧ k' = false ∧ 1 ≤ b ∧ b ≤ 64 ∧ n.natAbs < 10 ^ 10 ∧ m.natAbs < 10 ^ 10 ∧ 30 ≤ d), .vv (!fitsB (wholeOp op n m) b) (wholeOp op n m)), .val (.ref 178)⟩
theorem ok_whole_reckoned {w : World} {mean : ExcName → Option Value} {mg mb : Str → Option Value} {D U : Nat} (hD : 5 ≤ D) (hU : 80 ≤ U) : TbOK w mean mg mb D U tb_whole_reckoned := TbOK.sig (by k_is) (by k_is) fun h op t b n v hv b' n' v' hv' bi t2 d t3 hp => ⟨_, _, _, whole_reckoned_v, ⟨⟨hv, hp.1⟩, ⟨hv', hp.2.1⟩, hp.2.2⟩, hD, hU⟩
theorem cut_rest_c {n m : Int} : Con w mean mg mb 192 [.int n t1, .int m t2] 2 32 (fun _ => m ≠ 0 ∧ absI m ≠ 0 ∧ Sm (absI m) ∧ Sm m ∧ Sm (cutQ n m)) (OutI (n - m * cutQ n m)) :=
  Con.run (i := 28) (D := 1) (U := 16) (n := 40) (Q := Lp.no) (rb := [("b", .int m t2), ("a", .int n t1)])
    (μ := [("b", .int m), ("a", .int n)]) (by k_is) (by k_is) rfl rfl rfl rfl
    (.cons (ok_cut_quotient (by decide) (by decide)) .nil) (by decide) (by decide) (fun h hp => ⟨⟨rfl, rfl, ⟨_, rfl⟩, rfl, rfl, ⟨_, rfl⟩, trivial⟩, by
      show (m ≠ (0 : Int) ∧ absI m ≠ (0 : Int) ∧ Sm (absI m)) ∧ IntMulOk m (cutQ n m) ∧ n - m * cutQ n m = n - m * cutQ n m
      exact ⟨⟨hp.1, hp.2.1, hp.2.2.1⟩, Sm.mulOk hp.2.2.2.1 hp.2.2.2.2, rfl⟩⟩) eI_is
noncomputable def tb_cut_rest : Tb := ⟨"cut_rest", .ref 192, sigE [.I, .I] fun n m => (some (m ≠ 0 ∧ absI m ≠ 0 ∧ Sm (absI m) ∧ Sm m ∧ Sm (cutQ n m)), .int (n - m * cutQ n m)), .val (.ref 192)⟩
theorem ok_cut_rest {w : World} {mean : ExcName → Option Value} {mg mb : Str → Option Value} {D U : Nat} (hD : 2 ≤ D) (hU : 32 ≤ U) : TbOK w mean mg mb D U tb_cut_rest := TbOK.sig (by k_is) (by k_is) fun h n t m t' hp => ⟨_, _, _, cut_rest_c, hp, hD, hU⟩
theorem raised_c {k k' : Bool} {n m b d : Int} : Con w mean mg mb 213 [va, vb, .int b t2, .int d t3] 7 112 (fun h => isV h k n va ∧ isV h k' m vb ∧ 4 ≤ b ∧ b ≤ 64 ∧ n.natAbs < 10 ^ 5 ∧ n.natAbs < 10 ^ 29 ∧ m.natAbs < 10 ^ 29 ∧ 0 ≤ m ∧ m ≤ 3 ∧ 30 ≤ d) (OutV (k || !fitsB (n ^ m.toNat) b) (n ^ m.toNat)) :=
  Con.run (i := 31) (D := 6) (U := 96) (n := 40) (Q := Lp.no) (rb := [("digits", .int d t3), ("bits", .int b t2), ("b", vb), ("a", va)])
    (μ := [("digits", .int d), ("bits", .int b), ("b", .wv k' m), ("a", .wv k n)]) (by k_is) (by k_is) rfl rfl rfl rfl
    (.cons (ok_exponent_of (by decide) (by decide)) (.cons (ok_is_whole (by decide) (by decide)) (.cons (ok_whole_power (by decide) (by decide)) (.cons (ok_decimal_of (by decide) (by decide)) (.cons (ok_d_power (by decide) (by decide)) .nil))))) (by decide) (by decide) (fun h hp => ⟨⟨rfl, rfl, ⟨_, rfl⟩, rfl, rfl, ⟨_, rfl⟩, rfl, rfl, hp.2.1, rfl, rfl, hp.1, trivial⟩, by
      show m.natAbs < (10 : Nat) ^ (29 : Nat) ∧ br (!k && decide (m ≥ (0 : Int))) ((k = false ∧ (4 : Int) ≤ b ∧ b ≤ (64 : Int) ∧ n.natAbs < (10 : Nat) ^ (5 : Nat) ∧ (0 : Int) ≤ m ∧ m ≤ (3 : Int) ∧ (30 : Int) ≤ d) ∧ (!fitsB (n ^ m.toNat) b) = (k || !fitsB (n ^ m.toNat) b) ∧ n ^ m.toNat = n ^ m.toNat) ((n.natAbs < (10 : Nat) ^ (29 : Nat) ∧ (30 : Int) ≤ d) ∧ (true = true ∧ n.natAbs < (10 : Nat) ^ (5 : Nat) ∧ (0 : Int) ≤ m ∧ m ≤ (3 : Int) ∧ (30 : Int) ≤ d) ∧ true = (k || !fitsB (n ^ m.toNat) b) ∧ n ^ m.toNat = n ^ m.toNat)
      obtain ⟨-, -, a1, a2, a3, a4, a5, a6, a7, a8⟩ := hp
      exact ⟨a5, br_i (fun g => (by have z : k = false := by simpa using (Bool.and_eq_true_iff.mp g).1
                                    subst z; exact ⟨⟨rfl, a1, a2, a3, a6, a7, a8⟩, rfl, rfl⟩)) fun g => (by
        have z : k = true := by rw [decide_eq_true a6, Bool.and_true] at g; simpa using g
        subst z; exact ⟨⟨a4, a8⟩, ⟨rfl, a3, a6, a7, a8⟩, rfl, rfl⟩)⟩⟩) eV_is
noncomputable def tb_raised : Tb := ⟨"raised", .ref 213, sigE [.V, .V, .I, .I] fun k n k' m b d => (some (4 ≤ b ∧ b ≤ 64 ∧ n.natAbs < 10 ^ 5 ∧ n.natAbs < 10 ^ 29 ∧ m.natAbs < 10 ^ 29 ∧ 0 ≤ m ∧ m ≤ 3 ∧ 30 ≤ d), .vv (k || !fitsB (n ^ m.toNat) b) (n ^ m.toNat)), .val (.ref 213)⟩
theorem ok_raised {w : World} {mean : ExcName → Option Value} {mg mb : Str → Option Value} {D U : Nat} (hD : 7 ≤ D) (hU : 112 ≤ U) : TbOK w mean mg mb D U tb_raised := TbOK.sig (by k_is) (by k_is) fun h b n v hv b' n' v' hv' bi t d t2 hp => ⟨_, _, _, raised_c, ⟨hv, hv', hp⟩, hD, hU⟩
theorem reck_add {k k' : Bool} {n m b d : Int} : Con w mean mg mb 220 [.str "+" t5, va, vb, .int b t2, .int d t3] 8 128 (fun h => isV h k n va ∧ isV h k' m vb ∧ 4 ≤ b ∧ b ≤ 16 ∧ n.natAbs < 10 ^ 5 ∧ m.natAbs < 10 ^ 5 ∧ fitsB n b = true ∧ fitsB m b = true ∧ 30 ≤ d) (OutV (k || k' || !fitsB (n + m) b) (n + m)) :=
  Con.run (i := 32) (D := 7) (U := 112) (n := 40) (Q := Lp.no) (rb := [("digits", .int d t3), ("bits", .int b t2), ("b", vb), ("a", va), ("op", .str "+" t5)])
    (μ := [("digits", .int d), ("bits", .int b), ("b", .wv k' m), ("a", .wv k n), ("op", .str "+")]) (by k_is) (by k_is) rfl rfl rfl rfl
    (.cons (ok_is_whole (by decide) (by decide)) (.cons (ok_whole_reckoned (by decide) (by decide)) (.cons (ok_decimal_of (by decide) (by decide)) (.cons (ok_d_add (by decide) (by decide)) .nil)))) (by decide) (by decide) (fun h hp => ⟨⟨rfl, rfl, ⟨_, rfl⟩, rfl, rfl, ⟨_, rfl⟩, rfl, rfl, hp.2.1, rfl, rfl, hp.1, rfl, rfl, ⟨_, rfl⟩, trivial⟩, by
      show br (!k && !k') ((k = false ∧ k' = false ∧ (1 : Int) ≤ b ∧ b ≤ (64 : Int) ∧ n.natAbs < (10 : Nat) ^ (10 : Nat) ∧ m.natAbs < (10 : Nat) ^ (10 : Nat) ∧ (30 : Int) ≤ d) ∧ (!fitsB (wholeOp (Str.ofString "+") n m) b) = (k || k' || !fitsB (n + m) b) ∧ wholeOp (Str.ofString "+") n m = n + m) ((n.natAbs < (10 : Nat) ^ (29 : Nat) ∧ (30 : Int) ≤ d) ∧ (m.natAbs < (10 : Nat) ^ (29 : Nat) ∧ (30 : Int) ≤ d) ∧ (true = true ∧ true = true ∧ n.natAbs < (10 : Nat) ^ (10 : Nat) ∧ m.natAbs < (10 : Nat) ^ (10 : Nat) ∧ (30 : Int) ≤ d) ∧ true = (k || k' || !fitsB (n + m) b) ∧ n + m = n + m)
      exact reck_vc ⟨Int.le_trans (by decide) hp.2.2.1, Int.le_trans hp.2.2.2.1 (by decide), Nat.lt_trans hp.2.2.2.2.1 (by decide), Nat.lt_trans hp.2.2.2.2.2.1 (by decide), hp.2.2.2.2.2.2.2.2⟩ rfl (Nat.lt_trans hp.2.2.2.2.1 (by decide)) (Nat.lt_trans hp.2.2.2.2.2.1 (by decide))⟩) eV_is
theorem reck_sub {k k' : Bool} {n m b d : Int} : Con w mean mg mb 220 [.str "-" t5, va, vb, .int b t2, .int d t3] 8 128 (fun h => isV h k n va ∧ isV h k' m vb ∧ 4 ≤ b ∧ b ≤ 16 ∧ n.natAbs < 10 ^ 5 ∧ m.natAbs < 10 ^ 5 ∧ fitsB n b = true ∧ fitsB m b = true ∧ 30 ≤ d) (OutV (k || k' || !fitsB (n - m) b) (n - m)) :=
  Con.run (i := 32) (D := 7) (U := 112) (n := 40) (Q := Lp.no) (rb := [("digits", .int d t3), ("bits", .int b t2), ("b", vb), ("a", va), ("op", .str "-" t5)])
    (μ := [("digits", .int d), ("bits", .int b), ("b", .wv k' m), ("a", .wv k n), ("op", .str "-")]) (by k_is) (by k_is) rfl rfl rfl rfl
    (.cons (ok_is_whole (by decide) (by decide)) (.cons (ok_whole_reckoned (by decide) (by decide)) (.cons (ok_decimal_of (by decide) (by decide)) (.cons (ok_d_sub (by decide) (by decide)) .nil)))) (by decide) (by decide) (fun h hp => ⟨⟨rfl, rfl, ⟨_, rfl⟩, rfl, rfl, ⟨_, rfl⟩, rfl, rfl, hp.2.1, rfl, rfl, hp.1, rfl, rfl, ⟨_, rfl⟩, trivial⟩, by
      show br (!k && !k') ((k = false ∧ k' = false ∧ (1 : Int) ≤ b ∧ b ≤ (64 : Int) ∧ n.natAbs < (10 : Nat) ^ (10 : Nat) ∧ m.natAbs < (10 : Nat) ^ (10 : Nat) ∧ (30 : Int) ≤ d) ∧ (!fitsB (wholeOp (Str.ofString "-") n m) b) = (k || k' || !fitsB (n - m) b) ∧ wholeOp (Str.ofString "-") n m = n - m) ((n.natAbs < (10 : Nat) ^ (29 : Nat) ∧ (30 : Int) ≤ d) ∧ (m.natAbs < (10 : Nat) ^ (29 : Nat) ∧ (30 : Int) ≤ d) ∧ (true = true ∧ true = true ∧ n.natAbs < (10 : Nat) ^ (10 : Nat) ∧ m.natAbs < (10 : Nat) ^ (10 : Nat) ∧ (30 : Int) ≤ d) ∧ true = (k || k' || !fitsB (n - m) b) ∧ n - m = n - m)
      exact reck_vc ⟨Int.le_trans (by decide) hp.2.2.1, Int.le_trans hp.2.2.2.1 (by decide), Nat.lt_trans hp.2.2.2.2.1 (by decide), Nat.lt_trans hp.2.2.2.2.2.1 (by decide), hp.2.2.2.2.2.2.2.2⟩ rfl (Nat.lt_trans hp.2.2.2.2.1 (by decide)) (Nat.lt_trans hp.2.2.2.2.2.1 (by decide))⟩) eV_is
theorem reck_mul {k k' : Bool} {n m b d : Int} : Con w mean mg mb 220 [.str "*" t5, va, vb, .int b t2, .int d t3] 8 128 (fun h => isV h k n va ∧ isV h k' m vb ∧ 4 ≤ b ∧ b ≤ 16 ∧ n.natAbs < 10 ^ 5 ∧ m.natAbs < 10 ^ 5 ∧ fitsB n b = true ∧ fitsB m b = true ∧ 30 ≤ d) (OutV (k || k' || !fitsB (n * m) b) (n * m)) :=
  Con.run (i := 32) (D := 7) (U := 112) (n := 40) (Q := Lp.no) (rb := [("digits", .int d t3), ("bits", .int b t2), ("b", vb), ("a", va), ("op", .str "*" t5)])
    (μ := [("digits", .int d), ("bits", .int b), ("b", .wv k' m), ("a", .wv k n), ("op", .str "*")]) (by k_is) (by k_is) rfl rfl rfl rfl
    (.cons (ok_is_whole (by decide) (by decide)) (.cons (ok_whole_reckoned (by decide) (by decide)) (.cons (ok_decimal_of (by decide) (by decide)) (.cons (ok_d_mul (by decide) (by decide)) .nil)))) (by decide) (by decide) (fun h hp => ⟨⟨rfl, rfl, ⟨_, rfl⟩, rfl, rfl, ⟨_, rfl⟩, rfl, rfl, hp.2.1, rfl, rfl, hp.1, rfl, rfl, ⟨_, rfl⟩, trivial⟩, by
      show br (!k && !k') ((k = false ∧ k' = false ∧ (1 : Int) ≤ b ∧ b ≤ (64 : Int) ∧ n.natAbs < (10 : Nat) ^ (10 : Nat) ∧ m.natAbs < (10 : Nat) ^ (10 : Nat) ∧ (30 : Int) ≤ d) ∧ (!fitsB (wholeOp (Str.ofString "*") n m) b) = (k || k' || !fitsB (n * m) b) ∧ wholeOp (Str.ofString "*") n m = n * m) ((n.natAbs < (10 : Nat) ^ (29 : Nat) ∧ (30 : Int) ≤ d) ∧ (m.natAbs < (10 : Nat) ^ (29 : Nat) ∧ (30 : Int) ≤ d) ∧ (true = true ∧ true = true ∧ n.natAbs < (10 : Nat) ^ (10 : Nat) ∧ m.natAbs < (10 : Nat) ^ (10 : Nat) ∧ (30 : Int) ≤ d) ∧ true = (k || k' || !fitsB (n * m) b) ∧ n * m = n * m)
      exact reck_vc ⟨Int.le_trans (by decide) hp.2.2.1, Int.le_trans hp.2.2.2.1 (by decide), Nat.lt_trans hp.2.2.2.2.1 (by decide), Nat.lt_trans hp.2.2.2.2.2.1 (by decide), hp.2.2.2.2.2.2.2.2⟩ rfl (Nat.lt_trans hp.2.2.2.2.1 (by decide)) (Nat.lt_trans hp.2.2.2.2.2.1 (by decide))⟩) eV_is
theorem reck_div {k k' : Bool} {n m b : Int} : Con w mean mg mb 220 [.str "/" t5, va, vb, .int b t2, .int 30 t3] 8 128 (fun h => isV h k n va ∧ isV h k' m vb ∧ 4 ≤ b ∧ b ≤ 16 ∧ n.natAbs < 10 ^ 5 ∧ m.natAbs < 10 ^ 5 ∧ fitsB n b = true ∧ fitsB m b = true ∧ m ≠ 0) (OutT (divP n m)) :=
  Con.run (i := 32) (D := 7) (U := 112) (n := 40) (Q := Lp.no) (rb := [("digits", .int 30 t3), ("bits", .int b t2), ("b", vb), ("a", va), ("op", .str "/" t5)])
    (μ := [("digits", .int 30), ("bits", .int b), ("b", .wv k' m), ("a", .wv k n), ("op", .str "/")]) (by k_is) (by k_is) rfl rfl rfl rfl
    (.cons (ok_is_whole (by decide) (by decide)) (.cons (ok_decimal_of (by decide) (by decide)) (.cons (ok_d_div (by decide) (by decide)) .nil))) (by decide) (by decide) (fun h hp => ⟨⟨rfl, rfl, ⟨_, rfl⟩, rfl, rfl, ⟨_, rfl⟩, rfl, rfl, hp.2.1, rfl, rfl, hp.1, rfl, rfl, ⟨_, rfl⟩, trivial⟩, by
      show (n.natAbs < (10 : Nat) ^ (29 : Nat) ∧ (30 : Int) ≤ (30 : Int)) ∧ (m.natAbs < (10 : Nat) ^ (29 : Nat) ∧ (30 : Int) ≤ (30 : Int)) ∧ (true = true ∧ true = true ∧ (30 : Int) = (30 : Int) ∧ n.natAbs < (10 : Nat) ^ (10 : Nat) ∧ m.natAbs < (10 : Nat) ^ (10 : Nat) ∧ m ≠ (0 : Int)) ∧ divP n m = divP n m
      exact ⟨⟨Nat.lt_trans hp.2.2.2.2.1 (by decide), by decide⟩, ⟨Nat.lt_trans hp.2.2.2.2.2.1 (by decide), by decide⟩, ⟨rfl, rfl, rfl, Nat.lt_trans hp.2.2.2.2.1 (by decide), Nat.lt_trans hp.2.2.2.2.2.1 (by decide), hp.2.2.2.2.2.2.2.2⟩, rfl⟩⟩) eT_is
theorem reck_cut {k k' : Bool} {n m b d : Int} : Con w mean mg mb 220 [.str "\\" t5, va, vb, .int b t2, .int d t3] 8 128 (fun h => isV h k n va ∧ isV h k' m vb ∧ 4 ≤ b ∧ b ≤ 16 ∧ n.natAbs < 10 ^ 5 ∧ m.natAbs < 10 ^ 5 ∧ fitsB n b = true ∧ fitsB m b = true ∧ m ≠ 0 ∧ 30 ≤ d) (OutV (!fitsB (cutQ n m) b) (cutQ n m)) :=
  Con.run (i := 32) (D := 7) (U := 112) (n := 40) (Q := Lp.no) (rb := [("digits", .int d t3), ("bits", .int b t2), ("b", vb), ("a", va), ("op", .str "\\" t5)])
    (μ := [("digits", .int d), ("bits", .int b), ("b", .wv k' m), ("a", .wv k n), ("op", .str "\\")]) (by k_is) (by k_is) rfl rfl rfl rfl
    (.cons (ok_is_whole (by decide) (by decide)) (.cons (ok_cut_quotient (by decide) (by decide)) (.cons (ok_whole_of (by decide) (by decide)) (.cons (ok_settled (by decide) (by decide)) .nil)))) (by decide) (by decide) (fun h hp => ⟨⟨rfl, rfl, ⟨_, rfl⟩, rfl, rfl, ⟨_, rfl⟩, rfl, rfl, hp.2.1, rfl, rfl, hp.1, rfl, rfl, ⟨_, rfl⟩, trivial⟩, by
      show (n.natAbs < (10 : Nat) ^ (29 : Nat) ∧ (1 : Int) ≤ b ∧ b ≤ (64 : Int) ∧ fitsB n b = true) ∧ (m.natAbs < (10 : Nat) ^ (29 : Nat) ∧ (1 : Int) ≤ b ∧ b ≤ (64 : Int) ∧ fitsB m b = true) ∧ (m ≠ (0 : Int) ∧ absI m ≠ (0 : Int) ∧ Sm (absI m)) ∧ ((1 : Int) ≤ b ∧ b ≤ (64 : Int) ∧ (cutQ n m).natAbs < (10 : Nat) ^ (29 : Nat) ∧ (30 : Int) ≤ d) ∧ (!fitsB (cutQ n m) b) = !fitsB (cutQ n m) b ∧ cutQ n m = cutQ n m
      obtain ⟨-, -, a1, a2, a3, a4, a5, a6, a7, a8⟩ := hp
      have b1 : 1 ≤ b := Int.le_trans (by decide) a1
      have b2 : b ≤ 64 := Int.le_trans a2 (by decide)
      have n1 : n.natAbs < 10 ^ 29 := Nat.lt_trans a3 (by decide)
      have sm : Sm m := Sm.le (k := 5) (Nat.le_of_lt a4) (by decide)
      exact ⟨⟨n1, b1, b2, a5⟩, ⟨Nat.lt_trans a4 (by decide), b1, b2, a6⟩, ⟨a7, absI_ne a7, sm_absI sm⟩, ⟨b1, b2, Nat.lt_of_le_of_lt (cutQ_le a7) n1, a8⟩, rfl, rfl⟩⟩) eV_is
theorem reck_mod {k k' : Bool} {n m b d : Int} : Con w mean mg mb 220 [.str "MOD" t5, va, vb, .int b t2, .int d t3] 8 128 (fun h => isV h k n va ∧ isV h k' m vb ∧ 4 ≤ b ∧ b ≤ 16 ∧ n.natAbs < 10 ^ 5 ∧ m.natAbs < 10 ^ 5 ∧ fitsB n b = true ∧ fitsB m b = true ∧ m ≠ 0 ∧ 30 ≤ d) (OutV (!fitsB (n - m * cutQ n m) b) (n - m * cutQ n m)) :=
  Con.run (i := 32) (D := 7) (U := 112) (n := 40) (Q := Lp.no) (rb := [("digits", .int d t3), ("bits", .int b t2), ("b", vb), ("a", va), ("op", .str "MOD" t5)])
    (μ := [("digits", .int d), ("bits", .int b), ("b", .wv k' m), ("a", .wv k n), ("op", .str "MOD")]) (by k_is) (by k_is) rfl rfl rfl rfl
    (.cons (ok_is_whole (by decide) (by decide)) (.cons (ok_cut_rest (by decide) (by decide)) (.cons (ok_whole_of (by decide) (by decide)) (.cons (ok_settled (by decide) (by decide)) .nil)))) (by decide) (by decide) (fun h hp => ⟨⟨rfl, rfl, ⟨_, rfl⟩, rfl, rfl, ⟨_, rfl⟩, rfl, rfl, hp.2.1, rfl, rfl, hp.1, rfl, rfl, ⟨_, rfl⟩, trivial⟩, by
      show (n.natAbs < (10 : Nat) ^ (29 : Nat) ∧ (1 : Int) ≤ b ∧ b ≤ (64 : Int) ∧ fitsB n b = true) ∧ (m.natAbs < (10 : Nat) ^ (29 : Nat) ∧ (1 : Int) ≤ b ∧ b ≤ (64 : Int) ∧ fitsB m b = true) ∧ (m ≠ (0 : Int) ∧ absI m ≠ (0 : Int) ∧ Sm (absI m) ∧ Sm m ∧ Sm (cutQ n m)) ∧ ((1 : Int) ≤ b ∧ b ≤ (64 : Int) ∧ (n - m * cutQ n m).natAbs < (10 : Nat) ^ (29 : Nat) ∧ (30 : Int) ≤ d) ∧ (!fitsB (n - m * cutQ n m) b) = !fitsB (n - m * cutQ n m) b ∧ n - m * cutQ n m = n - m * cutQ n m
      obtain ⟨-, -, a1, a2, a3, a4, a5, a6, a7, a8⟩ := hp
      have b1 : 1 ≤ b := Int.le_trans (by decide) a1
      have b2 : b ≤ 64 := Int.le_trans a2 (by decide)
      have n1 : n.natAbs < 10 ^ 29 := Nat.lt_trans a3 (by decide)
      have sm : Sm m := Sm.le (k := 5) (Nat.le_of_lt a4) (by decide)
      exact ⟨⟨n1, b1, b2, a5⟩, ⟨Nat.lt_trans a4 (by decide), b1, b2, a6⟩, ⟨a7, absI_ne a7, sm_absI sm, sm, Sm.le (k := 5) (Nat.le_trans (cutQ_le a7) (Nat.le_of_lt a3)) (by decide)⟩, ⟨b1, b2, cutR_lt a7 a3 a4, a8⟩, rfl, rfl⟩⟩) eV_is
theorem reck_pow {k k' : Bool} {n m b d : Int} : Con w mean mg mb 220 [.str "^" t5, va, vb, .int b t2, .int d t3] 8 128 (fun h => isV h k n va ∧ isV h k' m vb ∧ 4 ≤ b ∧ b ≤ 16 ∧ n.natAbs < 10 ^ 5 ∧ m.natAbs < 10 ^ 5 ∧ fitsB n b = true ∧ fitsB m b = true ∧ 30 ≤ d ∧ 0 ≤ m ∧ m ≤ 3) (OutV (k || !fitsB (n ^ m.toNat) b) (n ^ m.toNat)) :=
  Con.run (i := 32) (D := 7) (U := 112) (n := 40) (Q := Lp.no) (rb := [("digits", .int d t3), ("bits", .int b t2), ("b", vb), ("a", va), ("op", .str "^" t5)])
    (μ := [("digits", .int d), ("bits", .int b), ("b", .wv k' m), ("a", .wv k n), ("op", .str "^")]) (by k_is) (by k_is) rfl rfl rfl rfl
    (.cons (ok_is_whole (by decide) (by decide)) (.cons (ok_raised (by decide) (by decide)) .nil)) (by decide) (by decide) (fun h hp => ⟨⟨rfl, rfl, ⟨_, rfl⟩, rfl, rfl, ⟨_, rfl⟩, rfl, rfl, hp.2.1, rfl, rfl, hp.1, rfl, rfl, ⟨_, rfl⟩, trivial⟩, by
      show ((4 : Int) ≤ b ∧ b ≤ (64 : Int) ∧ n.natAbs < (10 : Nat) ^ (5 : Nat) ∧ n.natAbs < (10 : Nat) ^ (29 : Nat) ∧ m.natAbs < (10 : Nat) ^ (29 : Nat) ∧ (0 : Int) ≤ m ∧ m ≤ (3 : Int) ∧ (30 : Int) ≤ d) ∧ (k || !fitsB (n ^ m.toNat) b) = (k || !fitsB (n ^ m.toNat) b) ∧ n ^ m.toNat = n ^ m.toNat
      exact ⟨⟨hp.2.2.1, Int.le_trans hp.2.2.2.1 (by decide), hp.2.2.2.2.1, Nat.lt_trans hp.2.2.2.2.1 (by decide), Nat.lt_trans hp.2.2.2.2.2.1 (by decide), hp.2.2.2.2.2.2.2.2.2.1, hp.2.2.2.2.2.2.2.2.2.2, hp.2.2.2.2.2.2.2.2.1⟩, rfl, rfl⟩⟩) eV_is
end
end
section
set_option maxHeartbeats 8000000
theorem alike_nat (a b : Int) (t v : Nat) : ∃ l : Nat, (alike a t b v).1 * 10 ^ l = a * 10 ^ t ∧ (alike a t b v).2.1 * 10 ^ l = b * 10 ^ v := by
  refine ⟨min t v, ?_, ?_⟩
  · unfold alike; simp only
    rw [sub_min_l, Int.mul_assoc, ← Int.pow_add, Nat.sub_add_cancel (Nat.min_le_left t v)]
  · unfold alike; simp only
    rw [sub_min_r, Int.mul_assoc, ← Int.pow_add, Nat.sub_add_cancel (Nat.min_le_right t v)]
theorem compare_nat (a b : Int) (t v : Nat) : dCompare a t b v = cmpI (a * 10 ^ t) (b * 10 ^ v) := by
  obtain ⟨l, h2, h3⟩ := alike_nat a b t v
  have p : (0 : Int) < 10 ^ l := Int.pow_pos (by decide)
  unfold dCompare cmpI
  generalize (alike a t b v).1 = x at h2
  generalize (alike a t b v).2.1 = y at h3
  rw [← h2, ← h3]
  have q1 : (y * 10 ^ l < x * 10 ^ l) ↔ y < x := ⟨fun h => Int.lt_of_mul_lt_mul_right h (Int.le_of_lt p), fun h => Int.mul_lt_mul_of_pos_right h p⟩
  have q2 : (x * 10 ^ l < y * 10 ^ l) ↔ x < y := ⟨fun h => Int.lt_of_mul_lt_mul_right h (Int.le_of_lt p), fun h => Int.mul_lt_mul_of_pos_right h p⟩
  simp only [q1, q2]
theorem compare_l0 (a b : Int) : dCompare (lawDec a).1 (lawDec a).2 b 0 = cmpI a b := by
  obtain ⟨t, e1, e2⟩ := lawDec_worth a
  have := compare_nat (lawDec a).1 b t 0
  rw [e1]
  rw [e2, Int.pow_zero, Int.mul_one] at this
  exact this
theorem compare_0l (a b : Int) : dCompare a 0 (lawDec b).1 (lawDec b).2 = cmpI a b := by
  obtain ⟨t, e1, e2⟩ := lawDec_worth b
  have := compare_nat a (lawDec b).1 0 t
  rw [e1]
  rw [e2, Int.pow_zero, Int.mul_one] at this
  exact this
theorem lawDec_neg0 (n : Int) : lawDec (0 - n) = (0 - (lawDec n).1, (lawDec n).2) := by
  rw [← lawDec_neg, show (0 : Int) - n = -n by omega]
theorem lawGo_step {x t : Int} (h : x ≠ 0) (h2 : x.fmod 10 = 0) : lawGo x t = lawGo (x.fdiv 10) (t + 1) ∧ (x.fdiv 10).natAbs < x.natAbs := by
  refine ⟨by rw [lawGo, if_pos ⟨h, h2⟩], ?_⟩
  rw [Int.fdiv_eq_ediv_of_nonneg _ (by decide)]
  rw [Int.fmod_eq_emod_of_nonneg _ (by decide)] at h2
  omega
theorem lawGo_stop {x t : Int} (h : ¬ (x ≠ 0 ∧ x.fmod 10 = 0)) : lawGo x t = (x, t) := by rw [lawGo, if_neg h]
noncomputable def standsB (op : Str) (o : Int) : Bool :=
  if (op == "=") = true ∨ (op == "<>") = true then (o == 0) == (op == "=")
  else if (op == "<") = true ∨ (op == ">=") = true then decide (o < 0) == (op == "<")
  else decide (0 < o) == (op == ">")
section
variable {w : World} {mean : ExcName → Option Value} {mg mb : Str → Option Value} {t1 t2 t3 t4 t5 u1 u2 u3 u4 : Tok} {a b : Addr} {va vb : Value}
theorem negated_i {n b d : Int} : Con w mean mg mb 227 [.int n t1, .int b t2, .int d t3] 5 80 (fun _ => 1 ≤ b ∧ b ≤ 64 ∧ (0 - n).natAbs < 10 ^ 29 ∧ 30 ≤ d) (OutV (!fitsB (0 - n) b) (0 - n)) :=
  Con.run (i := 33) (D := 4) (U := 64) (n := 40) (Q := Lp.no) (rb := [("digits", .int d t3), ("bits", .int b t2), ("a", .int n t1)])
    (μ := [("digits", .int d), ("bits", .int b), ("a", .int n)]) (by k_is) (by k_is) rfl rfl rfl rfl
    (.cons (ok_is_whole (by decide) (by decide)) (.cons (ok_settled (by decide) (by decide)) .nil)) (by decide) (by decide) (fun h hp => ⟨⟨rfl, rfl, ⟨_, rfl⟩, rfl, rfl, ⟨_, rfl⟩, rfl, rfl, ⟨_, rfl⟩, trivial⟩, by
      show ((1 : Int) ≤ b ∧ b ≤ (64 : Int) ∧ ((0 : Int) - n).natAbs < (10 : Nat) ^ (29 : Nat) ∧ (30 : Int) ≤ d) ∧ (!fitsB ((0 : Int) - n) b) = !fitsB ((0 : Int) - n) b ∧ (0 : Int) - n = (0 : Int) - n
      exact ⟨hp, rfl, rfl⟩⟩) eV_is
theorem negated_t {n b d : Int} : Con w mean mg mb 227 [.ref a, .int b t2, .int d t3] 5 80 (fun h => isL h a n u1 u2) (OutT (lawDec (0 - n))) :=
  Con.run (i := 33) (D := 4) (U := 64) (n := 40) (Q := Lp.no) (rb := [("digits", .int d t3), ("bits", .int b t2), ("a", .ref a)])
    (μ := [("digits", .int d), ("bits", .int b), ("a", .tup (lawDec n).1 (lawDec n).2)]) (by k_is) (by k_is) rfl rfl rfl rfl
    (.cons (ok_is_whole (by decide) (by decide)) .nil) (by decide) (by decide) (fun h hp => ⟨⟨rfl, rfl, ⟨_, rfl⟩, rfl, rfl, ⟨_, rfl⟩, rfl, rfl, ⟨_, _, _, rfl, hp⟩, trivial⟩, by
      show ((0 : Int) - (lawDec n).fst, (lawDec n).snd) = lawDec ((0 : Int) - n)
      exact (lawDec_neg0 n).symm⟩) eT_is
theorem negated_v {k : Bool} {n b d : Int} : Con w mean mg mb 227 [va, .int b t2, .int d t3] 5 80 (fun h => isV h k n va ∧ 1 ≤ b ∧ b ≤ 64 ∧ (0 - n).natAbs < 10 ^ 29 ∧ 30 ≤ d) (OutV (k || !fitsB (0 - n) b) (0 - n)) := by
  intro dp un fr gd s Q E X T ⟨hv, hp⟩ h1 h2 hret
  cases k with
  | false =>
    obtain ⟨t, rfl⟩ := hv
    exact negated_i dp un fr gd s Q E X T hp h1 h2 hret
  | true =>
    obtain ⟨a, t, u, rfl, i⟩ := hv
    exact negated_t dp un fr gd s Q E X T i h1 h2 hret
theorem order_ii {n m : Int} : Con w mean mg mb 234 [.int n t1, .int m t2] 6 96 (fun _ => True) (OutI (cmpI n m)) :=
  Con.run (i := 34) (D := 5) (U := 80) (n := 40) (Q := Lp.no) (rb := [("b", .int m t2), ("a", .int n t1)])
    (μ := [("b", .int m), ("a", .int n)]) (by k_is) (by k_is) rfl rfl rfl rfl
    (.cons ok_isi (.cons ok_str (.cons (ok_is_whole (by decide) (by decide)) .nil))) (by decide) (by decide) (fun h hp => ⟨⟨rfl, rfl, ⟨_, rfl⟩, rfl, rfl, ⟨_, rfl⟩, trivial⟩, by
      show b2i (decide (n > m)) - b2i (decide (n < m)) = cmpI n m
      exact cmp_b2i n m⟩) eI_is
theorem order_it {n m : Int} : Con w mean mg mb 234 [.int n t1, .ref b] 6 96 (fun h => isL h b m u3 u4 ∧ Sm n ∧ Sm (lawDec m).1 ∧ 0 - (lawDec m).2 < 400 ∧ (lawDec m).2 - 0 < 400) (OutI (cmpI n m)) :=
  Con.run (i := 34) (D := 5) (U := 80) (n := 40) (Q := Lp.no) (rb := [("b", .ref b), ("a", .int n t1)])
    (μ := [("b", .tup (lawDec m).1 (lawDec m).2), ("a", .int n)]) (by k_is) (by k_is) rfl rfl rfl rfl
    (.cons ok_isi (.cons ok_str (.cons ok_tuple (.cons (ok_is_whole (by decide) (by decide)) (.cons (ok_d_compare (by decide) (by decide)) .nil))))) (by decide) (by decide) (fun h hp => ⟨⟨rfl, rfl, ⟨_, _, _, rfl, hp.1⟩, rfl, rfl, ⟨_, rfl⟩, trivial⟩, by
      show (Sm n ∧ Sm (lawDec m).fst ∧ (0 : Int) - (lawDec m).snd < (400 : Int) ∧ (lawDec m).snd - (0 : Int) < (400 : Int)) ∧ dCompare n (0 : Int) (lawDec m).fst (lawDec m).snd = cmpI n m
      exact ⟨hp.2, compare_0l n m⟩⟩) eI_is
theorem order_ti {n m : Int} : Con w mean mg mb 234 [.ref a, .int m t1] 6 96 (fun h => isL h a n u3 u4 ∧ Sm m ∧ Sm (lawDec n).1 ∧ 0 - (lawDec n).2 < 400 ∧ (lawDec n).2 - 0 < 400) (OutI (cmpI n m)) :=
  Con.run (i := 34) (D := 5) (U := 80) (n := 40) (Q := Lp.no) (rb := [("b", .int m t1), ("a", .ref a)])
    (μ := [("b", .int m), ("a", .tup (lawDec n).1 (lawDec n).2)]) (by k_is) (by k_is) rfl rfl rfl rfl
    (.cons ok_isi (.cons ok_str (.cons ok_tuple (.cons (ok_is_whole (by decide) (by decide)) (.cons (ok_d_compare (by decide) (by decide)) .nil))))) (by decide) (by decide) (fun h hp => ⟨⟨rfl, rfl, ⟨_, rfl⟩, rfl, rfl, ⟨_, _, _, rfl, hp.1⟩, trivial⟩, by
      show (Sm (lawDec n).fst ∧ Sm m ∧ (lawDec n).snd - (0 : Int) < (400 : Int) ∧ (0 : Int) - (lawDec n).snd < (400 : Int)) ∧ dCompare (lawDec n).fst (lawDec n).snd m (0 : Int) = cmpI n m
      exact ⟨⟨hp.2.2.1, hp.2.1, hp.2.2.2.2, hp.2.2.2.1⟩, compare_l0 n m⟩⟩) eI_is
theorem order_tt {n m : Int} : Con w mean mg mb 234 [.ref a, .ref b] 6 96 (fun h => isL h a n u1 u2 ∧ isL h b m u3 u4 ∧ n.natAbs < 10 ^ 10 ∧ m.natAbs < 10 ^ 10) (OutI (cmpI n m)) :=
  Con.run (i := 34) (D := 5) (U := 80) (n := 40) (Q := Lp.no) (rb := [("b", .ref b), ("a", .ref a)])
    (μ := [("b", .tup (lawDec m).1 (lawDec m).2), ("a", .tup (lawDec n).1 (lawDec n).2)]) (by k_is) (by k_is) rfl rfl rfl rfl
    (.cons ok_isi (.cons ok_str (.cons ok_tuple (.cons (ok_is_whole (by decide) (by decide)) (.cons (ok_d_compare (by decide) (by decide)) .nil))))) (by decide) (by decide) (fun h hp => ⟨⟨rfl, rfl, ⟨_, _, _, rfl, hp.2.1⟩, rfl, rfl, ⟨_, _, _, rfl, hp.1⟩, trivial⟩, by
      show (Sm (lawDec n).fst ∧ Sm (lawDec m).fst ∧ (lawDec n).snd - (lawDec m).snd < (400 : Int) ∧ (lawDec m).snd - (lawDec n).snd < (400 : Int)) ∧ dCompare (lawDec n).fst (lawDec n).snd (lawDec m).fst (lawDec m).snd = cmpI n m
      exact ⟨⟨sm10 hp.2.2.1, sm10 hp.2.2.2, (exps hp.2.2.1 hp.2.2.2).1, (exps hp.2.2.1 hp.2.2.2).2⟩, compare_law n m⟩⟩) eI_is
theorem order_v {k k' : Bool} {n m : Int} : Con w mean mg mb 234 [va, vb] 6 96 (fun h => isV h k n va ∧ isV h k' m vb ∧ n.natAbs < 10 ^ 10 ∧ m.natAbs < 10 ^ 10) (OutI (cmpI n m)) := by
  intro dp un fr gd s Q E X T ⟨hv, hv', hn, hm⟩ h1 h2 hret
  have sn : Sm n := Sm.le (k := 10) (by omega) (by decide)
  have sm : Sm m := Sm.le (k := 10) (by omega) (by decide)
  have en := lawDec_exp hn
  have em := lawDec_exp hm
  obtain ⟨x, ex, _⟩ := lawDec_worth n
  obtain ⟨y, ey, _⟩ := lawDec_worth m
  cases k with
  | false =>
    obtain ⟨t, rfl⟩ := hv
    cases k' with
    | false =>
      obtain ⟨t', rfl⟩ := hv'
      exact order_ii dp un fr gd s Q E X T trivial h1 h2 hret
    | true =>
      obtain ⟨a', t', u', rfl, i'⟩ := hv'
      exact order_it dp un fr gd s Q E X T ⟨i', sn, sm10 hm, by omega, by omega⟩ h1 h2 hret
  | true =>
    obtain ⟨a, t, u, rfl, i⟩ := hv
    cases k' with
    | false =>
      obtain ⟨t', rfl⟩ := hv'
      exact order_ti dp un fr gd s Q E X T ⟨i, sm, sm10 hn, by omega, by omega⟩ h1 h2 hret
    | true =>
      obtain ⟨a', t', u', rfl, i'⟩ := hv'
      exact order_tt dp un fr gd s Q E X T ⟨i, i', hn, hm⟩ h1 h2 hret
theorem stands_c {op : Str} {o : Int} : Con w mean mg mb 241 [.str op t1, .int o t2] 1 16 (fun _ => True) (OutB (standsB op o)) :=
  Con.run (i := 35) (D := 0) (U := 0) (n := 40) (Q := Lp.no) (rb := [("order", .int o t2), ("op", .str op t1)])
    (μ := [("order", .int o), ("op", .str op)]) (by k_is) (by k_is) rfl rfl rfl rfl
    (.nil) (by decide) (by decide) (fun h hp => ⟨⟨rfl, rfl, ⟨_, rfl⟩, rfl, rfl, ⟨_, rfl⟩, trivial⟩, by
      show br (op == Str.ofString "=" || op == Str.ofString "<>") (((o == (0 : Int)) == (op == Str.ofString "=")) = standsB op o) (br (op == Str.ofString "<" || op == Str.ofString ">=") ((decide (o < (0 : Int)) == (op == Str.ofString "<")) = standsB op o) ((decide (o > (0 : Int)) == (op == Str.ofString ">")) = standsB op o))
      exact br_i (fun g => (if_pos (or_t g)).symm) fun g => br_i (fun f => ((if_neg (or_f g)).trans (if_pos (or_t f))).symm) fun f => ((if_neg (or_f g)).trans (if_neg (or_f f))).symm⟩) eB_is
theorem inverted_c {k : Bool} {n b : Int} : Con w mean mg mb 248 [va, .int b t2] 6 96 (fun h => isV h k n va ∧ n.natAbs < 10 ^ 29 ∧ 1 ≤ b ∧ b ≤ 64 ∧ fitsB n b = true) (OutI (-1 - n)) :=
  Con.run (i := 36) (D := 5) (U := 80) (n := 40) (Q := Lp.no) (rb := [("bits", .int b t2), ("a", va)])
    (μ := [("bits", .int b), ("a", .wv k n)]) (by k_is) (by k_is) rfl rfl rfl rfl
    (.cons (ok_whole_of (by decide) (by decide)) .nil) (by decide) (by decide) (fun h hp => ⟨⟨rfl, rfl, ⟨_, rfl⟩, rfl, rfl, hp.1, trivial⟩, by
      show (n.natAbs < (10 : Nat) ^ (29 : Nat) ∧ (1 : Int) ≤ b ∧ b ≤ (64 : Int) ∧ fitsB n b = true) ∧ (-1 : Int) - n = (-1 : Int) - n
      exact ⟨hp.2, rfl⟩⟩) eI_is
noncomputable def lpDec (n : Int) : Lp := ⟨Int × Int, fun z => [("number", .int z.1), ("tens", .int z.2)], fun z => lawGo z.1 z.2 = lawDec n, fun z => z.1.natAbs, (n, 0), fun z => (z.1.fdiv 10, z.2 + 1)⟩
theorem dec_c {n : Int} : Con w mean mg mb 269 [.int n t1] 1 16 (fun _ => Sm n) (OutT (lawDec n)) :=
  Con.run (i := 40) (D := 0) (U := 0) (n := 40) (Q := lpDec n) (rb := [("number", .int n t1)])
    (μ := [("number", .int n)]) (by k_is) (by k_is) rfl rfl rfl rfl
    (.nil) (by decide) (by decide) (fun h hp => ⟨⟨rfl, rfl, ⟨_, rfl⟩, trivial⟩, by
      show setM [(Str.ofString "number", Sh.int n)] (Str.ofString "tens") (Sh.int (0 : Int)) = (lpDec n).st (lpDec n).a0 ∧ (lpDec n).ok (lpDec n).a0 ∧ ∀ z : Int × Int, (lpDec n).ok z → (10 : Int) ≠ (0 : Int) ∧ br (z.fst != (0 : Int) && z.fst.fmod (10 : Int) == (0 : Int)) ((10 : Int) ≠ (0 : Int) ∧ (Int.natAbs (10 : Int)).log2 < (9000 : Nat) ∧ setM (setM ((lpDec n).st z) (Str.ofString "tens") (Sh.int (z.snd + (1 : Int)))) (Str.ofString "number") (Sh.int (z.fst.fdiv (10 : Int))) = (lpDec n).st ((lpDec n).nx z) ∧ (lpDec n).ok ((lpDec n).nx z) ∧ ((lpDec n).ms ((lpDec n).nx z)).succ.le ((lpDec n).ms z)) ((z.fst, z.snd) = lawDec n)
      refine ⟨rfl, rfl, fun z ok => ⟨by decide, br_i (fun g => ?_) fun g => (lawGo_stop (x := z.1) (t := z.2) fun q => by rw [bne_iff_ne.mpr q.1, beq_iff_eq.mpr q.2] at g; cases g).symm.trans ok⟩⟩
      have g := Bool.and_eq_true_iff.mp g
      have s := lawGo_step (t := z.2) (bne_iff_ne.mp g.1) (eq_of_beq g.2)
      exact ⟨by decide, by decide, rfl, s.1.symm.trans ok, s.2⟩⟩) eT_is
end
end
section
set_option maxHeartbeats 8000000
noncomputable def opW (op : Str) (n m : Int) : Int := if (op == "AND") = true then Builtin.bitAnd n m else if (op == "OR") = true then Builtin.bitOr n m else if (op == "XOR") = true then Builtin.bitXor n m
  else if (op == "EQV") = true then -1 - Builtin.bitXor n m else Builtin.bitOr (-1 - n) m
section
variable {w : World} {mean : ExcName → Option Value} {mg mb : Str → Option Value} {t1 t2 t3 t4 t5 u1 u2 u3 u4 : Tok} {a b : Addr} {va vb : Value}
theorem logic_c {k k' : Bool} {op : Str} {n m b : Int} : Con w mean mg mb 255 [.str op t1, va, vb, .int b t2] 6 96 (fun h => isV h k n va ∧ isV h k' m vb ∧ n.natAbs < 10 ^ 29 ∧ m.natAbs < 10 ^ 29 ∧ 1 ≤ b ∧ b ≤ 64 ∧ fitsB n b = true ∧ fitsB m b = true) (OutI (opW op n m)) :=
  Con.run (i := 37) (D := 5) (U := 80) (n := 40) (Q := Lp.no) (rb := [("bits", .int b t2), ("b", vb), ("a", va), ("op", .str op t1)])
    (μ := [("bits", .int b), ("b", .wv k' m), ("a", .wv k n), ("op", .str op)]) (by k_is) (by k_is) rfl rfl rfl rfl
    (.cons (ok_whole_of (by decide) (by decide)) .nil) (by decide) (by decide) (fun h hp => ⟨⟨rfl, rfl, ⟨_, rfl⟩, rfl, rfl, hp.2.1, rfl, rfl, hp.1, rfl, rfl, ⟨_, rfl⟩, trivial⟩, by
      show (n.natAbs < (10 : Nat) ^ (29 : Nat) ∧ (1 : Int) ≤ b ∧ b ≤ (64 : Int) ∧ fitsB n b = true) ∧ (m.natAbs < (10 : Nat) ^ (29 : Nat) ∧ (1 : Int) ≤ b ∧ b ≤ (64 : Int) ∧ fitsB m b = true) ∧ br (op == Str.ofString "AND") (Builtin.bitAnd n m = opW op n m) (br (op == Str.ofString "OR") (Builtin.bitOr n m = opW op n m) (br (op == Str.ofString "XOR") (Builtin.bitXor n m = opW op n m) (br (op == Str.ofString "EQV") ((-1 : Int) - Builtin.bitXor n m = opW op n m) (Builtin.bitOr ((-1 : Int) - n) m = opW op n m))))
      obtain ⟨-, -, a1, a2, a3, a4, a5, a6⟩ := hp
      exact ⟨⟨a1, a3, a4, a5⟩, ⟨a2, a3, a4, a6⟩, br_i (fun g => (if_pos g).symm) fun g => br_i (fun f => ((if_neg (ne_true_of_eq_false g)).trans (if_pos f)).symm) fun f => br_i (fun e => ((if_neg (ne_true_of_eq_false g)).trans ((if_neg (ne_true_of_eq_false f)).trans (if_pos e))).symm) fun e =>
        br_i (fun c => ((if_neg (ne_true_of_eq_false g)).trans ((if_neg (ne_true_of_eq_false f)).trans ((if_neg (ne_true_of_eq_false e)).trans (if_pos c)))).symm) fun c => ((if_neg (ne_true_of_eq_false g)).trans ((if_neg (ne_true_of_eq_false f)).trans ((if_neg (ne_true_of_eq_false e)).trans (if_neg (ne_true_of_eq_false c))))).symm⟩⟩) eI_is
noncomputable def OutS (x : Str) (_ _ : Heap) (r : Value) : Prop := ∃ t, r = .str x t
theorem cut_facts {n m : Int} (c : Int) (hc : c = 1 ∨ c = 0 - 1) (h1 : n.natAbs < 10 ^ 5) (h2 : m.natAbs < 10 ^ 5) (h0 : m ≠ 0) :
    Sm ((absI n).fdiv (absI m)) ∧ Sm ((absI n).fdiv (absI m) * c) ∧ Sm ((absI n).fdiv (absI m) * c * m) ∧ Sm (n - (absI n).fdiv (absI m) * c * m) := by
  have a := cutQ_le (n := n) h0
  have b : ((absI n).fdiv (absI m)).natAbs = (cutQ n m).natAbs := by
    unfold cutQ
    split
    · rfl
    · rw [Int.zero_sub, Int.natAbs_neg]
  generalize (absI n).fdiv (absI m) = x at b
  have d : (x * c).natAbs = x.natAbs := by
    rcases hc with rfl | rfl
    · rw [Int.mul_one]
    · rw [show (0 - 1 : Int) = -1 from rfl, Int.mul_neg, Int.mul_one, Int.natAbs_neg]
  have e := natAbs_mul_lt (X := x * c) (Y := m) (a := 10 ^ 5) (b := 10 ^ 5) (by omega) h2
  exact ⟨Sm.le (k := 5) (by omega) (by decide), Sm.le (k := 5) (by omega) (by decide), Sm.le (k := 10) (by omega) (by decide), Sm.le (k := 11) (Nat.le_trans (Int.natAbs_sub_le n _) (by omega)) (by decide)⟩
theorem cut_pos {n m : Int} (h : (decide (n < 0) == decide (m < 0)) = true) : (absI n).fdiv (absI m) * 1 = cutQ n m := by unfold cutQ; rw [if_pos h, Int.mul_one]
theorem cut_neg {n m : Int} (h : (decide (n < 0) == decide (m < 0)) = false) : (absI n).fdiv (absI m) * (0 - 1) = cutQ n m := by unfold cutQ; rw [if_neg (by rw [h]; decide)]; omega
noncomputable def tb_law_decimal : Tb := ⟨"_law_decimal", .ref 269, sigE [.I] fun n => (some (Sm n), .vv true n), .val (.ref 269)⟩
theorem ok_law_decimal {w : World} {mean : ExcName → Option Value} {mg mb : Str → Option Value} {D U : Nat} (hD : 1 ≤ D) (hU : 16 ≤ U) : TbOK w mean mg mb D U tb_law_decimal := TbOK.sig (by k_is) (by k_is) fun h n t hp => ⟨_, _, _, dec_c, hp, hD, hU⟩
theorem eS_is {n : Str} (sh : Sh) (x : eS n sh) (h0 h : Heap) (v : Value) (i : sh.is h0 h v) : OutS n h0 h v := Sh.asS_e x fun m e l => e ▸ l _ _ _ i
noncomputable def eD (n m : Int) (sh : Sh) : Prop := match sh with
  | .vv b x => b = true ∧ x = cutQ n m ∧ cutQ n m * m = n
  | .val v => v = .none ∧ cutQ n m * m ≠ n
  | _ => False
theorem eD_is {n m : Int} (sh : Sh) (x : eD n m sh) (h0 h : Heap) (v : Value) (i : sh.is h0 h v) : (cutQ n m * m = n ∧ OutT (lawDec (cutQ n m)) h0 h v) ∨ (cutQ n m * m ≠ n ∧ v = .none) := by
  cases sh with
  | vv b y => obtain ⟨rfl, rfl, z⟩ := x; exact .inl ⟨z, i⟩
  | val u => obtain ⟨rfl, z⟩ := x; exact .inr ⟨z, i⟩
  | _ => exact x.elim
theorem due_add {n m : Int} : Con w mean mg mb 290 [.str "+" t1, .int n t2, .int m t3] 3 48 (fun _ => n.natAbs < 10 ^ 5 ∧ m.natAbs < 10 ^ 5) (OutT (lawDec (n + m))) :=
  Con.run (i := 43) (D := 2) (U := 32) (n := 40) (Q := Lp.no) (rb := [("b", .int m t3), ("a", .int n t2), ("op", .str "+" t1)])
    (μ := [("b", .int m), ("a", .int n), ("op", .str "+")]) (by k_is) (by k_is) rfl rfl rfl rfl
    (.cons (ok_law_decimal (by decide) (by decide)) .nil) (by decide) (by decide) (fun h hp => ⟨⟨rfl, rfl, ⟨_, rfl⟩, rfl, rfl, ⟨_, rfl⟩, rfl, rfl, ⟨_, rfl⟩, trivial⟩, by
      show Sm (n + m) ∧ true = true ∧ lawDec (n + m) = lawDec (n + m)
      exact ⟨Sm.le (k := 10) (Nat.le_of_lt (add_lt hp.1 hp.2 (by decide))) (by decide), rfl, rfl⟩⟩) eT_is
theorem due_sub {n m : Int} : Con w mean mg mb 290 [.str "-" t1, .int n t2, .int m t3] 3 48 (fun _ => n.natAbs < 10 ^ 5 ∧ m.natAbs < 10 ^ 5) (OutT (lawDec (n - m))) :=
  Con.run (i := 43) (D := 2) (U := 32) (n := 40) (Q := Lp.no) (rb := [("b", .int m t3), ("a", .int n t2), ("op", .str "-" t1)])
    (μ := [("b", .int m), ("a", .int n), ("op", .str "-")]) (by k_is) (by k_is) rfl rfl rfl rfl
    (.cons (ok_law_decimal (by decide) (by decide)) .nil) (by decide) (by decide) (fun h hp => ⟨⟨rfl, rfl, ⟨_, rfl⟩, rfl, rfl, ⟨_, rfl⟩, rfl, rfl, ⟨_, rfl⟩, trivial⟩, by
      show Sm (n - m) ∧ true = true ∧ lawDec (n - m) = lawDec (n - m)
      exact ⟨Sm.le (k := 10) (Nat.le_of_lt (sub_lt hp.1 hp.2 (by decide))) (by decide), rfl, rfl⟩⟩) eT_is
theorem due_mul {n m : Int} : Con w mean mg mb 290 [.str "*" t1, .int n t2, .int m t3] 3 48 (fun _ => n.natAbs < 10 ^ 5 ∧ m.natAbs < 10 ^ 5) (OutT (lawDec (n * m))) :=
  Con.run (i := 43) (D := 2) (U := 32) (n := 40) (Q := Lp.no) (rb := [("b", .int m t3), ("a", .int n t2), ("op", .str "*" t1)])
    (μ := [("b", .int m), ("a", .int n), ("op", .str "*")]) (by k_is) (by k_is) rfl rfl rfl rfl
    (.cons (ok_law_decimal (by decide) (by decide)) .nil) (by decide) (by decide) (fun h hp => ⟨⟨rfl, rfl, ⟨_, rfl⟩, rfl, rfl, ⟨_, rfl⟩, rfl, rfl, ⟨_, rfl⟩, trivial⟩, by
      show IntMulOk n m ∧ Sm (n * m) ∧ true = true ∧ lawDec (n * m) = lawDec (n * m)
      exact ⟨Sm.mulOk (Sm.le (k := 5) (Nat.le_of_lt hp.1) (by decide)) (Sm.le (k := 5) (Nat.le_of_lt hp.2) (by decide)), Sm.le (k := 10) (Nat.le_of_lt (natAbs_mul_lt (a := 10 ^ 5) (b := 10 ^ 5) hp.1 hp.2)) (by decide), rfl, rfl⟩⟩) eT_is
theorem due_div0 {n m : Int} : Con w mean mg mb 290 [.str "/" t1, .int n t2, .int m t3] 3 48 (fun _ => n.natAbs < 10 ^ 5 ∧ m.natAbs < 10 ^ 5 ∧ m = 0) (OutS "DZ") :=
  Con.run (i := 43) (D := 2) (U := 32) (n := 40) (Q := Lp.no) (rb := [("b", .int m t3), ("a", .int n t2), ("op", .str "/" t1)])
    (μ := [("b", .int m), ("a", .int n), ("op", .str "/")]) (by k_is) (by k_is) rfl rfl rfl rfl
    (.nil) (by decide) (by decide) (fun h hp => ⟨⟨rfl, rfl, ⟨_, rfl⟩, rfl, rfl, ⟨_, rfl⟩, rfl, rfl, ⟨_, rfl⟩, trivial⟩, by
      show br (m == (0 : Int)) (Str.ofString "DZ" = Str.ofString "DZ") False
      exact br_t (beq_iff_eq.mpr hp.2.2) rfl⟩) eS_is
theorem due_cut0 {n m : Int} : Con w mean mg mb 290 [.str "\\" t1, .int n t2, .int m t3] 3 48 (fun _ => n.natAbs < 10 ^ 5 ∧ m.natAbs < 10 ^ 5 ∧ m = 0) (OutS "DZ") :=
  Con.run (i := 43) (D := 2) (U := 32) (n := 40) (Q := Lp.no) (rb := [("b", .int m t3), ("a", .int n t2), ("op", .str "\\" t1)])
    (μ := [("b", .int m), ("a", .int n), ("op", .str "\\")]) (by k_is) (by k_is) rfl rfl rfl rfl
    (.nil) (by decide) (by decide) (fun h hp => ⟨⟨rfl, rfl, ⟨_, rfl⟩, rfl, rfl, ⟨_, rfl⟩, rfl, rfl, ⟨_, rfl⟩, trivial⟩, by
      show br (m == (0 : Int)) (Str.ofString "DZ" = Str.ofString "DZ") False
      exact br_t (beq_iff_eq.mpr hp.2.2) rfl⟩) eS_is
theorem due_mod0 {n m : Int} : Con w mean mg mb 290 [.str "MOD" t1, .int n t2, .int m t3] 3 48 (fun _ => n.natAbs < 10 ^ 5 ∧ m.natAbs < 10 ^ 5 ∧ m = 0) (OutS "DZ") :=
  Con.run (i := 43) (D := 2) (U := 32) (n := 40) (Q := Lp.no) (rb := [("b", .int m t3), ("a", .int n t2), ("op", .str "MOD" t1)])
    (μ := [("b", .int m), ("a", .int n), ("op", .str "MOD")]) (by k_is) (by k_is) rfl rfl rfl rfl
    (.nil) (by decide) (by decide) (fun h hp => ⟨⟨rfl, rfl, ⟨_, rfl⟩, rfl, rfl, ⟨_, rfl⟩, rfl, rfl, ⟨_, rfl⟩, trivial⟩, by
      show br (m == (0 : Int)) (Str.ofString "DZ" = Str.ofString "DZ") False
      exact br_t (beq_iff_eq.mpr hp.2.2) rfl⟩) eS_is
theorem sm_one {c : Int} (h : c = 1 ∨ c = 0 - 1) : Sm c := Sm.small (by omega) (by omega)
theorem due_div_vc {n m q c : Int} (g : Sm q ∧ Sm (q * c) ∧ Sm (q * c * m) ∧ Sm (n - q * c * m)) (hc : c = 1 ∨ c = 0 - 1) (sm : Sm m) (e : q * c = cutQ n m) : IntMulOk q c ∧ IntMulOk (q * c) m ∧ br (q * c * m == n) (Sm (q * c) ∧ true = true ∧ q * c = cutQ n m ∧ cutQ n m * m = n) (Value.none = Value.none ∧ (cutQ n m * m = n → False)) :=
  ⟨Sm.mulOk g.1 (sm_one hc), Sm.mulOk g.2.1 sm, br_i (fun z => ⟨g.2.1, rfl, e, e ▸ eq_of_beq z⟩) fun z => ⟨rfl, fun w => ne_of_beq_false z (e ▸ w)⟩⟩
theorem due_cut_vc {n m q c : Int} (g : Sm q ∧ Sm (q * c) ∧ Sm (q * c * m) ∧ Sm (n - q * c * m)) (hc : c = 1 ∨ c = 0 - 1) (e : q * c = cutQ n m) : IntMulOk q c ∧ Sm (q * c) ∧ true = true ∧ lawDec (q * c) = lawDec (cutQ n m) :=
  ⟨Sm.mulOk g.1 (sm_one hc), g.2.1, rfl, congrArg lawDec e⟩
theorem due_mod_vc {n m q c : Int} (g : Sm q ∧ Sm (q * c) ∧ Sm (q * c * m) ∧ Sm (n - q * c * m)) (hc : c = 1 ∨ c = 0 - 1) (sm : Sm m) (e : q * c = cutQ n m) : IntMulOk q c ∧ IntMulOk (q * c) m ∧ Sm (n - q * c * m) ∧ true = true ∧ lawDec (n - q * c * m) = lawDec (n - m * cutQ n m) :=
  ⟨Sm.mulOk g.1 (sm_one hc), Sm.mulOk g.2.1 sm, g.2.2.2, rfl, by rw [e, Int.mul_comm m]⟩
theorem due_div {n m : Int} : Con w mean mg mb 290 [.str "/" t1, .int n t2, .int m t3] 3 48 (fun _ => n.natAbs < 10 ^ 5 ∧ m.natAbs < 10 ^ 5 ∧ m ≠ 0) (fun h h' r => (cutQ n m * m = n ∧ OutT (lawDec (cutQ n m)) h h' r) ∨ (cutQ n m * m ≠ n ∧ r = .none)) :=
  Con.run (i := 43) (D := 2) (U := 32) (n := 40) (Q := Lp.no) (rb := [("b", .int m t3), ("a", .int n t2), ("op", .str "/" t1)])
    (μ := [("b", .int m), ("a", .int n), ("op", .str "/")]) (by k_is) (by k_is) rfl rfl rfl rfl
    (.cons ok_abs (.cons (ok_law_decimal (by decide) (by decide)) .nil)) (by decide) (by decide) (fun h hp => ⟨⟨rfl, rfl, ⟨_, rfl⟩, rfl, rfl, ⟨_, rfl⟩, rfl, rfl, ⟨_, rfl⟩, trivial⟩, by
      show br (m == (0 : Int)) False (absI m ≠ (0 : Int) ∧ (absI m).natAbs.log2 < (9000 : Nat) ∧ br (decide (n < (0 : Int)) == decide (m < (0 : Int))) (IntMulOk ((absI n).fdiv (absI m)) (1 : Int) ∧ IntMulOk ((absI n).fdiv (absI m) * (1 : Int)) m ∧ br ((absI n).fdiv (absI m) * (1 : Int) * m == n) (Sm ((absI n).fdiv (absI m) * (1 : Int)) ∧ true = true ∧ (absI n).fdiv (absI m) * (1 : Int) = cutQ n m ∧ cutQ n m * m = n) (Value.none = Value.none ∧ (cutQ n m * m = n → False))) (IntMulOk ((absI n).fdiv (absI m)) ((0 : Int) - (1 : Int)) ∧ IntMulOk ((absI n).fdiv (absI m) * ((0 : Int) - (1 : Int))) m ∧ br ((absI n).fdiv (absI m) * ((0 : Int) - (1 : Int)) * m == n) (Sm ((absI n).fdiv (absI m) * ((0 : Int) - (1 : Int))) ∧ true = true ∧ (absI n).fdiv (absI m) * ((0 : Int) - (1 : Int)) = cutQ n m ∧ cutQ n m * m = n) (Value.none = Value.none ∧ (cutQ n m * m = n → False))))
      obtain ⟨h1, h2, h3⟩ := hp
      have sm : Sm m := Sm.le (k := 5) (Nat.le_of_lt h2) (by decide)
      refine br_f (beq_eq_false_iff_ne.mpr h3) ⟨absI_ne h3, (sm_absI sm).log2, br_i (fun g => ?_) fun g => ?_⟩
      · exact due_div_vc (cut_facts 1 (.inl rfl) h1 h2 h3) (.inl rfl) sm (cut_pos g)
      · exact due_div_vc (cut_facts (0 - 1) (.inr rfl) h1 h2 h3) (.inr rfl) sm (cut_neg g)⟩) eD_is
theorem due_cut {n m : Int} : Con w mean mg mb 290 [.str "\\" t1, .int n t2, .int m t3] 3 48 (fun _ => n.natAbs < 10 ^ 5 ∧ m.natAbs < 10 ^ 5 ∧ m ≠ 0) (OutT (lawDec (cutQ n m))) :=
  Con.run (i := 43) (D := 2) (U := 32) (n := 40) (Q := Lp.no) (rb := [("b", .int m t3), ("a", .int n t2), ("op", .str "\\" t1)])
    (μ := [("b", .int m), ("a", .int n), ("op", .str "\\")]) (by k_is) (by k_is) rfl rfl rfl rfl
    (.cons ok_abs (.cons (ok_law_decimal (by decide) (by decide)) .nil)) (by decide) (by decide) (fun h hp => ⟨⟨rfl, rfl, ⟨_, rfl⟩, rfl, rfl, ⟨_, rfl⟩, rfl, rfl, ⟨_, rfl⟩, trivial⟩, by
      show br (m == (0 : Int)) False (absI m ≠ (0 : Int) ∧ (absI m).natAbs.log2 < (9000 : Nat) ∧ br (decide (n < (0 : Int)) == decide (m < (0 : Int))) (IntMulOk ((absI n).fdiv (absI m)) (1 : Int) ∧ Sm ((absI n).fdiv (absI m) * (1 : Int)) ∧ true = true ∧ lawDec ((absI n).fdiv (absI m) * (1 : Int)) = lawDec (cutQ n m)) (IntMulOk ((absI n).fdiv (absI m)) ((0 : Int) - (1 : Int)) ∧ Sm ((absI n).fdiv (absI m) * ((0 : Int) - (1 : Int))) ∧ true = true ∧ lawDec ((absI n).fdiv (absI m) * ((0 : Int) - (1 : Int))) = lawDec (cutQ n m)))
      obtain ⟨h1, h2, h3⟩ := hp
      have sm : Sm m := Sm.le (k := 5) (Nat.le_of_lt h2) (by decide)
      refine br_f (beq_eq_false_iff_ne.mpr h3) ⟨absI_ne h3, (sm_absI sm).log2, br_i (fun g => ?_) fun g => ?_⟩
      · exact due_cut_vc (cut_facts 1 (.inl rfl) h1 h2 h3) (.inl rfl) (cut_pos g)
      · exact due_cut_vc (cut_facts (0 - 1) (.inr rfl) h1 h2 h3) (.inr rfl) (cut_neg g)⟩) eT_is
theorem due_mod {n m : Int} : Con w mean mg mb 290 [.str "MOD" t1, .int n t2, .int m t3] 3 48 (fun _ => n.natAbs < 10 ^ 5 ∧ m.natAbs < 10 ^ 5 ∧ m ≠ 0) (OutT (lawDec (n - m * cutQ n m))) :=
  Con.run (i := 43) (D := 2) (U := 32) (n := 40) (Q := Lp.no) (rb := [("b", .int m t3), ("a", .int n t2), ("op", .str "MOD" t1)])
    (μ := [("b", .int m), ("a", .int n), ("op", .str "MOD")]) (by k_is) (by k_is) rfl rfl rfl rfl
    (.cons ok_abs (.cons (ok_law_decimal (by decide) (by decide)) .nil)) (by decide) (by decide) (fun h hp => ⟨⟨rfl, rfl, ⟨_, rfl⟩, rfl, rfl, ⟨_, rfl⟩, rfl, rfl, ⟨_, rfl⟩, trivial⟩, by
      show br (m == (0 : Int)) False (absI m ≠ (0 : Int) ∧ (absI m).natAbs.log2 < (9000 : Nat) ∧ br (decide (n < (0 : Int)) == decide (m < (0 : Int))) (IntMulOk ((absI n).fdiv (absI m)) (1 : Int) ∧ IntMulOk ((absI n).fdiv (absI m) * (1 : Int)) m ∧ Sm (n - (absI n).fdiv (absI m) * (1 : Int) * m) ∧ true = true ∧ lawDec (n - (absI n).fdiv (absI m) * (1 : Int) * m) = lawDec (n - m * cutQ n m)) (IntMulOk ((absI n).fdiv (absI m)) ((0 : Int) - (1 : Int)) ∧ IntMulOk ((absI n).fdiv (absI m) * ((0 : Int) - (1 : Int))) m ∧ Sm (n - (absI n).fdiv (absI m) * ((0 : Int) - (1 : Int)) * m) ∧ true = true ∧ lawDec (n - (absI n).fdiv (absI m) * ((0 : Int) - (1 : Int)) * m) = lawDec (n - m * cutQ n m)))
      obtain ⟨h1, h2, h3⟩ := hp
      have sm : Sm m := Sm.le (k := 5) (Nat.le_of_lt h2) (by decide)
      refine br_f (beq_eq_false_iff_ne.mpr h3) ⟨absI_ne h3, (sm_absI sm).log2, br_i (fun g => ?_) fun g => ?_⟩
      · exact due_mod_vc (cut_facts 1 (.inl rfl) h1 h2 h3) (.inl rfl) sm (cut_pos g)
      · exact due_mod_vc (cut_facts (0 - 1) (.inr rfl) h1 h2 h3) (.inr rfl) sm (cut_neg g)⟩) eT_is
noncomputable abbrev tup2 (x y : Value) : Obj := { cls := .type "tuple", data := .seq #[x, y] }
/-- where the four kinds lie -/
structure KV where
  (l d1 d2 d3 d4 a1 a2 a3 a4 : Addr)
  (x1 y1 x2 y2 x3 y3 x4 y4 : Tok)
noncomputable abbrev kindsL (z : KV) (n m : Int) (t u : Tok) : List (Addr × Obj) :=
  [(z.l, W.listOf #[Value.ref z.d1, Value.ref z.d2, Value.ref z.d3, Value.ref z.d4] 0), (z.d1, tup2 (.int n t) (.int m u)), (z.d2, tup2 (.int n t) (.ref z.a2)), (z.d3, tup2 (.ref z.a3) (.int m u)), (z.d4, tup2 (.ref z.a4) (.ref z.a1)),
   (z.a1, tupO (lawDec m).1 z.x1 (lawDec m).2 z.y1), (z.a2, tupO (lawDec m).1 z.x2 (lawDec m).2 z.y2), (z.a3, tupO (lawDec n).1 z.x3 (lawDec n).2 z.y3), (z.a4, tupO (lawDec n).1 z.x4 (lawDec n).2 z.y4)]
noncomputable def OutK (n m : Int) (t u : Tok) (h h' : Heap) (r : Value) : Prop := ∃ z : KV, r = .ref z.l ∧ ∀ p ∈ kindsL z n m t u, h'.get? p.1 = some p.2 ∧ h.get? p.1 = none
theorem outK_of {h₀ h : Heap} {L : Addr} {news : List (Addr × Obj)} {n m : Int} {t u x1 y1 x2 y2 x3 y3 x4 y4 : Tok} {l d1 d2 d3 d4 a1 a2 a3 a4 : Addr} (N : News h₀ L h news)
    (k0 : (l, W.listOf #[Value.ref d1, Value.ref d2, Value.ref d3, Value.ref d4] 0) ∈ news) (k1 : (d1, tup2 (.int n t) (.int m u)) ∈ news) (k2 : (d2, tup2 (.int n t) (.ref a2)) ∈ news) (k3 : (d3, tup2 (.ref a3) (.int m u)) ∈ news) (k4 : (d4, tup2 (.ref a4) (.ref a1)) ∈ news)
    (k5 : (a1, tupO (lawDec m).1 x1 (lawDec m).2 y1) ∈ news) (k6 : (a2, tupO (lawDec m).1 x2 (lawDec m).2 y2) ∈ news) (k7 : (a3, tupO (lawDec n).1 x3 (lawDec n).2 y3) ∈ news) (k8 : (a4, tupO (lawDec n).1 x4 (lawDec n).2 y4) ∈ news) : OutK n m t u h₀ h (.ref l) := by
  refine ⟨⟨l, d1, d2, d3, d4, a1, a2, a3, a4, x1, y1, x2, y2, x3, y3, x4, y4⟩, rfl, fun p hp => ?_⟩
  simp only [kindsL, List.mem_cons, List.not_mem_nil, or_false] at hp
  rcases hp with rfl | rfl | rfl | rfl | rfl | rfl | rfl | rfl | rfl <;> exact ⟨(N _ (by assumption)).1, (N _ (by assumption)).2.2⟩
theorem words1 : True := by
  (k_with "my cz" => ((case zF => k_asm); (case zN => k_asm); (case zX => k_asm); (case zT => k_asm)))
  (k_with "my cy" => ((case zp => first | trivial | ((try dsimp only); (repeat' (with_reducible refine And.intro ?_ ?_)) <;> k_extra "my ktr_rel")); (case zd => k_extra "my ktr_room"); (case zu => k_extra "my ktr_room")))
  (k_with "my ee" => ((case ep => k_extra "my evp"); (case ed => k_extra "my ktr_room"); (case eu => k_extra "my ktr_room")))
  (k_with "my ktr_room" => ((try dsimp only [AA]); first | exact room1 hd rfl | exact room hu rfl | exact room hd rfl | omega))
  (k_with "my ktr_rel" => first | trivial | assumption | omega | rfl | (with_reducible exact ⟨_, rfl⟩))
  (k_with "my ktr_rel" => first | exact isV.keeps (by assumption) (Fr.keep (by assumption)) | trivial | k_extra "my is_list" | assumption | k_extra "my ktn_ord" | omega | rfl | (with_reducible exact ⟨_, rfl⟩))
  (k_with "my evp" => first | trivial | ((try dsimp only); (repeat' (with_reducible refine And.intro ?_ ?_)) <;> first | exact isV.keeps (isV.keeps (by assumption) (Cx.F C9).keep) st9 | k_extra "my ktr_rel"))
  (k_with "my ev" => first
    | exact Ev.lit
    | exact Ev.nmI C9 rfl
    | (apply Ev.add; k_extra "my ev"; k_extra "my ev")
    | (apply Ev.sub; k_extra "my ev"; k_extra "my ev")
    | (apply Ev.mul; k_extra "my ev"; k_extra "my ev"; first | exact Sm.mulOk (by k_extra "my ktn_ord") (by k_extra "my ktn_ord") | mul_fits)
    | (apply Ev.fdiv; k_extra "my ev"; k_extra "my ev"; k_extra "my km_fact"; k_extra "my kbt_ne")
    | (apply Ev.mod; k_extra "my ev"; k_extra "my ev"; k_extra "my km_fact")
    | (apply Ev.pow; k_extra "my ev"; k_extra "my ev"; omega; omega; first | decide | omega)
    | (apply Ev.neg; k_extra "my ev")
    | (apply Ev.cmpI; k_extra "my ev"; k_extra "my ev"; k_extra "my cmp"; rfl)
    | (apply Ev.item0; k_extra "my evt")
    | (apply Ev.item1; k_extra "my evt")
    | (apply Ev.call C9; rfl; rfl; rfl; rfl; k_is; k_is; k_extra "my evl"; (intro hh9 st9; (repeat (intro _)); k_extra "my evk"))
    | (apply Ev.abs C9; rfl; k_is; rfl; k_extra "my ev")
    | (apply Ev.isi C9; rfl; k_is; rfl; rfl; k_extra "my evl"; k_extra "my isi")
    | ((rename EvIf => if9); apply Ev.iteI; k_extra "my ec"; (intro hc9; k_extra "my ev"); (intro hc9; k_extra "my ev"))
    | exact Ev.text
    | exact Ev.nmS C9 rfl
    | exact Ev.nmB C9 rfl
    | (refine' Ev.nmT C9 rfl ?i; (case i => is_list))
    | exact Ev.nmV C9 rfl
    | (apply Ev.nmBT C9; rfl; rfl; boot_fast; decide; k_is))
  (k_with "my isi" => first | exact IsiIs.tt | exact IsiIs.ts | exact IsiIs.it | exact IsiIs.is)
  (k_with "my evt" => (refine' Ev.nmT C9 rfl ?i; (case i => is_list)))
  (k_with "my evl" => first | exact EvL.nil | (apply EvL.cons; k_extra "my ev"; k_extra "my evl"; rfl))
  (k_with "my cmp" => first | exact CmpIs.eq | exact CmpIs.lt | exact CmpIs.ne | exact CmpIs.le | exact CmpIs.gt | exact CmpIs.ge | exact CmpIs.eqs | exact CmpIs.nes | exact CmpIs.eqb)
  (k_with "my ec" => first | (apply Ec.cmpI; k_extra "my ev"; k_extra "my ev"; k_extra "my cmp"; rfl) | (apply Ec.plain; k_extra "my ev"; (intro _; rfl)) | (apply Ec.not; k_extra "my ec"))
  (k_with "my cx" => (refine' Cx.mk ?cxX ?cxT ?cxF ?cxl ?cxg ?cxk ?cxb; (case cxF => k_asm); (case cxX => k_asm); (case cxT => k_asm); (case cxl => rfl); (case cxg => rfl); (case cxk => rfl); (case cxb => rfl)))
  (k_with "my evline" => (k_here; k_whole; (fail_if_success (rename EvOff => off9)); k_dflt (refine' Ev.use0 ?C ?N ?ev ?_; (case C => k_extra "my cx"); (case N => k_asm); (case ev => (intro C9; k_extra "my ev")); first | (refine giveI ?_; intro t9 h9 tk9 F9 N9) | (refine giveT ?_; intro a9 t9 v9 h9 tk9 F9 N9) | (refine giveB ?_; intro h9 tk9 F9 N9) | (refine giveV ?_; intro r9 h9 tk9 F9 N9 O9) | (refine giveT3 ?_; intro a9 t9 v9 x9 h9 tk9 F9 N9))))
  (k_with "eval Call" => k_extra "my evline")
  (k_with "eval BinOp" => k_extra "my evline")
  (k_with "eval UnaryOp" => k_extra "my evline")
  (k_with "eval Compare" => k_extra "my evline")
  (k_with "eval Subscript" => k_extra "my evline")
  (k_with "my ecline" => (k_here; k_whole; (fail_if_success (rename EvOff => off9)); k_dflt (refine' Ec.use0 ?C ?N ?ev ?_; (case C => k_extra "my cx"); (case N => k_asm); (case ev => (intro C9; k_extra "my ec")); intro h9 tk9 F9 N9)))
  (k_with "isTrue Compare" => k_extra "my ecline")
  (k_with "isTrue Call" => k_extra "my ecline")
  (k_with "isTrue UnaryOp" => k_extra "my ecline")
  (k_with "my ktr_enter" => (
  refine' enter ?eX_k9 ?eT_k9 ?eo_k9 ?ec_k9 ?er_k9 ?ep ?eb_k9 ?es_k9 ?ez_k9 ?eR_k9 ?ek_k9 ?el_k9 ?_ ?ee_k9 ?e1_k9 ?e2_k9 ?e3_k9
  (case eX_k9 => assumption)
  (case eT_k9 => assumption)
  (case eo_k9 => k_is)
  (case ec_k9 => k_is)
  (case er_k9 => (show (_ : Nat) < _; (try dsimp only [AA]); omega))
  (case ep => (conv => lhs; whnf))
  (case eb_k9 => (conv => lhs; whnf))
  (case es_k9 => (conv => lhs; whnf))
  (case ez_k9 => (conv => lhs; simp only [List.map_cons, List.map_nil, List.zip_cons_cons, List.zip_nil_right, List.zip_nil_left]))
  (case eR_k9 => (conv => lhs; simp only [List.reverse_cons, List.reverse_nil, List.nil_append, List.cons_append]))
  (case ek_k9 => exact rfl)
  (case el_k9 => exact rfl)
  (case ee_k9 => exact rfl)
  (case e1_k9 => exact rfl)
  (case e2_k9 => exact rfl)
  (case e3_k9 => exact rfl)
  intro _ _ _ _ _
  try dsimp only
  try k_fold))
  (k_with "my k_steps" => repeat' (first | (k_unfold; (try dsimp only)) | ((with_reducible show wpAny _ _ (exec _ _) _ _ _); k_whole; k_fold) | ((with_reducible show (_ : Flow → Shared → Prop) _ _); k_unfold; (try dsimp only)) | ((with_reducible show (_ : Value → Shared → Prop) _ _); k_unfold; (try dsimp only)) | walk1 | (dsimp only; k_unfold; (try dsimp only)) | (dsimp only; walk1) | fail "no step"))
  (k_with "my k_steps" => repeat' (first | (k_unfold; (try dsimp only)) | ((with_reducible show wpAny _ _ (exec _ _) _ _ _); k_whole; k_fold) | ((with_reducible show (_ : Flow → Shared → Prop) _ _); k_unfold; (try dsimp only)) | ((with_reducible show (_ : Value → Shared → Prop) _ _); k_unfold; (try dsimp only)) | ((fail_if_success (with_reducible show wpAny _ _ (exec (Stmt.While _ _ _ _) _) _ _ _)); walk1) | (dsimp only; k_unfold; (try dsimp only)) | (dsimp only; (fail_if_success (with_reducible show wpAny _ _ (exec (Stmt.While _ _ _ _) _) _ _ _)); walk1) | fail "no step"))
  (k_with "my km_fact" => first | exact pow10_ne _ | assumption | omega | decide)
  (k_with "my kbt_ne" => first | exact (Sm.pow10 (by omega)).log2 | exact (Sm.small (by omega) (by omega)).log2 | exact Sm.log2 (by assumption))
  (k_with "binaryOp FloorDiv int int" => (k_here; (with_reducible refine floordiv_int ?kzb_k9 ?_ (Or.inl (PyProof.noPylong_of_log2 ?kzp_k9))); (case kzb_k9 => k_extra "my km_fact"); (case kzp_k9 => k_extra "my kbt_ne")))
  (k_with "inplaceOp FloorDiv int int" => (k_here; (with_reducible refine ifloordiv_int ?kzb_k9 ?_ (Or.inl (PyProof.noPylong_of_log2 ?kzp_k9))); (case kzb_k9 => k_extra "my km_fact"); (case kzp_k9 => k_extra "my kbt_ne")))
  (k_with "binaryOp Mod int int" => (k_here; (with_reducible refine mod_int' ?kzb_k9 ?_); (case kzb_k9 => k_extra "my km_fact")))
  (k_with "call builtin:abs" => (k_here; (refine call_abs ?_); intro _ _))
  (k_with "my ktn_ord" => first | assumption | exact Sm.pow10 (by omega) | exact Sm.small (by omega) (by omega))
  (k_with "binaryOp Mult int int" => (k_here; (with_reducible refine mul_int ?_ ?kzm_k9); (case kzm_k9 => first | exact Sm.mulOk (by k_extra "my ktn_ord") (by k_extra "my ktn_ord") | mul_fits)))
  (k_with "call ref" => (k_here; k_dflt (refine' Con.useI figures_of_c ?zF ?zN ?zX ?zT ?zp ?zd ?zu ?_; k_extra "my cz"; (case zp => trivial); (case zd => k_extra "my ktr_room"); (case zu => k_extra "my ktr_room")); intro _ _ _ _ _))
  (k_with "call ref" => (k_here; k_dflt (refine' Con.useI rounded_by_c ?zF ?zN ?zX ?zT ?zp ?zd ?zu ?_; k_extra "my cz"; (case zp => ((try dsimp only); omega)); (case zd => k_extra "my ktr_room"); (case zu => k_extra "my ktr_room")); intro _ _ _ _ _))
  (k_with "call ref" => (k_here; k_dflt (refine' Con.useT made_c ?zF ?zN ?zX ?zT ?zp ?zd ?zu ?_; k_extra "my cz"; k_extra "my cy"); intro _ _ _ _ _ _ _))
  (k_with "call ref" => (k_here; k_dflt (refine' Con.useI whole_near_c ?zF ?zN ?zX ?zT ?zp ?zd ?zu ?_; k_extra "my cz"; k_extra "my cy"); intro _ _ _ _ _))
  (k_with "call ref" => (k_here; k_dflt (refine' Con.useB fits_c ?zF ?zN ?zX ?zT ?zp ?zd ?zu ?_; k_extra "my cz"; k_extra "my cy"); intro _ _ _ _))
  (k_with "call ref" => (k_here; k_dflt (refine' Con.useI whole_of_ci ?zF ?zN ?zX ?zT ?zp ?zd ?zu ?_; k_extra "my cz"; k_extra "my cy"); intro _ _ _ _ _))
  (k_with "call ref" => (k_here; k_dflt (refine' Con.useI whole_of_ct ?zF ?zN ?zX ?zT ?zp ?zd ?zu ?_; k_extra "my cz"; k_extra "my cy"); intro _ _ _ _ _))
  (k_with "call ref" => (k_here; k_dflt (refine' Con.useT decimal_of_ci ?zF ?zN ?zX ?zT ?zp ?zd ?zu ?_; k_extra "my cz"; k_extra "my cy"); intro _ _ _ _ _ _ _))
  (k_with "call ref" => (k_here; k_dflt (refine' Con.useT decimal_of_ct ?zF ?zN ?zX ?zT ?zp ?zd ?zu ?_; k_extra "my cz"; k_extra "my cy"); intro _ _ _ _ _ _ _))
  (k_with "call ref" => (k_here; k_dflt (refine' Con.useT d_negated_c ?zF ?zN ?zX ?zT ?zp ?zd ?zu ?_; k_extra "my cz"; k_extra "my cy"); intro _ _ _ _ _ _ _))
  (k_with "call ref" => (k_here; k_dflt (refine' Con.useT3 alike_c ?zF ?zN ?zX ?zT ?zp ?zd ?zu ?_; k_extra "my cz"; k_extra "my cy"); intro _ _ _ _ _ _ _ _))
  (k_with "call ref" => (k_here; k_dflt (refine' Con.useT with_rest_c ?zF ?zN ?zX ?zT ?zp ?zd ?zu ?_; k_extra "my cz"; k_extra "my cy"); intro _ _ _ _ _ _ _))
  (k_with "call ref" => (k_here; k_dflt (refine' Con.useT d_add_c ?zF ?zN ?zX ?zT ?zp ?zd ?zu ?_; k_extra "my cz"; k_extra "my cy"); intro _ _ _ _ _ _ _))
  (k_with "call ref" => (k_here; k_dflt (refine' Con.useT d_mul_c ?zF ?zN ?zX ?zT ?zp ?zd ?zu ?_; k_extra "my cz"; k_extra "my cy"); intro _ _ _ _ _ _ _))
  (k_with "call ref" => (k_here; k_dflt (refine' Con.useT d_sub_c ?zF ?zN ?zX ?zT ?zp ?zd ?zu ?_; k_extra "my cz"; k_extra "my cy"); intro _ _ _ _ _ _ _))
  (k_with "call ref" => (k_here; k_dflt (refine' Con.useT d_div_c ?zF ?zN ?zX ?zT ?zp ?zd ?zu ?_; k_extra "my cz"; k_extra "my cy"); intro _ _ _ _ _ _ _))
  (k_with "call ref" => (k_here; k_dflt (refine' Con.useI d_compare_c ?zF ?zN ?zX ?zT ?zp ?zd ?zu ?_; k_extra "my cz"; k_extra "my cy"); intro _ _ _ _ _))
  (k_with "call ref" => (k_here; k_dflt (refine' Con.useT square_c ?zF ?zN ?zX ?zT ?zp ?zd ?zu ?_; k_extra "my cz"; k_extra "my cy"); intro _ _ _ _ _ _ _))
  (k_with "call ref" => (k_here; k_dflt (refine' Con.useT decimal_of_v ?zF ?zN ?zX ?zT ?zp ?zd ?zu ?_; k_extra "my cz"; k_extra "my cy"); intro _ _ _ _ _ _ _))
  (k_with "call ref" => (k_here; k_dflt (refine' Con.useI whole_of_v ?zF ?zN ?zX ?zT ?zp ?zd ?zu ?_; k_extra "my cz"; k_extra "my cy"); intro _ _ _ _ _))
  (k_with "call ref" => (k_here; k_dflt (refine' Con.useB is_whole_ci ?zF ?zN ?zX ?zT ?zp ?zd ?zu ?_; k_extra "my cz"; k_extra "my cy"); intro _ _ _ _))
  (k_with "call ref" => (k_here; k_dflt (refine' Con.useB is_whole_ct ?zF ?zN ?zX ?zT ?zp ?zd ?zu ?_; k_extra "my cz"; k_extra "my cy"); intro _ _ _ _))
  (k_with "call ref" => (k_here; k_dflt (refine' Con.useB is_whole_v ?zF ?zN ?zX ?zT ?zp ?zd ?zu ?_; k_extra "my cz"; k_extra "my cy"); intro _ _ _ _))
  (k_with "call ref" => (k_here; k_dflt (refine' Con.useV settled_c ?zF ?zN ?zX ?zT ?zp ?zd ?zu ?_; k_extra "my cz"; k_extra "my cy"); intro _ _ _ _ _ _))
  (k_with "call ref" => (k_here; k_dflt (refine' Con.useV whole_reckoned_c ?zF ?zN ?zX ?zT ?zp ?zd ?zu ?_; k_extra "my cz"; k_extra "my cy"); intro _ _ _ _ _ _))
  (k_with "call ref" => (k_here; k_dflt (refine' Con.useI cut_quotient_c ?zF ?zN ?zX ?zT ?zp ?zd ?zu ?_; k_extra "my cz"; k_extra "my cy"); intro _ _ _ _ _))
  (k_with "call ref" => (k_here; k_dflt (refine' Con.useI exponent_of_v ?zF ?zN ?zX ?zT ?zp ?zd ?zu ?_; k_extra "my cz"; k_extra "my cy"); intro _ _ _ _ _))
  (k_with "call ref" => (k_here; k_dflt (refine' Con.useV whole_power_c ?zF ?zN ?zX ?zT ?zp ?zd ?zu ?_; k_extra "my cz"; k_extra "my cy"); intro _ _ _ _ _ _))
  (k_with "call ref" => (k_here; k_dflt (refine' Con.useV whole_reckoned_v ?zF ?zN ?zX ?zT ?zp ?zd ?zu ?_; k_extra "my cz"; k_extra "my cy"); intro _ _ _ _ _ _))
  (k_with "call ref" => (k_here; k_dflt (refine' Con.useV whole_power_v ?zF ?zN ?zX ?zT ?zp ?zd ?zu ?_; k_extra "my cz"; k_extra "my cy"); intro _ _ _ _ _ _))
  (k_with "call ref" => (k_here; k_dflt (refine' Con.useT d_power_c ?zF ?zN ?zX ?zT ?zp ?zd ?zu ?_; k_extra "my cz"; k_extra "my cy"); intro _ _ _ _ _ _ _))
  (k_with "call ref" => (k_here; k_dflt (refine' Con.useT d_add_l ?zF ?zN ?zX ?zT ?zp ?zd ?zu ?_; k_extra "my cz"; k_extra "my cy"); intro _ _ _ _ _ _ _))
  (k_with "call ref" => (k_here; k_dflt (refine' Con.useT d_sub_l ?zF ?zN ?zX ?zT ?zp ?zd ?zu ?_; k_extra "my cz"; k_extra "my cy"); intro _ _ _ _ _ _ _))
  (k_with "call ref" => (k_here; k_dflt (refine' Con.useT d_mul_l ?zF ?zN ?zX ?zT ?zp ?zd ?zu ?_; k_extra "my cz"; k_extra "my cy"); intro _ _ _ _ _ _ _))
  (k_with "call ref" => (k_here; k_dflt (refine' Con.useT d_div_l ?zF ?zN ?zX ?zT ?zp ?zd ?zu ?_; k_extra "my cz"; k_extra "my cy"); intro _ _ _ _ _ _ _))
  (k_with "call ref" => (k_here; k_dflt (refine' Con.useI d_compare_l ?zF ?zN ?zX ?zT ?zp ?zd ?zu ?_; k_extra "my cz"; k_extra "my cy"); intro _ _ _ _ _))
  (k_with "call ref" => (k_here; k_dflt (refine' Con.useV negated_v ?zF ?zN ?zX ?zT ?zp ?zd ?zu ?_; k_extra "my cz"; k_extra "my cy"); intro _ _ _ _ _ _))
  (k_with "call ref" => (k_here; k_dflt (refine' Con.useI order_v ?zF ?zN ?zX ?zT ?zp ?zd ?zu ?_; k_extra "my cz"; k_extra "my cy"); intro _ _ _ _ _))
  (k_with "call ref" => (k_here; k_dflt (refine' Con.useB stands_c ?zF ?zN ?zX ?zT ?zp ?zd ?zu ?_; k_extra "my cz"; k_extra "my cy"); intro _ _ _ _))
  (k_with "call ref" => (k_here; k_dflt (refine' Con.useI inverted_c ?zF ?zN ?zX ?zT ?zp ?zd ?zu ?_; k_extra "my cz"; k_extra "my cy"); intro _ _ _ _ _))
  (k_with "call ref" => (k_here; k_dflt (refine' Con.useT dec_c ?zF ?zN ?zX ?zT ?zp ?zd ?zu ?_; k_extra "my cz"; k_extra "my cy"); intro _ _ _ _ _ _ _))
  (k_with "my evk" => (refine' CallOK.I figures_of_c ?ep ?ed ?eu; k_extra "my ee"))
  (k_with "my evk" => (refine' CallOK.I rounded_by_c ?ep ?ed ?eu; k_extra "my ee"))
  (k_with "my evk" => (refine' CallOK.T made_c ?ep ?ed ?eu; k_extra "my ee"))
  (k_with "my evk" => (refine' CallOK.I whole_near_c ?ep ?ed ?eu; k_extra "my ee"))
  (k_with "my evk" => (refine' CallOK.B fits_c ?ep ?ed ?eu; k_extra "my ee"))
  (k_with "my evk" => (refine' CallOK.I whole_of_ci ?ep ?ed ?eu; k_extra "my ee"))
  (k_with "my evk" => (refine' CallOK.I whole_of_ct ?ep ?ed ?eu; k_extra "my ee"))
  (k_with "my evk" => (refine' CallOK.T decimal_of_ci ?ep ?ed ?eu; k_extra "my ee"))
  (k_with "my evk" => (refine' CallOK.T decimal_of_ct ?ep ?ed ?eu; k_extra "my ee"))
  (k_with "my evk" => (refine' CallOK.T d_negated_c ?ep ?ed ?eu; k_extra "my ee"))
  (k_with "my evk" => (refine' CallOK.T3 alike_c ?ep ?ed ?eu; k_extra "my ee"))
  (k_with "my evk" => (refine' CallOK.T with_rest_c ?ep ?ed ?eu; k_extra "my ee"))
  (k_with "my evk" => (refine' CallOK.T d_add_c ?ep ?ed ?eu; k_extra "my ee"))
  (k_with "my evk" => (refine' CallOK.T d_mul_c ?ep ?ed ?eu; k_extra "my ee"))
  (k_with "my evk" => (refine' CallOK.T d_sub_c ?ep ?ed ?eu; k_extra "my ee"))
  (k_with "my evk" => (refine' CallOK.T d_div_c ?ep ?ed ?eu; k_extra "my ee"))
  (k_with "my evk" => (refine' CallOK.I d_compare_c ?ep ?ed ?eu; k_extra "my ee"))
  (k_with "my evk" => (refine' CallOK.T square_c ?ep ?ed ?eu; k_extra "my ee"))
  (k_with "my evk" => (refine' CallOK.T decimal_of_v ?ep ?ed ?eu; k_extra "my ee"))
  (k_with "my evk" => (refine' CallOK.I whole_of_v ?ep ?ed ?eu; k_extra "my ee"))
  (k_with "my evk" => (refine' CallOK.B is_whole_ci ?ep ?ed ?eu; k_extra "my ee"))
  (k_with "my evk" => (refine' CallOK.B is_whole_ct ?ep ?ed ?eu; k_extra "my ee"))
  (k_with "my evk" => (refine' CallOK.B is_whole_v ?ep ?ed ?eu; k_extra "my ee"))
  (k_with "my evk" => (refine' CallOK.V settled_c ?ep ?ed ?eu; k_extra "my ee"))
  (k_with "my evk" => (refine' CallOK.V whole_reckoned_c ?ep ?ed ?eu; k_extra "my ee"))
  (k_with "my evk" => (refine' CallOK.I cut_quotient_c ?ep ?ed ?eu; k_extra "my ee"))
  (k_with "my evk" => (refine' CallOK.I exponent_of_v ?ep ?ed ?eu; k_extra "my ee"))
  (k_with "my evk" => (refine' CallOK.V whole_power_c ?ep ?ed ?eu; k_extra "my ee"))
  (k_with "my evk" => (refine' CallOK.V whole_reckoned_v ?ep ?ed ?eu; k_extra "my ee"))
  (k_with "my evk" => (refine' CallOK.V whole_power_v ?ep ?ed ?eu; k_extra "my ee"))
  (k_with "my evk" => (refine' CallOK.T d_power_c ?ep ?ed ?eu; k_extra "my ee"))
  (k_with "my evk" => (refine' CallOK.T d_add_l ?ep ?ed ?eu; k_extra "my ee"))
  (k_with "my evk" => (refine' CallOK.T d_sub_l ?ep ?ed ?eu; k_extra "my ee"))
  (k_with "my evk" => (refine' CallOK.T d_mul_l ?ep ?ed ?eu; k_extra "my ee"))
  (k_with "my evk" => (refine' CallOK.T d_div_l ?ep ?ed ?eu; k_extra "my ee"))
  (k_with "my evk" => (refine' CallOK.I d_compare_l ?ep ?ed ?eu; k_extra "my ee"))
  (k_with "my evk" => (refine' CallOK.V negated_v ?ep ?ed ?eu; k_extra "my ee"))
  (k_with "my evk" => (refine' CallOK.I order_v ?ep ?ed ?eu; k_extra "my ee"))
  (k_with "my evk" => (refine' CallOK.B stands_c ?ep ?ed ?eu; k_extra "my ee"))
  (k_with "my evk" => (refine' CallOK.I inverted_c ?ep ?ed ?eu; k_extra "my ee"))
  (k_with "my evk" => (refine' CallOK.T dec_c ?ep ?ed ?eu; k_extra "my ee"))
  (k_with "call builtin:min" => (k_here; k_dflt (refine' call_min ?kz1_k9 ?kz2_k9 ?kz3_k9 ?_; (case kz1_k9 => rfl); (case kz2_k9 => k_asm); (case kz3_k9 => k_asm)); intro _ _ _ _ _))
  (k_with "call builtin:max" => (k_here; k_dflt (refine' call_max ?kz1_k9 ?kz2_k9 ?kz3_k9 ?_; (case kz1_k9 => rfl); (case kz2_k9 => k_asm); (case kz3_k9 => k_asm)); intro _ _ _ _ _))
  (k_with "binaryOp Pow int int" => (k_here; (with_reducible refine pow_int_small ?kz1_k9 ?kz2_k9 ?kz3_k9 ?_); (case kz1_k9 => omega); (case kz2_k9 => omega); (case kz3_k9 => first | decide | omega)))
  (k_with "call builtin:isinstance" => (k_here; k_dflt (first | (refine' isi_tup ?kz1_k9 ?kz2_k9 ?_; (case kz1_k9 => k_in); (case kz2_k9 => k_extra "my is_list")) | (refine' isi_tup_str ?kz1_k9 ?kz2_k9 ?_; (case kz1_k9 => k_in); (case kz2_k9 => k_extra "my is_list"))); intro _))
  (k_with "my is_list" => first | exact Has.t0 (by assumption) (by assumption) (by assumption) | exact Has.t1 (by assumption) (by assumption) (by assumption) | exact Has.t2 (by assumption) (by assumption) (by assumption) | exact Has.t3 (by assumption) (by assumption) (by assumption) | exact Fr.tup (by assumption) (by assumption) | exact News.isTup (by assumption) (by k_mem) | assumption)
  (k_with "subscriptTail" => (k_here; (with_reducible show wpAny _ _ (subscriptTail _ _ (Value.ref _) (Value.int _ _)) _ _ _); k_dflt (refine' item_tupleT ?kt_k9 ?k1_k9 ?k2_k9 ?k3_k9 ?k4_k9 ?_; (case kt_k9 => k_extra "my is_list"); (case k1_k9 => decide); (case k2_k9 => decide); (case k3_k9 => rfl); (case k4_k9 => rfl))))
  trivial
theorem kinds_c {n m : Int} : Con w mean mg mb 283 [.int n t1, .int m t2] 3 48 (fun _ => Sm n ∧ Sm m) (OutK n m t1 t2) := by
  intro dp un fr gd s Q E X T hp hd hu hret
  obtain ⟨hp1, hp2⟩ := hp
  k_extra "my ktr_enter"
  k_extra "my k_steps"
  show Q _ _
  exact hret _ _ _ (Fr.keep (by assumption)) (outK_of (by assumption) (by k_mem) (by k_mem) (by k_mem) (by k_mem) (by k_mem) (by k_mem) (by k_mem) (by k_mem) (by k_mem))
/-- the four kinds in the ledger -/
noncomputable def Kinds (tl : List (Addr × Obj)) (l : Addr) (n m : Int) : Prop := ∃ (z : KV) (t u : Tok), z.l = l ∧ ∀ p ∈ kindsL z n m t u, p ∈ tl
noncomputable def Seqs (kl : List (Addr × Obj)) : Prop := ∀ p ∈ kl, ∃ xs kq, p.2.data = .seq xs kq
theorem kindsL_seqs {z : KV} {n m : Int} {t u : Tok} : Seqs (kindsL z n m t u) := fun p hp => by
  simp only [kindsL, List.mem_cons, List.not_mem_nil, or_false] at hp
  rcases hp with rfl | rfl | rfl | rfl | rfl | rfl | rfl | rfl | rfl <;> exact ⟨_, _, rfl⟩
theorem Kinds.sub {tl tl' : List (Addr × Obj)} {l : Addr} {n m : Int} (x : Kinds tl l n m) (k : ∀ p ∈ tl, p ∈ tl') : Kinds tl' l n m := let ⟨z, t, u, e, f⟩ := x; ⟨z, t, u, e, fun p hp => k p (f p hp)⟩
theorem Con.useK {s : Shared} {Q E : Value → Shared → Prop} {f : Addr} {vs : List Value} {d u : Nat} {pre : Heap → Prop} {h₀ : Heap} {L : Addr} {m' : Str → Option Value} {news : List (Addr × Obj)} {dp un : Nat} {fr : Option (List Env)} {gd : Option (List Code)} {n m : Int}
    (C : Con w mean mg mb f vs d u pre (OutK n m t1 t2)) (F : Fr h₀ L s.heap m') (N : News h₀ L s.heap news) (X : (K w.params).In h₀) (T : TopM mean mg mb h₀) (hp : pre s.heap) (hd : dp + d < recursionLimit) (hu : un + u < cLine)
    (k : ∀ l kl h' tk', Kinds kl l n m → Seqs kl → Fr h₀ L h' m' → News h₀ L h' (kl ++ news) → Q (.ref l) { s with heap := h', toks := tk' }) : wpAny (model Pg w) (AA dp un fr gd) (call (.ref f) vs) Q E s :=
  C.use F N X T hp hd hu fun r h' tk' F' N' _ ⟨z, e, ha⟩ => by
    subst e
    refine k z.l (kindsL z n m t1 t2) h' tk' ⟨z, _, _, rfl, fun _ hp => hp⟩ kindsL_seqs F' fun q hq => ?_
    rcases List.mem_append.mp hq with hq | hq
    · exact ⟨(ha q hq).1, fr_has (h' := h') F (ha q hq).2⟩
    · exact N' q hq
theorem enterC {w : World} {mean : ExcName → Option Value} {mg mb : Str → Option Value} {A : Around} {s : Shared} {Q E : Value → Shared → Prop} {f c : Addr} {vs : List Value} {name qual : Str} {params : Arguments} {body : List Stmt} {scope : Scope} {dV pm ct oc : Value} {od : Option Addr} {osl : Array (Option Value)} {binds : List (Str × Value)} {i : Nat}
    (X : (K w.params).In s.heap) (T : TopM mean mg mb s.heap)
    (ho : (K w.params).lookup f = some ⟨oc, od, .func (fnOf name qual (sArgs (stm i)) (sBody (stm i)) (sScope (stm i)) dV .none .none pm none (.ref c) ct), osl⟩)
    (hcd : codeIn (K w.params) (.ref c) qual = true) (hroom : A.depth < recursionLimit)
    (hp : sArgs (stm i) = params) (hb : sBody (stm i) = body) (hs : sScope (stm i) = scope)
    (hz : (params.args.map (·.arg)).zip vs = binds)
    (hbind : bindArgs (fnOf name qual params body scope dV .none .none pm none (.ref c) ct) ⟨vs, []⟩ = pure binds)
    (hkind : (binds.all fun y => scope.names.lookup y.1 == some .local || scope.names.lookup y.1 == some .cell) = true)
    (hnd : ((cellsFrom 0 scope.names []).map (·.1)).Nodup)
    (h : ∀ L' h₁ tk cells, Fr s.heap L' h₁ (bindL (envOfC qual scope L' f (.ref c)).kindOf binds fun _ => none) → News s.heap L' h₁ cells →
      CellsAre (bindC (envOfC qual scope L' f (.ref c)).kindOf binds fun _ => none) (cellsFrom (L' + 1) scope.names []) cells →
      wpAny (model Pg w) (A.deeper (envOfC qual scope L' f (.ref c))) (execs body (envOfC qual scope L' f (.ref c)))
        (fun fl s' => Done Q (match fl with | .ret v => v | _ => .none) s') (fun _ _ => False) { s with heap := h₁, toks := tk })
    (hco : scope.isCoroutine = false) (hgen : scope.isGenerator = false) (hk : scope.kind = .function) :
    wpAny (model Pg w) A (call (.ref f) vs) Q E s := by
  subst hp hb hs
  refine wpAny_call (codeAny_call_function (fd := fnOf name qual (sArgs (stm i)) (sBody (stm i)) (sScope (stm i)) dV .none .none pm none (.ref c) ct) hroom (X _ _ ho) rfl hco hgen rfl (codeRec_of X hcd) ((BindsTo.of_eq hbind) _ _ _ _ ?_))
  refine wpAny_newFunctionEnv_cells hk (kindsX hkind _) fun env' he s' x => ?_
  subst he
  refine ⟨T.nolimit.keeps x.toInCall.keep, codeAny_func ?_⟩
  obtain ⟨h₁, tk, rfl, _⟩ := x.done
  have hk₁ := x.toInCall.keep
  obtain ⟨cells, NC, Y⟩ := Cl.news (h₀ := s.heap) (Nat.le_refl _) fun n c hm => ⟨x.cell n c (lookup_of_mem_nodup (cellsFrom_names (sScope (stm i)).names 0 (s.heap.objs.size + 1) [] [] rfl ▸ hnd) hm), x.above n c hm⟩
  refine wpAny_mono (h s.heap.objs.size h₁ tk cells ⟨x.toInCall.ns, hk₁, Nat.le_refl _⟩ (fun p hp => NC p hp) Y) (fun fl s' y => y) (fun _ _ y => y.elim)
end
end
section
set_option maxHeartbeats 2000000
/-- the dict of an error: it says code -/
noncomputable def CodeIn (h : Heap) (d : Addr) (c : Value) : Prop := ∃ mA, h.Ns d mA ∧ mA "code" = some c
theorem CodeIn.slots {h h' : Heap} {d : Addr} {c : Value} (x : CodeIn h d c) (k : h.UpToSlots h') : CodeIn h' d c :=
  let ⟨mA, a, b⟩ := x; ⟨mA, k.ns a, b⟩
/-- a BasicError under way: its object, its dict, its traceback's mark -/
structure Fly (base : Heap) (l : List Env) (e d : Addr) (c fl : Value) (h : Heap) : Prop where
  stays : base.StaysIn h
  new : base.get? e = none
  frames : h.FunFrames base l
  exc : ∃ vs sl T oT ts, h.get? e = some ⟨.ref 34, some d, .fields vs, sl⟩ ∧ vs[1]? = some (.ref T) ∧ base.get? T = none ∧ T ≠ e ∧ h.get? T = some oT ∧ oT.data = .fields ts ∧ ts[3]? = some fl
  code : CodeIn h d c
/-- a BasicError just made -/
structure Fresh (base : Heap) (l : List Env) (e d : Addr) (c : Value) (h : Heap) : Prop where
  stays : base.StaysIn h
  new : base.get? e = none
  frames : h.FunFrames base l
  exc : ∃ vs sl, h.get? e = some ⟨.ref 34, some d, .fields vs, sl⟩ ∧ vs[1]? = some .none
  code : CodeIn h d c
section
variable {M : Model} {A : Around} {E : Value → Shared → Prop} {s : Shared} {base : Heap} {env : Env} {outer : List Env} {L e d : Addr} {c fl head : Value}
theorem fly_entry {vs : Array Value} {sl : Array (Option Value)} {hadNext : Bool} {Q : Unit → Shared → Prop}
    (hfr : A.frames = some (env :: outer)) (hl : s.heap.FunFrames base (env :: outer)) (hf : env.frame = some L)
    (he : s.heap.get? e = some ⟨.ref 34, some d, .fields vs, sl⟩) (hb : base.StaysIn s.heap) (hn : base.get? e = none) (hsz : 1 < vs.size) (hc : CodeIn s.heap d c)
    (hq : ∀ h', Fly base (env :: outer) e d c (rawInt L) h' → s.heap.UpToSlots h' → Q () { s with heap := h' }) :
    wpAny M A (do let a ← frameOf env; let pl ← entryPlaceOf L hadNext; let b ← EntryCells.newEntry head a .none (rawInt L) .none pl; setField (.ref e) 1 b) Q E s := by
  have ene : e ∉ (env :: outer).filterMap (·.frame) := fun hm => by
    obtain ⟨_, o, ho, nf⟩ := hl.mem hm
    rw [he] at ho; cases ho; exact nf vs rfl
  refine wpAny_bind (wpAny_frameOf_fun hfr hl hf fun h₁ hs₁ => wpAny_bind (wpAny_entryPlaceOf fun pl hpl => ?_))
  unfold EntryCells.newEntry newFields
  refine wpAny_bind (wpAny_newObj_type ?_ (hpl.sizeOk5 _ _ _ _ _))
  have he₁ := (hs₁.2.1 e ene).trans he
  have b₁ : base.StaysIn h₁ := fun b o hbo => (hs₁.2.1 b fun hm => by rw [(hl.mem hm).1] at hbo; cases hbo).trans (hb b o hbo)
  generalize hT : ({ cls := .type "traceback", dict := none, data := .fields ([head, .ref L, .none, rawInt L, .none] ++ (if pl.isEmpty then List.replicate 6 Value.none else pl)).toArray } : Obj) = tb
  have hd₂ : tb.data = .fields ([head, .ref L, .none, rawInt L, .none] ++ (if pl.isEmpty then List.replicate 6 Value.none else pl)).toArray := by rw [← hT]
  have fr₂ : tb.isFreed = false := Obj.isFreed_of_fields hd₂
  have he₂ := Heap.get?_push_of_some (h := h₁) tb he₁
  have Te : h₁.objs.size ≠ e := Nat.ne_of_gt (Heap.lt_size he₁)
  refine wpAny_setField he₂ rfl hsz (hq _ ?_ ?_)
  · have keep : ∀ b o, b ≠ e → h₁.get? b = some o → ((h₁.push tb).update e (Obj.mapFields (·.setIfInBounds 1 (Value.ref h₁.objs.size)))).get? b = some o := fun b o n q => by
      rw [Heap.get?_update_other _ _ (Ne.symm n)]; exact Heap.get?_push_of_some _ q
    refine ⟨fun b o hbo => keep b o (fun q => by rw [q, hn] at hbo; cases hbo) (b₁ b o hbo), hn, hl.of_keeps fun b o q nf => ?_, ?_, ?_⟩
    · obtain ⟨sl', hs⟩ := hs₁.2.2 b o q
      exact ⟨_, keep b _ (fun z => by rw [z, he] at q; cases q; exact nf vs rfl) hs, rfl⟩
    · refine ⟨_, sl, h₁.objs.size, tb, _, (Heap.get?_update_self _ he₂ rfl).trans rfl, by simp [hsz], b₁.fresh, Te, ?_, hd₂, ?_⟩
      · rw [Heap.get?_update_other _ _ (Ne.symm Te)]; exact Heap.get?_push_size _ fr₂
      · rcases hpl with rfl | ⟨_, _, _, _, _, _, _, rfl⟩ <;> simp
    · refine hc.slots fun b o q nf => ?_
      obtain ⟨sl', hs⟩ := hs₁.2.2 b o q
      exact ⟨sl', keep b _ (fun z => by rw [z, he] at q; cases q; exact nf vs rfl) hs⟩
  · intro b o q nf
    obtain ⟨sl', hs⟩ := hs₁.2.2 b o q
    refine ⟨sl', ?_⟩
    rw [Heap.get?_update_other _ _ (fun z => by rw [← z, he] at q; cases q; exact nf vs rfl)]
    exact Heap.get?_push_of_some _ hs
theorem fly_off {l : List Env} {Q : Unit → Shared → Prop} (x : Fly base l e d c fl s.heap) (hq : ∀ h', Fly base l e d c .none h' → s.heap.UpToSlots h' → Q () { s with heap := h' }) :
    wpAny M A (setFlight (.ref e) none) Q E s := by
  obtain ⟨f1, f2, f3, ⟨vs, sl, T, oT, ts, he, h1, nT, Te, hT, dT, h3⟩, f5⟩ := x
  have s3 : 3 < ts.size := (Array.getElem?_eq_some_iff.mp h3).1
  unfold setFlight
  refine wpAny_bind (wpAny_field he rfl h1 ?_)
  rw [if_pos (show (Value.ref T != Value.none) = true from by simp)]
  have other : ∀ b, b ≠ T → (s.heap.update T (Obj.mapFields (·.setIfInBounds 3 ((none : Option Addr).elim Value.none fun f => rawInt f)))).get? b = s.heap.get? b := fun b n => Heap.get?_update_other _ _ (Ne.symm n)
  have up : s.heap.UpToSlots (s.heap.update T (Obj.mapFields (·.setIfInBounds 3 ((none : Option Addr).elim Value.none fun f => rawInt f)))) := fun b o q nf =>
    ⟨o.slots, (other b fun z => by rw [z, hT] at q; cases q; exact nf ts dT).trans q⟩
  refine wpAny_setField hT dT s3 (hq _ ⟨fun b o q => (other b fun z => by rw [z, nT] at q; cases q).trans (f1 b o q), f2, f3.of_keeps fun b o q nf => ?_, ?_, f5.slots up⟩ up)
  · obtain ⟨sl', q'⟩ := up b o q nf; exact ⟨_, q', rfl⟩
  · exact ⟨vs, sl, T, _, _, (other e (Ne.symm Te)).trans he, h1, nT, Te, Heap.get?_update_self _ hT (Obj.isFreed_of_fields (Obj.data_mapFields dT _)), Obj.data_mapFields dT _, by simp [s3]⟩
theorem fly_note_new {Q : Unit → Shared → Prop} (hfr : A.frames = some (env :: outer)) (hf : env.frame = some L) (x : Fresh base (env :: outer) e d c s.heap)
    (hq : ∀ h', Fly base (env :: outer) e d c (rawInt L) h' → s.heap.UpToSlots h' → Q () { s with heap := h' }) : wpAny M A (noteFrame (.ref e) env) Q E s := by
  obtain ⟨f1, f2, f3, ⟨vs, sl, he, h1⟩, f5⟩ := x
  unfold noteFrame
  simp only [hf]
  refine wpAny_bind (wpAny_field he rfl h1 ?_)
  rw [if_neg (by decide)]
  exact fly_entry hfr f3 hf he f1 f2 (Array.getElem?_eq_some_iff.mp h1).1 f5 hq
theorem fly_note {Q : Unit → Shared → Prop} (hfr : A.frames = some (env :: outer)) (hf : env.frame = some L) (x : Fly base (env :: outer) e d c .none s.heap)
    (hq : ∀ h', Fly base (env :: outer) e d c (rawInt L) h' → s.heap.UpToSlots h' → Q () { s with heap := h' }) : wpAny M A (noteFrame (.ref e) env) Q E s := by
  obtain ⟨f1, f2, f3, ⟨vs, sl, T, oT, ts, he, h1, nT, Te, hT, dT, h3⟩, f5⟩ := x
  unfold noteFrame
  simp only [hf]
  refine wpAny_bind (wpAny_field he rfl h1 ?_)
  rw [if_pos (show (Value.ref T != Value.none) = true from by simp)]
  refine wpAny_bind (wpAny_field hT dT h3 ?_)
  rw [if_neg (show ¬ ((Value.none == rawInt L) = true) from by simp [rawInt])]
  refine wpAny_bind (wpAny_setField hT dT (Array.getElem?_eq_some_iff.mp h3).1 ?_)
  have other : ∀ b, b ≠ T → (s.heap.update T (Obj.mapFields (·.setIfInBounds 3 Value.none))).get? b = s.heap.get? b := fun b n => Heap.get?_update_other _ _ (Ne.symm n)
  have up : s.heap.UpToSlots (s.heap.update T (Obj.mapFields (·.setIfInBounds 3 Value.none))) := fun b o q nf => ⟨o.slots, (other b fun z => by rw [z, hT] at q; cases q; exact nf ts dT).trans q⟩
  refine fly_entry (A := A) hfr (f3.of_keeps fun b o q nf => ?_) hf ((other e (Ne.symm Te)).trans he) (fun b o q => (other b fun z => by rw [z, nT] at q; cases q).trans (f1 b o q)) f2 (Array.getElem?_eq_some_iff.mp h1).1 (f5.slots up) fun h' y z => hq h' y (up.trans z)
  obtain ⟨sl', q'⟩ := up b o q nf
  exact ⟨_, q', rfl⟩
theorem Fly.drop {h : Heap} (x : Fly base (env :: outer) e d c fl h) : Fly base outer e d c fl h := ⟨x.stays, x.new, x.frames.2.2, x.exc, x.code⟩
theorem fly_leaves_new {Q : Unit → Shared → Prop} (hfr : A.frames = some (env :: outer)) (hf : env.frame = some L) (x : Fresh base (env :: outer) e d c s.heap)
    (hq : ∀ h', Fly base outer e d c .none h' → s.heap.UpToSlots h' → Q () { s with heap := h' }) : wpAny M A (leaving env (.ref e)) Q E s :=
  wpAny_bind (fly_note_new hfr hf x fun _ y u => fly_off y fun h' z v => hq h' z.drop (u.trans v))
theorem fly_leaves {Q : Unit → Shared → Prop} (hfr : A.frames = some (env :: outer)) (hf : env.frame = some L) (x : Fly base (env :: outer) e d c .none s.heap)
    (hq : ∀ h', Fly base outer e d c .none h' → s.heap.UpToSlots h' → Q () { s with heap := h' }) : wpAny M A (leaving env (.ref e)) Q E s :=
  wpAny_bind (fly_note hfr hf x fun _ y u => fly_off y fun h' z v => hq h' z.drop (u.trans v))
end
end
section
set_option maxHeartbeats 2000000
noncomputable abbrev excB : List Value := [.type "Exception", .type "BaseException", .type "object"]
noncomputable abbrev errObj : Obj := excClassObj (Str.ofString "BasicError") (Str.ofString "BasicError") 34 33 [.type "Exception"] excB true [] [] false none none (some (.ref 15)) none (some (.str (Str.ofString "BasicError") 191)) (some (.str (Str.ofString "BasicError") 199)) (some (.bool true)) "Exception.__new__"
section
variable {w : World} {h : Heap}
theorem cls_at (X : (K w.params).In h) : h.get? 34 = some errObj := X 34 _ (by rfl)
theorem ns_at (X : (K w.params).In h) : ∃ mN, h.Ns 33 mN ∧ mN "__init__" = some (.ref 31) ∧ mN "code" = none ∧ mN "told" = none ∧ mN "__setattr__" = none ∧ mN "__getattribute__" = none ∧ mN "__getattr__" = none := by
  refine ⟨fun n => nsFind _ n, ⟨_, _, _, X 33 _ (by rfl), rfl, ?_, fun _ => rfl⟩, ?_, ?_, ?_, ?_, ?_, ?_⟩
  · intro e he
    simp only [List.mem_toArray, List.mem_cons, List.not_mem_nil, or_false] at he
    rcases he with rfl | rfl | rfl | rfl | rfl | rfl <;> exact ⟨_, _, rfl⟩
  all_goals kernel_rfl
theorem init_at (X : (K w.params).In h) : ∃ o, h.get? 31 = some o ∧ o.cls = .type "function" := ⟨_, X 31 _ (by rfl), rfl⟩
theorem lk_code : typeLookup (.type "Exception") "code" = pure none := by rw [typeLookup_type, builtinLookup_eq_fast]; kernel_rfl
theorem lk_told : typeLookup (.type "Exception") "told" = pure none := by rw [typeLookup_type, builtinLookup_eq_fast]; kernel_rfl
end
section
variable {w : World} {A : Around} {E : Value → Shared → Prop} {h : Heap} {g : Array GenState} {d : Drawn} {t : Nat} {os : OsState} {e dd : Addr} {vs : Array Value} {sl : Array (Option Value)} {c : Value}
theorem code_find {M : Model} {Q : Builtin.ObjectAttr.Found → Shared → Prop} (X : (K w.params).In h) (he : h.get? e = some ⟨.ref 34, some dd, .fields vs, sl⟩) (hc : CodeIn h dd c) (hq : Q (.value c) ⟨h, g, d, t, os⟩) :
    wpAny M A (Builtin.ObjectAttr.find (.ref e) (.ref 34) "code") Q E ⟨h, g, d, t, os⟩ := by
  obtain ⟨mA, hn, hv⟩ := hc
  have hC := cls_at X
  obtain ⟨mN, hN, -, n1, -⟩ := ns_at X
  unfold Builtin.ObjectAttr.find
  repeat (first | (with_reducible refine wpAny_loadPart_at he ?_) | (with_reducible refine wpAny_loadPart_at hC ?_) | (with_reducible refine wpAny_typeLookup_exc hC hN PySem.F.excBase_Exception.mroIs lk_code ?_; rw [n1]) | (with_reducible refine wpAny_nsGet hn ?_; rw [hv]) | wp_step | dsimp only)
  all_goals exact hq
theorem code_attr {expr : Bool} {prog : Program} {Q : Value → Shared → Prop} (X : (K w.params).In h) (he : h.get? e = some ⟨.ref 34, some dd, .fields vs, sl⟩) (hc : CodeIn h dd c) (hh : handedOut c = pure c) (hq : Q c ⟨h, g, d, t + 1, os⟩) :
    wpAny (model prog w) A (getAttr (.ref e) "code" expr) Q E ⟨h, g, d, t, os⟩ := by
  have hC := cls_at X
  obtain ⟨mN, hN, -, n1, -, -, n2, n3⟩ := ns_at X
  have FB := PySem.F.attrBase_Exception
  have f3 := FB.ga.bind (.ref e)
  have hx0 : (expr && onTheHeap (Value.builtin "BaseException.__getattribute__")) = false := by cases expr <;> rfl
  have hx2 : (Value.builtin "BaseException.__getattribute__" == Value.builtin "object.__getattribute__") = false := by decide +kernel
  have hx1 : (onTheHeap (Value.ref 34) && Value.builtin "BaseException.__getattribute__" == Value.builtin "object.__getattribute__") = false := by rw [hx2]; rfl
  unfold getAttr getAttrBy
  repeat (any_goals (first | assumption | (with_reducible refine wpAny_loadPart_at he ?_) | (with_reducible refine wpAny_typeLookup_exc hC hN FB.mro FB.ga.lookup ?_; rw [n2]) | (with_reducible refine wpAny_typeLookup_exc hC hN FB.mro FB.noGetattr ?_; rw [n3]) | wp_step))
  refine codeAny_call_builtin FB.ga.plain PySem.F.entry_bexc_ga (wpAny_check_ga_own FB hC .base he rfl ?_)
  unfold Builtin.«object.__getattribute__»
  repeat (any_goals (first | assumption | (with_reducible refine wpAny_loadPart_at he ?_) | (with_reducible refine code_find X he hc ?_) | wp_step))
theorem set_attr {prog : Program} {name : Str} {v : Value} {mA : Str → Option Value} {ns : List Str} {Q : Unit → Shared → Prop} (X : (K w.params).In h) (hna : ∀ mN : Str → Option Value, h.Ns 33 mN → mN name = none) (hB : typeLookup (.type "Exception") name = pure none)
    (hx : e ≠ 34) (I : h.Inst e 34 mA)
    (hq : ∀ h' tk', h'.Inst e 34 (fun y => if y = name then some v else mA y) →
      (∀ b o, b ≠ e → (∀ o₀ dx, h.get? e = some o₀ → o₀.dict = some dx → b ≠ dx) → h.get? b = some o → h'.get? b = some o) →
      (∀ o₀, h.get? e = some o₀ → ∃ o₁, h'.get? e = some o₁ ∧ o₁.cls = o₀.cls ∧ o₁.data = o₀.data ∧ o₁.slots = o₀.slots ∧ ∀ dx, o₀.dict = some dx → o₁.dict = some dx) → Q () ⟨h', g, d, tk', os⟩) (hw : Within mA ns) (hsz : ns.length ≤ sizeLine) :
    wpAny (model prog w) A (setAttr (.ref e) name v) Q E ⟨h, g, d, t, os⟩ := by
  obtain ⟨mN, hN, -, -, -, n1, -⟩ := ns_at X
  exact store_attr PySem.F.store_Exception (cls_at X) hN n1 (hna mN hN) hB hx I hq hw hsz
/-- the method-wrapper of Exception.__init__ on an error -/
noncomputable abbrev wrapObj (e : Addr) : Obj := { cls := .type "method-wrapper", data := .fields #[.builtin "Exception.__init__", .ref e] }
theorem slot_wd_get : Slot "wrapper_descriptor" "__get__" "wrapper_descriptor.__get__" := .of (owner := "wrapper_descriptor") (n := "__get__") (by rw [typeLookup_type, builtinLookup_eq_fast]; kernel_rfl) (by decide +kernel) (by decide +kernel) (by decide +kernel)
  (by first | exact .inl (by decide +kernel) | exact .inr (by decide +kernel)) (by rw [isSubtype_type]; kernel_rfl)
theorem entry_wd_get : entryFor table "wrapper_descriptor.__get__" = some Builtin.«wrapper_descriptor.__get__» := entryFor_of_tree (by kernel_rfl)
theorem args_wd_get (a b c : Value) : argsOk "wrapper_descriptor.__get__" ⟨[a, b, c], []⟩ := by unfold argsOk; kernel_rfl
theorem type_init : typeOf (.builtin "Exception.__init__") = pure (.type "wrapper_descriptor") := by
  show builtinType "Exception.__init__" = _
  rw [builtinType_eq_fast]; kernel_rfl
theorem own_init : classOwn (.type "Exception") "__init__" = pure (some (.builtin "Exception.__init__")) := by kernel_rfl
theorem wd_run {prog : Program} {Q : Fin → Shared → Prop} (X : (K w.params).In h) {o : Obj} (he : h.get? e = some o) (hc : o.cls = .ref 34) (hq : Q (.done (.ret (.ref h.objs.size))) ⟨h.push (wrapObj e), g, d, t, os⟩) :
    wpAny (model prog w) A (Builtin.«wrapper_descriptor.__get__» ⟨[.builtin "Exception.__init__", .ref e, .ref 34], []⟩) Q E ⟨h, g, d, t, os⟩ := by
  have hC := cls_at X
  have hcB : (Value.ref 34 :: excB).contains (.type (".".intercalate ("Exception.__init__".cutAt '.').dropLast)) = true := by decide +kernel
  unfold Builtin.«wrapper_descriptor.__get__»
  repeat (any_goals (first | assumption | (with_reducible refine wpAny_loadPart_at he ?_; rw [hc]) | (with_reducible refine wpAny_isSubtype_exc hC ?_; rw [hcB]) | wp_step | dsimp only))
theorem sup_ga {prog : Program} {so : Addr} {tk : Tok} {o : Obj} {Q : Fin → Shared → Prop} (X : (K w.params).In h) (hso : h.get? so = some (ks_superObj 34 e 34)) (he : h.get? e = some o) (hc : o.cls = .ref 34) (hx : e ≠ 34)
    (hq : Q (.done (.ret (.ref h.objs.size))) ⟨h.push (wrapObj e), g, d, t, os⟩) :
    wpAny (model prog w) A (Builtin.«super.__getattribute__» ⟨[.ref so, .str "__init__" tk], []⟩) Q E ⟨h, g, d, t, os⟩ := by
  have hC := cls_at X
  have hno : Looks (model prog w) h (opaqueClassAbove (.ref 34)) none := looks_opaque X (by kernel_rfl)
  have hne : (Value.ref e == Value.ref 34) = false := by simp [hx]
  have f0 : (#[.ref 34, .ref e, .ref 34] : Array Value)[0]? = some (.ref 34) := rfl
  have f1 : (#[.ref 34, .ref e, .ref 34] : Array Value)[1]? = some (.ref e) := rfl
  have f2 : (#[.ref 34, .ref e, .ref 34] : Array Value)[2]? = some (.ref 34) := rfl
  have hd : ((Value.ref 34 :: excB).dropWhile (· != Value.ref 34)).drop 1 = excB := by decide +kernel
  have hn : (("__init__" : Str) == ("__class__" : Str)) = false := by decide +kernel
  have g1 := slot_wd_get.lookup
  have g2 := type_init
  have g3 := own_init
  have hTf : (⟨h, g, d, t, os⟩ : Shared).TypeIs (.builtin "Exception.__init__") "wrapper_descriptor" := type_init
  unfold Builtin.«super.__getattribute__»
  repeat (any_goals (first
    | assumption
    | (with_reducible refine wpAny_field hso rfl f0 ?_) | (with_reducible refine wpAny_field hso rfl f1 ?_) | (with_reducible refine wpAny_field hso rfl f2 ?_)
    | (with_reducible refine ks_wpAny_notOpaque hno ?_)
    | (with_reducible refine wpAny_mroOf_exc hC ?_; rw [hd])
    | (with_reducible refine wpAny_call_entry slot_wd_get hTf entry_wd_get ?_ (args_wd_get _ _ _))
    | (with_reducible refine wd_run X he hc ?_)
    | (with_reducible refine ⟨_, rfl, ?_⟩)
    | (simp only [hn, hne, Bool.or_false, Bool.false_eq_true, if_false])
    | wp_step
    | dsimp only))
  all_goals trace_state
end
end
section
set_option maxHeartbeats 2000000
section
variable {w : World} {A : Around} {E : Value → Shared → Prop} {h : Heap} {g : Array GenState} {d : Drawn} {t : Nat} {os : OsState} {e dd : Addr} {vs : Array Value} {sl : Array (Option Value)} {c : Value} {prog : Program}
theorem sup_method {so : Addr} {pl : Sem Bool} {o : Obj} {Q : Value × List Value → Shared → Prop} (X : (K w.params).In h) (hso : h.get? so = some (ks_superObj 34 e 34)) (he : h.get? e = some o) (hc : o.cls = .ref 34) (hx : e ≠ 34)
    (hq : Q (.ref h.objs.size, []) ⟨h.push (wrapObj e), g, d, t + 1, os⟩) : wpAny (model prog w) A (getMethod (.ref so) "__init__" pl) Q E ⟨h, g, d, t, os⟩ := by
  have hlk := PySem.F.ks_slot_super_ga.lookup
  have hcan := PySem.F.ks_canon_super_ga
  have hbi := PySem.F.ks_slot_super_ga.bind (.ref so)
  have hT : ∀ t', (⟨h, g, d, t', os⟩ : Shared).TypeIs (.ref so) "super" := fun _ => ⟨_, hso, rfl⟩
  have hT0 := hT t
  have hT1 := hT (t + 1)
  have k1 : (if onTheHeap (.type "super") then typeLookup (.type "super") "__getattr__" else pure none) = (pure none : Sem (Option Value)) := rfl
  have k2 : (onTheHeap (Value.type "super") && Value.builtin "super.__getattribute__" == Value.builtin "object.__getattribute__") = false := by decide +kernel
  unfold getMethod getAttr getAttrBy getAttrByItsOwn hookBefore callGetattribute boundAndCalled
  repeat (any_goals (first
    | assumption
    | (with_reducible refine wpAny_specialOf hT0 hlk ?_)
    | (with_reducible refine wpAny_call_entry PySem.F.ks_slot_super_ga hT1 PySem.F.ks_entry_super_ga ?_ (PySem.F.ks_gaArgs_super _ _))
    | (with_reducible refine sup_ga X hso he hc hx ?_)
    | (with_reducible refine ⟨_, rfl, ?_⟩)
    | rw [k1] | rw [k2]
    | (simp only [hcan, if_true, Bool.false_eq_true, if_false])
    | wp_step
    | dsimp only))
  refine codeAny_call_builtin PySem.F.ks_slot_super_ga.plain PySem.F.ks_entry_super_ga (PySem.F.ks_slot_super_ga.check _ _ _ _ _ _ _ _ hT1 (PySem.F.ks_gaArgs_super _ _) (sup_ga X hso he hc hx ?_))
  show wpAny _ _ _ _ _ _
  repeat (any_goals (first | assumption | wp_step))
/-- an error with new args -/
theorem put_args {mw t0 : Addr} {x : Value} {Q : Value → Shared → Prop} (X : (K w.params).In h) (hm : h.get? mw = some (wrapObj e)) (he : h.get? e = some ⟨.ref 34, none, .fields #[.ref t0, .none, .none, .none, .bool false, .none], #[]⟩)
    (hq : ∀ h' t1, h'.get? e = some ⟨.ref 34, none, .fields #[.ref t1, .none, .none, .none, .bool false, .none], #[]⟩ → (∀ b o, b ≠ e → h.get? b = some o → h'.get? b = some o) → Q .none ⟨h', g, d, t, os⟩) :
    wpAny (model prog w) A (call (.ref mw) [x]) Q E ⟨h, g, d, t, os⟩ := by
  have hC := cls_at X
  have FB := PySem.F.excBase_Exception
  have f1 := FB.initKind
  have f2 := FB.initSplit
  have f3 := FB.initRow
  refine wpAny_call (codeAny_of_tree ?_)
  show wpAny _ _ (callAny (.ref mw) ⟨[x], []⟩) _ _ _
  unfold callAny checkBoundCall
  repeat (any_goals (first
    | assumption
    | (with_reducible refine wpAny_load hm ?_)
    | (with_reducible refine wpAny_loadPart_at he ?_)
    | wp_step
    | dsimp only))
  refine ⟨Code.quiet_builtin _ (by decide +kernel), codeAny_builtin FB.initEntry ?_⟩
  unfold Builtin.«BaseException.__init__»
  repeat (any_goals (first
    | assumption
    | (with_reducible refine wpAny_loadPart_at he ?_)
    | wp_step
    | dsimp only))
  have he' := Heap.get?_push_of_some { cls := .type "tuple", data := .seq #[x] } he
  exact hq _ h.objs.size ((Heap.get?_update_self _ he' rfl).trans rfl) fun b o n q => (Heap.get?_update_other _ _ (Ne.symm n)).trans (Heap.get?_push_of_some _ q)
end
end
section
set_option maxHeartbeats 2000000
noncomputable abbrev errFields (t : Addr) : Data := .fields #[.ref t, .none, .none, .none, .bool false, .none]
section
variable {w : World} {mean : ExcName → Option Value} {mg mb : Str → Option Value} {A : Around} {E : Value → Shared → Prop} {s : Shared} {e t0 : Addr} {c : Value}
theorem init_enter {params : Arguments} {body : List Stmt} {scope : Scope} {Q : Value → Shared → Prop} (X : (K w.params).In s.heap) (T : TopM mean mg mb s.heap) (hroom : A.depth < recursionLimit)
    (hp : sArgs ini = params) (hb : sBody ini = body) (hs : sScope ini = scope)
    (hcell : ∀ x ∈ scope.names, x.2 ≠ .cell) (hloc : ∀ x ∈ [(("self" : Str), Value.ref e), (("code" : Str), c), (("told" : Str), .str (Str.ofString "") 203)], scope.names.lookup x.1 = some .local)
    (hbind : BindsTo s ⟨Str.ofString "__init__", Str.ofString "BasicError.__init__", params, .stmts body, scope, 3, [(Str.ofString "__class__", 18)], .ref 23, .none, .none, .str (Str.ofString "basicplus.values") 187, none, .ref 30, .ref 24, 0⟩ ⟨[.ref e, c], []⟩ [(("self" : Str), Value.ref e), (("code" : Str), c), (("told" : Str), .str (Str.ofString "") 203)])
    (h : ∀ L' h₁, Fr s.heap L' h₁ (fun y => ([(("self" : Str), Value.ref e), (("code" : Str), c), (("told" : Str), .str (Str.ofString "") 203)]).reverse.lookup y) →
      _root_.PySem.wpAt (model Pg w) (A.deeper (ksEnv (Str.ofString "BasicError.__init__") scope L' 31 (.ref 30) 18)) (.func body (ksEnv (Str.ofString "BasicError.__init__") scope L' 31 (.ref 30) 18)) (execs body (ksEnv (Str.ofString "BasicError.__init__") scope L' 31 (.ref 30) 18))
        (fun f s' => Q (match f with | .ret v => v | _ => .none) s') (fun _ _ => False) { s with heap := h₁, toks := s.toks + 3 })
    (hco : scope.isCoroutine = false) (hgen : scope.isGenerator = false) (hk : scope.kind = .function) :
    wpAny (model Pg w) A (call (.ref 31) [.ref e, c]) Q E s := by
  subst hp hb hs
  have ho := X 31 _ (by rfl)
  refine wpAny_call (ks_codeAny_call_defAt (binds := [(("self" : Str), Value.ref e), (("code" : Str), c), (("told" : Str), .str (Str.ofString "") 203)]) (body := sBody ini) hroom ho rfl T.nolimit (codeRec_of X (by rfl)) rfl hbind hcell hloc (fun h₁ hns hk₁ => ?_) hco hgen hk)
  exact ks_wpAt_mono (h s.heap.objs.size h₁ ⟨hns, hk₁, Nat.le_refl _⟩) (fun f s' q => q) fun _ _ z => z.elim
end
section
variable {w : World} {A : Around} {E : Value → Shared → Prop} {h : Heap} {g : Array GenState} {d : Drawn} {t : Nat} {os : OsState} {e : Addr} {prog : Program}
theorem set_new {name : Str} {v : Value} {t0 : Addr} {Q : Unit → Shared → Prop} (X : (K w.params).In h) (hna : ∀ mN : Str → Option Value, h.Ns 33 mN → mN name = none) (hB : typeLookup (.type "Exception") name = pure none)
    (hx : h.get? e = some ⟨.ref 34, none, errFields t0, #[]⟩)
    (hq : ∀ h' tk', h'.get? e = some ⟨.ref 34, some h.objs.size, errFields t0, #[]⟩ → h'.Ns1 h.objs.size (fun y => if y = name then some v else none) → (∀ b o, b ≠ e → h.get? b = some o → h'.get? b = some o) → Q () ⟨h', g, d, tk', os⟩) :
    wpAny (model prog w) A (setAttr (.ref e) name v) Q E ⟨h, g, d, t, os⟩ := by
  have hC := cls_at X
  have SF := PySem.F.store_Exception
  obtain ⟨mN, hN, -, -, -, n1, -⟩ := ns_at X
  have n2 := hna mN hN
  have f3 := SF.slot.bind (.ref e)
  have hpass := SF.passes (.ref e)
  clear X hna
  unfold setAttr callSpecial? specialOf
  repeat (any_goals (first | with_reducible assumption | (with_reducible refine wpAny_loadPart_at hx ?_) | (with_reducible refine wpAny_typeLookup_exc hC hN SF.mro SF.slot.lookup ?_; rw [n1]) | wp_step))
  show codeAny _ _ (.call _ ⟨[.ref e, .str name t, v], []⟩) _ _
  have hc : (⟨.ref 34, none, errFields t0, #[]⟩ : Obj).cls = .ref 34 := rfl
  refine codeAny_call_builtin SF.slot.plain SF.entry ?_
  with_reducible refine wpAny_check_sa SF hC hx hc ?_
  unfold Builtin.«object.__setattr__»
  repeat (first | (with_reducible refine wpAny_nsSet1 (m := fun _ => none) ?hn (fun h' hn' hs => ?hk)) | rw [refuse_eq] | (rw [refuseLoop_ref, hpass]) | (with_reducible refine wpAny_loadPart_at hx ?_) | with_reducible refine wpAny_mroOf_exc hC ?_ | (with_reducible refine wpAny_typeLookup_exc hC hN SF.mro hB ?_; rw [n2]) | wp_step)
  case hk =>
    have hes : e ≠ h.objs.size := Nat.ne_of_lt (Heap.lt_size hx)
    have hx₁ := Heap.get?_push_of_some { cls := .type "dict", data := .dict #[] } hx
    obtain ⟨oD, esD, epD, hoD, hdD, hcD⟩ := hn'.count (Within.cons name v Within.nil)
    refine wpAny_bind (wpAny_lookBehind hoD (by rw [hdD]; exact pastItsLine_dict (Nat.le_trans hcD (by rw [List.length_cons, List.length_nil, sizeLine_eq]; omega))) ?_)
    repeat wp_step
    refine hq h' _ ?_ hn' fun b o n q => ?_
    · exact (hs.2 e hes).trans ((Heap.get?_update_self _ hx₁ rfl).trans rfl)
    · exact (hs.2 b (Nat.ne_of_lt (Heap.lt_size q))).trans ((Heap.get?_update_other _ _ (Ne.symm n)).trans (Heap.get?_push_of_some _ q))
  case hn =>
    have hes : e ≠ h.objs.size := Nat.ne_of_lt (Heap.lt_size hx)
    exact Heap.Ns1.of_empty ⟨_, #[], _, (Heap.get?_update_other _ _ hes).trans (Heap.get?_push_at rfl rfl), rfl, fun e he => absurd he (by simp), fun _ => rfl⟩
theorem callWith_wrap {M : Model} {s : Shared} {pos : Pos} {mw : Addr} {env : Env} {x : Expr} {Q : Value → Shared → Prop}
    (h : wpAny M A (eval x env) (fun v s₁ => s₁.heap.get? mw = some (wrapObj e) ∧ wpAny M A (call (.ref mw) [v]) Q E s₁) E s)
    (he : starEach [x] env = [(false, eval x env)] := by rfl) : wpAny M A (callWith pos (.ref mw) [] (backTo pos (starEach [x] env)) []) Q E s := by
  rw [he]
  unfold callWith
  refine wpAny_bind (wpAny_holding (wpAny_mono (evalArgs_plain (Q := fun a s₁ => s₁.heap.get? mw = some (wrapObj e) ∧ ∃ v, a = ⟨[v], []⟩ ∧ wpAny M A (call (.ref mw) [v]) Q E s₁) (spliced_cons (wpAny_mono h (fun v s₁ h₁ => spliced_nil ⟨h₁.1, v, rfl, h₁.2⟩) fun _ _ z => z))) (fun a s₁ h₁ => wpAny_bind (wpAny_standAt ?_)) fun _ _ z => z))
  obtain ⟨ho, v, rfl, hcall⟩ := h₁
  refine wpAny_bind (m := keeperOf (.ref mw)) ?_
  unfold keeperOf
  refine wpAny_bind (wpAny_load ho ?_)
  refine wpAny_pure ?_
  exact wpAny_bind (wpAny_mono hcall (fun r s₂ hr => wpAny_bind (wpAny_holding (wpAny_point (wpAny_pure hr)))) fun _ _ x => x)
end
end
section
set_option maxHeartbeats 2000000
section
variable {w : World} {mean : ExcName → Option Value} {mg mb : Str → Option Value} {A : Around} {E : Value → Shared → Prop} {s : Shared} {e t0 : Addr} {c : Value}
theorem init_call {g : Heap} {Q : Value → Shared → Prop} (X : (K w.params).In g) (T : TopM mean mg mb g) (st : g.StaysIn s.heap) (hge : g.get? e = none) (hroom : A.depth < recursionLimit) (he : s.heap.get? e = some ⟨.ref 34, none, errFields t0, #[]⟩)
    (hq : ∀ h' d t1 tk', h'.get? e = some ⟨.ref 34, some d, errFields t1, #[]⟩ → CodeIn h' d c → (∀ b o, b ≠ e → s.heap.get? b = some o → h'.get? b = some o) → Q .none { s with heap := h', toks := tk' }) :
    wpAny (model Pg w) A (call (.ref 31) [.ref e, c]) Q E s := by
  have X₁ := X.keeps st
  have T₁ := T.keeps st
  have hx : e ≠ 34 := fun q => by rw [q, cls_at X] at hge; cases hge
  have ge : ∀ b o, g.get? b = some o → b ≠ e := fun b o q z => by rw [z, hge] at q; cases q
  refine' init_enter X₁ T₁ hroom ?ep ?eb ?es ?ec ?el ?ed ?_ ?e1 ?e2 ?e3
  (case ep => (conv => lhs; whnf))
  (case eb => (conv => lhs; whnf))
  (case es => (conv => lhs; whnf))
  (case ec => decide)
  (case el => exact locs rfl)
  (case ed => exact BindsTo.of_defaults rfl (X₁ 23 _ (by rfl)) rfl rfl rfl)
  (case e1 => exact rfl)
  (case e2 => exact rfl)
  (case e3 => exact rfl)
  intro L' h₁ F'
  have eL : e ≠ L' := Nat.ne_of_lt (Nat.lt_of_lt_of_le (Heap.lt_size he) F'.above)
  refine ks_wpAt_execs_cons (ks_wpAt_Expr_any (ks_wpAt_MethodCall (pl := pure false) ?_))
  refine ks_node (K := K w.params) (p := topProg) (loose := lo) (mean := mean) (mg := mg) (mb := mb) (x := e) (C := 34) (D := 34) F' X₁ News.nil T₁ (f := 31) (cda := 30) (cc := 18) (by rfl) (by rfl) (by rfl) (show W.InstAt h₁ e ⟨.ref 34, none, errFields t0, #[]⟩ 34 none from ⟨F'.keep _ _ he, rfl, rfl, trivial⟩) (by rfl) (by rfl) (by decide +kernel) (by rfl) (by rfl) (by kernel_rfl) (by kernel_rfl) (by decide +kernel) (by rfl) (by rfl) (by rfl) (by rfl) (by decide +kernel) (by kernel_rfl) (fun so h₂ F₂ N₂ _ => ?_)
  have X₂ : (K w.params).In (h₂.push (wrapObj e)) := X₁.keeps fun b o q => Heap.get?_push_of_some _ (F₂.keep b o q)
  refine sup_method (X₁.keeps F₂.keep) (N₂ _ List.mem_cons_self).1 (F₂.keep _ _ he) rfl hx ?_
  dsimp only
  refine callWith_wrap (e := e) ?_
  refine wpAny_Name (wpAny_loadName_local (by rfl) (by rfl) (F₂.ns.push _) (by rfl) ?_) (by decide)
  refine ⟨Heap.get?_push_at rfl rfl, put_args (e := e) X₂ (Heap.get?_push_at rfl rfl) (Heap.get?_push_of_some _ (F₂.keep _ _ he)) fun h₃ t1 he₃ k₃ => ?_⟩
  have K₃ : ∀ b o, b ≠ e → s.heap.get? b = some o → h₃.get? b = some o := fun b o n q => k₃ b o n (Heap.get?_push_of_some _ (F₂.keep b o q))
  have X₃ : (K w.params).In h₃ := X.keeps fun b o q => K₃ b o (ge b o q) (st b o q)
  have n₃ : h₃.Ns L' _ := F₂.ns.at' fun o q => k₃ _ o (Ne.symm eL) (Heap.get?_push_of_some _ q)
  have q33 : ∀ {h : Heap} {x : Str}, (K w.params).In h → (∃ mN, h.Ns 33 mN ∧ mN x = none) → ∀ mN : Str → Option Value, h.Ns 33 mN → mN x = none := fun _ ⟨m1, a1, a2⟩ mN a3 => by
    obtain ⟨o1, es1, ep1, g1, d1, k1, f1⟩ := a1
    obtain ⟨o2, es2, ep2, g2, d2, k2, f2⟩ := a3
    rw [g1] at g2; cases g2; rw [d1] at d2; cases d2
    rw [← f2, f1]; exact a2
  have c33 : ∀ {h : Heap}, (K w.params).In h → ∀ mN : Str → Option Value, h.Ns 33 mN → mN "code" = none := fun Y => q33 Y (let ⟨m, a, _, b, _⟩ := ns_at Y; ⟨m, a, b⟩)
  have t33 : ∀ {h : Heap}, (K w.params).In h → ∀ mN : Str → Option Value, h.Ns 33 mN → mN "told" = none := fun Y => q33 Y (let ⟨m, a, _, _, b, _⟩ := ns_at Y; ⟨m, a, b⟩)
  refine ks_wpAt_execs_cons (ks_wpAt_Assign_Attr (wpAt_of_wpAny ?_))
  refine wpAny_Name ?_ (by decide)
  refine wpAny_loadName_local (by rfl) (by rfl) n₃ (by rfl) ?_
  refine wpAny_Name ?_ (by decide)
  refine wpAny_loadName_local (by rfl) (by rfl) n₃ (by rfl) ?_
  refine set_new X₃ (c33 X₃) lk_code he₃ fun h₄ tk₄ he₄ d₄ k₄ => ?_
  have X₄ : (K w.params).In h₄ := X.keeps fun b o q => k₄ b o (ge b o q) (K₃ b o (ge b o q) (st b o q))
  have n₄ : h₄.Ns L' _ := n₃.at' fun o q => k₄ _ o (Ne.symm eL) q
  refine ks_wpAt_execs_cons (ks_wpAt_Assign_Attr (wpAt_of_wpAny ?_))
  refine wpAny_Name ?_ (by decide)
  refine wpAny_loadName_local (by rfl) (by rfl) n₄ (by rfl) ?_
  refine wpAny_Name ?_ (by decide)
  refine wpAny_loadName_local (by rfl) (by rfl) n₄ (by rfl) ?_
  have dne : h₃.objs.size ≠ e := Nat.ne_of_gt (Heap.lt_size he₃)
  refine set_attr X₄ (t33 X₄) lk_told hx ⟨_, he₄, rfl, fun c z => (nomatch z), .inr ⟨_, rfl, dne, d₄⟩⟩ (fun h₅ tk₅ I₅ k₅ o₅ => ?_) (Within.cons "code" c Within.nil) (by rw [List.length_cons, List.length_nil, sizeLine_eq]; omega)
  refine wpAt_of_wpAny (wpAny_execs_nil ?_)
  obtain ⟨o1, g1, c1, d1, s1, z1⟩ := o₅ _ he₄
  have e1 : o1 = ⟨.ref 34, some h₃.objs.size, errFields t1, #[]⟩ := by
    obtain ⟨oc, od, odt, osl⟩ := o1
    dsimp only at c1 d1 s1 z1
    rw [c1, d1, s1, z1 _ rfl]
  rw [e1] at g1
  obtain ⟨o2, g2, c2, nc2, hd2⟩ := I₅
  rw [g1] at g2
  cases g2
  refine hq h₅ h₃.objs.size t1 _ g1 ?_ fun b o n q => ?_
  · rcases hd2 with ⟨z, _⟩ | ⟨d2, z, _, n2⟩
    · cases z
    · cases z; exact ⟨_, n2.ns, rfl⟩
  · refine k₅ b o n (fun o₀ dx q0 qd => ?_) (k₄ b o n (K₃ b o n q))
    rw [he₄] at q0; cases q0; cases qd
    exact Nat.ne_of_lt (Heap.lt_size (K₃ b o n q))
end
end
section
set_option maxHeartbeats 2000000
/-- a BasicError just made out of c -/
structure Err (h h' : Heap) (e d : Addr) (c : Value) : Prop where
  keeps : h.StaysIn h'
  new : h.get? e = none
  there : ∃ t, h'.get? e = some ⟨.ref 34, some d, errFields t, #[]⟩
  code : CodeIn h' d c
section
variable {w : World} {mean : ExcName → Option Value} {mg mb : Str → Option Value} {A : Around} {E : Value → Shared → Prop} {s : Shared} {c : Value}
theorem make_err {Q : Value → Shared → Prop} (X : (K w.params).In s.heap) (T : TopM mean mg mb s.heap) (hroom : A.depth + 1 < recursionLimit)
    (hq : ∀ h' e d tk', Err s.heap h' e d c → Q (.ref e) { s with heap := h', toks := tk' }) : wpAny (model Pg w) A (call (.ref 34) [c]) Q E s := by
  obtain ⟨mN, hN, n0, -⟩ := ns_at X
  obtain ⟨oI, hI, cI⟩ := init_at X
  obtain ⟨h, g, d, t, os⟩ := s
  refine wpAny_call_exc_init PySem.F.excBase_Exception (cls_at X) hN n0 hI cI (fun h' e hm => ?_) (by size_fits)
  obtain ⟨t0, he, ht, _⟩ := hm.there
  refine init_call (s := ⟨h', g, d, t, os⟩) X T hm.keeps hm.new ?_ he fun h₂ dd t1 tk' he₂ hc k₂ => ⟨rfl, hq h₂ e dd tk' ⟨fun b o q => k₂ b o (fun z => by rw [z, hm.new] at q; cases q) (hm.keeps b o q), hm.new, ⟨t1, he₂⟩, hc⟩⟩
  have wt : (Code.builtin "type.__call__" ⟨[.ref 34, c], []⟩).weight = 1 := by
    unfold Code.weight
    rw [show (Code.builtin "type.__call__" ⟨[.ref 34, c], []⟩).isGuard = false from by show guardIds.contains "type.__call__" = false; decide +kernel]
    rfl
  show A.depth + _ < _
  rw [wt]
  exact hroom
theorem raise_err {env : Env} {x : Sem Value} {Q : Flow → Shared → Prop} (hh : A.handled = none)
    (h : wpAny (model Pg w) A x (fun v s₁ => ∃ h₀ e d, v = .ref e ∧ (K w.params).In s₁.heap ∧ Err h₀ s₁.heap e d c ∧ E (.ref e) s₁) E s) : wpAny (model Pg w) A (raiseStmt env (some x) none) Q E s := by
  have hcB : (Value.ref 34 :: excB).contains (.type "BaseException") = true := by decide +kernel
  unfold raiseStmt
  refine wpAny_bind (wpAny_mono h (fun v s₁ h₁ => ?_) fun _ _ x => x)
  obtain ⟨h₀, e, d, rfl, X, ⟨_, _, ⟨t, he⟩, _⟩, hE⟩ := h₁
  have hC := cls_at X
  clear X
  obtain ⟨hp, g, d, tk, os⟩ := s₁
  repeat (first | with_reducible refine wpAny_loadPart_at he ?_ | with_reducible refine wpAny_loadPart_at hC ?_ | (with_reducible refine wpAny_isSubtype_exc hC ?_; rw [hcB]) | wp_step)
  exact wpAny_raiseNew_none hh hE
theorem Raise_err {name : Str} {scope : Scope} {L a : Addr} {cd : Value} {h₀ : Heap} {m : Str → Option Value} {np p cpos pos : Pos} {k : Nat} {x : Str} {Q : Flow → Shared → Prop} (F : Fr h₀ L s.heap m) (X₀ : (K w.params).In h₀) (T : TopM mean mg mb h₀) (hh : A.handled = none) (hroom : A.depth + 1 < recursionLimit)
    (hq : ∀ h' e d tk tk', Err s.heap h' e d (.str x tk) → E (.ref e) { s with heap := h', toks := tk' })
    (hk : scope.kind = .function) (hx : (envOf name scope L a cd).kindOf "BasicError" = some .globalImplicit) :
    wpAny (model Pg w) A (exec (.Raise (some (.Call (.Name "BasicError" np) [.Constant (.str x) k p] [] cpos)) none pos) (envOf name scope L a cd)) Q E s := by
  have X := X₀.keeps F.keep
  rw [arm_exec_Raise]
  refine wpAny_bind (wpAny_standAt ?_)
  refine raise_err (c := .str x s.toks) hh (wpAny_bind (wpAny_mono (wpAny_Call_ofName ?_) (fun v s₃ h₃ => wpAny_bind (wpAny_standAt (wpAny_pure h₃))) fun _ _ z => z))
  refine Calls.Name_function_global hk hx (Calls.loadGlobal_global (env := envOf name scope L a cd) (T.g.keeps F.keep) (mg_of (v := .ref 34) X₀ T.g (by kernel_rfl)) ?_) (by decide)
  unfold callWith
  refine wpAny_bind (wpAny_holding (evalArgs_plain (spliced_cons (wpAny_Constant_str (k := k) (pos := p) (spliced_nil (wpAny_bind (wpAny_standAt ?_)))))))
  refine wpAny_bind (m := keeperOf (.ref 34)) (wpAny_keeperOf_exc (cls_at X) ?_)
  refine wpAny_bind (make_err (s := { s with toks := s.toks + 1 }) X (T.keeps F.keep) hroom fun h' e d tk' y => wpAny_bind (wpAny_holding (wpAny_point (wpAny_pure ?_))))
  exact ⟨s.heap, e, d, rfl, X.keeps y.keeps, y, hq _ _ _ _ _ y⟩
end
end
section
set_option maxHeartbeats 2000000
/-- DZ is under way -/
noncomputable def Thrown (base : Heap) (l : List Env) (s₀ : Shared) (e : Value) (s' : Shared) : Prop :=
  ∃ a dd tk h' tk', e = .ref a ∧ s' = { s₀ with heap := h', toks := tk' } ∧ (Fresh base l a dd (.str "DZ" tk) h' ∨ Fly base l a dd (.str "DZ" tk) .none h') ∧ s₀.heap.UpToSlots h'
theorem Thrown.after {base : Heap} {l : List Env} {s₀ s s' : Shared} {e : Value} {h : Heap} {tk : Nat} (x : Thrown base l s e s') (hs : s = { s₀ with heap := h, toks := tk }) (u : s₀.heap.UpToSlots h) : Thrown base l s₀ e s' := by
  subst hs
  obtain ⟨a, dd, t, h', tk', e1, e2, f, v⟩ := x
  exact ⟨a, dd, t, h', tk', e1, e2, f, u.trans v⟩
/-- a call that ends by DZ -/
noncomputable def ConE (w : World) (mean : ExcName → Option Value) (mg mb : Str → Option Value) (f : Addr) (vs : List Value) (d u : Nat) (pre : Heap → Prop) : Prop :=
  ∀ (dp un : Nat) (outer : List Env) (gd : Option (List Code)) (base : Heap) (s : Shared) (Q E : Value → Shared → Prop), (K w.params).In s.heap → TopM mean mg mb s.heap → pre s.heap → dp + d < recursionLimit → un + u < cLine →
    base.StaysIn s.heap → s.heap.FunFrames base outer → (∀ e s', Thrown base outer s e s' → E e s') → wpAny (model Pg w) (AA dp un (some outer) gd) (call (.ref f) vs) Q E s
theorem ConE.mono {w : World} {mean : ExcName → Option Value} {mg mb : Str → Option Value} {f : Addr} {vs : List Value} {d u d' u' : Nat} {pre pre' : Heap → Prop} (C : ConE w mean mg mb f vs d u pre) (hp : ∀ h, pre' h → pre h) (hd : d ≤ d') (hu : u ≤ u') : ConE w mean mg mb f vs d' u' pre' :=
  fun dp un outer gd base s Q E X T p h1 h2 => C dp un outer gd base s Q E X T (hp _ p) (Nat.lt_of_le_of_lt (Nat.add_le_add_left hd dp) h1) (Nat.lt_of_le_of_lt (Nat.add_le_add_left hu un) h2)
section
variable {M : Model} {A : Around} {E : Value → Shared → Prop} {s : Shared} {base h₀ h : Heap} {outer : List Env} {L a : Addr} {m : Str → Option Value} {name : Str} {scope : Scope} {cd : Value} {cl : List (Str × Addr)} {env : Env}
/-- the frames with this one -/
theorem frames_in (B : base.StaysIn h₀) (FF : h₀.FunFrames base outer) (F : Fr h₀ L h m) (hf : env.frame = some L) (hk : env.scope.kind ≠ .module) : base.StaysIn h ∧ h.FunFrames base (env :: outer) := by
  refine ⟨fun b o e => F.keep b o (B b o e), .cons hk hf F.ns ?_ (FF.of_keeps fun b o e _ => ⟨o, F.keep b o e, rfl⟩)⟩
  cases q : base.get? L with
  | none => rfl
  | some o => exact absurd (Nat.lt_of_lt_of_le (Heap.lt_size (B L o q)) F.above) (Nat.lt_irrefl _)
theorem thrown_new {s₀ : Shared} {h' : Heap} {e d : Addr} {tk : Tok} {tk' : Nat} (B : base.StaysIn s₀.heap) (FF : s₀.heap.FunFrames base outer) (F : Fr s₀.heap L h m) (hf : env.frame = some L) (hk : env.scope.kind ≠ .module) (Y : Err h h' e d (.str "DZ" tk)) :
    Thrown base (env :: outer) s₀ (.ref e) { s₀ with heap := h', toks := tk' } := by
  obtain ⟨b, ff⟩ := frames_in B FF F hf hk
  obtain ⟨y1, y2, ⟨t, y3⟩, y4⟩ := Y
  refine ⟨e, d, tk, h', tk', rfl, rfl, .inl ⟨fun b' o q => y1 b' o (b b' o q), ?_, ff.of_keeps fun b' o q _ => ⟨o, y1 b' o q, rfl⟩, ⟨_, _, y3, rfl⟩, y4⟩, (Heap.UpToSlots.of_keeps F.keep).trans (Heap.UpToSlots.of_keeps y1)⟩
  cases q : base.get? e with
  | none => rfl
  | some o => rw [b e o q] at y2; cases y2
theorem thrown_leaves {s₀ s' : Shared} {e : Value} {L' : Addr} (x : Thrown base (env :: outer) s₀ e s') (hfr : A.frames = some (env :: outer)) (hf : env.frame = some L') (hq : ∀ s'', Thrown base outer s₀ e s'' → E e s'') :
    wpAny M A (leaving env e) (fun _ s'' => E e s'') (fun e' s'' => E e' s'') s' := by
  obtain ⟨a, dd, t, h', tk', rfl, rfl, f, v⟩ := x
  rcases f with f | f
  · exact fly_leaves_new hfr hf f fun h₂ y u => hq _ ⟨a, dd, t, h₂, tk', rfl, rfl, .inr y, v.trans u⟩
  · exact fly_leaves hfr hf f fun h₂ y u => hq _ ⟨a, dd, t, h₂, tk', rfl, rfl, .inr y, v.trans u⟩
end
section
variable {w : World} {mean : ExcName → Option Value} {mg mb : Str → Option Value} {A : Around} {s : Shared} {Q E : Value → Shared → Prop} {f c : Addr} {vs : List Value} {name qual : Str} {params : Arguments} {body : List Stmt} {scope : Scope} {dV pm ct oc : Value} {od : Option Addr} {osl : Array (Option Value)} {binds : List (Str × Value)} {i : Nat}
theorem enterE {rb : List (Str × Value)} (X : (K w.params).In s.heap) (T : TopM mean mg mb s.heap)
    (ho : (K w.params).lookup f = some ⟨oc, od, .func (fnOf name qual (sArgs (stm i)) (sBody (stm i)) (sScope (stm i)) dV .none .none pm none (.ref c) ct), osl⟩)
    (hcd : codeIn (K w.params) (.ref c) qual = true) (hroom : A.depth < recursionLimit)
    (hp : sArgs (stm i) = params) (hb : sBody (stm i) = body) (hs : sScope (stm i) = scope)
    (hz : (params.args.map (·.arg)).zip vs = binds) (hr : binds.reverse = rb)
    (hbind : bindArgs (fnOf name qual params body scope dV .none .none pm none (.ref c) ct) ⟨vs, []⟩ = pure binds)
    (hloc : (binds.all fun x => decide (scope.names.lookup x.1 = some .local)) = true)
    {base : Heap} {outer : List Env} (hfr : A.frames = some outer) (hq : ∀ e s', Thrown base outer s e s' → E e s')
    (h : ∀ L' h₁ tk, Fr s.heap L' h₁ (fun y => rb.lookup y) → News s.heap L' h₁ [] →
      wpAny (model Pg w) (A.deeper (envOf qual scope L' f (.ref c))) (execs body (envOf qual scope L' f (.ref c)))
        (fun fl s' => Done Q (match fl with | .ret v => v | _ => .none) s') (Thrown base (envOf qual scope L' f (.ref c) :: outer) s) { s with heap := h₁, toks := tk })
    (hcell : (scope.names.all fun x => x.2 != .cell) = true) (hco : scope.isCoroutine = false) (hgen : scope.isGenerator = false) (hk : scope.kind = .function) :
    wpAny (model Pg w) A (call (.ref f) vs) Q E s := by
  subst hp hb hs hr
  refine wpAny_call (codeAny_call_def (fd := fnOf name qual (sArgs (stm i)) (sBody (stm i)) (sScope (stm i)) dV .none .none pm none (.ref c) ct) (body := sBody (stm i)) (binds := binds) hroom (X _ _ ho) rfl T.nolimit (codeRec_of X hcd) rfl (BindsTo.of_eq hbind) ?_ (locs hloc) (fun h₁ hns hk₁ => ?_) hco hgen hk)
  · intro x hx
    have := List.all_eq_true.mp hcell x hx
    simpa using this
  · refine wpAny_mono (h s.heap.objs.size h₁ _ ⟨hns, hk₁, Nat.le_refl _⟩ News.nil) (fun fl s' x => ?_) (fun e s' x => ?_)
    · exact x
    · exact thrown_leaves x (Around.frames_deeper hfr) rfl (hq e)
theorem ConE.use {s₀ : Shared} {L : Addr} {m : Str → Option Value} {d u : Nat} {pre : Heap → Prop} {base : Heap} {outer : List Env} {env : Env} {tk : Nat} {h : Heap} (C : ConE w mean mg mb f vs d u pre)
    (F : Fr s₀.heap L h m) (X : (K w.params).In s₀.heap) (T : TopM mean mg mb s₀.heap) (B : base.StaysIn s₀.heap) (FF : s₀.heap.FunFrames base outer) (hf : env.frame = some L) (hk : env.scope.kind ≠ .module) {dp un : Nat} {gd : Option (List Code)} (hp : pre h) (hd : dp + d < recursionLimit) (hu : un + u < cLine) :
    wpAny (model Pg w) (AA dp un (some (env :: outer)) gd) (call (.ref f) vs) Q (Thrown base (env :: outer) s₀) { s₀ with heap := h, toks := tk } := by
  obtain ⟨b, ff⟩ := frames_in B FF F hf hk
  exact C dp un _ gd base _ Q _ (X.keeps F.keep) (T.keeps F.keep) hp hd hu b ff fun e s' x => x.after rfl (Heap.UpToSlots.of_keeps F.keep)
end
end
section
set_option maxHeartbeats 8000000
theorem lawDec0 : (lawDec 0).1 = 0 := by
  have := lawDec_le 0
  omega
theorem fits0 {b : Int} (h : 4 ≤ b) : fitsB 0 b = true := by
  exact fits_tiny h (by decide)
section
variable {w : World} {mean : ExcName → Option Value} {mg mb : Str → Option Value} {t1 t2 t3 t4 t5 u1 u2 u3 u4 : Tok} {a b : Addr} {va vb : Value}
theorem words2 : True := by
  (k_with "my ktr_enter" => (
  refine' enterE ?eX_k9 ?eT_k9 ?eo_k9 ?ec_k9 ?er_k9 ?ep ?eb_k9 ?es_k9 ?ez_k9 ?eR_k9 ?ek_k9 ?el_k9 ?ef_k9 ?eq_k9 ?_ ?ee_k9 ?e1_k9 ?e2_k9 ?e3_k9
  (case eX_k9 => assumption)
  (case eT_k9 => assumption)
  (case eo_k9 => k_is)
  (case ec_k9 => k_is)
  (case er_k9 => (show (_ : Nat) < _; (try dsimp only [AA]); omega))
  (case ep => (conv => lhs; whnf))
  (case eb_k9 => (conv => lhs; whnf))
  (case es_k9 => (conv => lhs; whnf))
  (case ez_k9 => (conv => lhs; simp only [List.map_cons, List.map_nil, List.zip_cons_cons, List.zip_nil_right, List.zip_nil_left]))
  (case eR_k9 => (conv => lhs; simp only [List.reverse_cons, List.reverse_nil, List.nil_append, List.cons_append]))
  (case ek_k9 => exact rfl)
  (case el_k9 => exact rfl)
  (case ee_k9 => exact rfl)
  (case ef_k9 => exact rfl)
  (case eq_k9 => assumption)
  (case e1_k9 => exact rfl)
  (case e2_k9 => exact rfl)
  (case e3_k9 => exact rfl)
  intro _ _ _ _ _
  try dsimp only
  try k_fold))
  (k_with "exec Raise some none" => (k_here; k_dflt (refine' Raise_err ?zF ?zX ?zT ?zh_k9 ?zr_k9 ?_ ?zk_k9 ?zx_k9; (case zF => k_asm); (case zX => k_asm); (case zT => k_asm); (case zh_k9 => exact rfl); (case zr_k9 => (show (_ + 1) + 1 < _; (try dsimp only [AA]); omega)); (case zk_k9 => exact rfl); (case zx_k9 => exact rfl)); intro _ _ _ _ _ Y9; k_dflt exact thrown_new (by assumption) (by assumption) (by assumption) rfl (fun q => nomatch (show ScopeKind.function = ScopeKind.module from q)) Y9))
  trivial
theorem cutq_e {n : Int} : ConE w mean mg mb 185 [.int n t1, .int 0 t2] 3 48 (fun _ => True) := by
  intro dp un outer gd base s Q E X T hp hd hu B FF hq
  k_extra "my ktr_enter"
  k_extra "my k_steps"
theorem words3 : True := by
  (k_with "call ref" => (k_here; k_dflt (refine' ConE.use cutq_e ?zF ?zX ?zT ?zB_k9 ?zFF_k9 ?zf_k9 ?zk_k9 ?zp ?zd ?zu; (case zF => k_asm); (case zX => k_asm); (case zT => k_asm); (case zB_k9 => assumption); (case zFF_k9 => assumption); (case zf_k9 => exact rfl); (case zk_k9 => exact fun q => nomatch (show ScopeKind.function = ScopeKind.module from q)); k_extra "my cy")))
  trivial
theorem cutr_e {n : Int} : ConE w mean mg mb 192 [.int n t1, .int 0 t2] 4 64 (fun _ => Sm n) := by
  intro dp un outer gd base s Q E X T hp hd hu B FF hq
  k_extra "my ktr_enter"
  k_extra "my k_steps"
theorem words4 : True := by
  (k_with "call ref" => (k_here; k_dflt (refine' ConE.use cutr_e ?zF ?zX ?zT ?zB_k9 ?zFF_k9 ?zf_k9 ?zk_k9 ?zp ?zd ?zu; (case zF => k_asm); (case zX => k_asm); (case zT => k_asm); (case zB_k9 => assumption); (case zFF_k9 => assumption); (case zf_k9 => exact rfl); (case zk_k9 => exact fun q => nomatch (show ScopeKind.function = ScopeKind.module from q)); k_extra "my cy")))
  trivial
theorem ddiv_e {n d : Int} : ConE w mean mg mb 136 [.ref a, .ref b, .int d t1] 3 48 (fun h => isL h a n u1 u2 ∧ isL h b 0 u3 u4) := by
  intro dp un outer gd base s Q E X T hp hd hu B FF hq
  obtain ⟨i1, i2⟩ := hp
  have e0 : (lawDec 0).1 = 0 := lawDec0
  k_extra "my ktr_enter"
  k_extra "my k_steps"
  all_goals exact absurd e0 (by assumption)
theorem words5 : True := by
  (k_with "call ref" => (k_here; k_dflt (refine' ConE.use ddiv_e ?zF ?zX ?zT ?zB_k9 ?zFF_k9 ?zf_k9 ?zk_k9 ?zp ?zd ?zu; (case zF => k_asm); (case zX => k_asm); (case zT => k_asm); (case zB_k9 => assumption); (case zFF_k9 => assumption); (case zf_k9 => exact rfl); (case zk_k9 => exact fun q => nomatch (show ScopeKind.function = ScopeKind.module from q)); k_extra "my cy")))
  trivial
theorem reck_div_e {k k' : Bool} {n b : Int} : ConE w mean mg mb 220 [.str "/" t5, va, vb, .int b t2, .int 30 t3] 9 144 (fun h => isV h k n va ∧ isV h k' 0 vb ∧ 4 ≤ b ∧ b ≤ 16 ∧ n.natAbs < 10 ^ 5 ∧ fitsB n b = true) := by
  intro dp un outer gd base s Q E X T hp hd hu B FF hq
  refine and6 hp fun hv1 hv2 hp3 hp4 hp5 hp6 => ?_
  have hz : fitsB 0 b = true := fits0 hp3
  have b1 : n.natAbs < 10 ^ 10 := by omega
  have b3 : n.natAbs < 10 ^ 29 := by omega
  have b4 : (0 : Int).natAbs < 10 ^ 29 := by decide
  have b5 : Sm n := Sm.le (k := 10) (Nat.le_of_lt b1) (by decide)
  k_extra "my ktr_enter"
  k_extra "my k_steps"
theorem reck_cut_e {k k' : Bool} {n b : Int} : ConE w mean mg mb 220 [.str "\\" t5, va, vb, .int b t2, .int 30 t3] 9 144 (fun h => isV h k n va ∧ isV h k' 0 vb ∧ 4 ≤ b ∧ b ≤ 16 ∧ n.natAbs < 10 ^ 5 ∧ fitsB n b = true) := by
  intro dp un outer gd base s Q E X T hp hd hu B FF hq
  refine and6 hp fun hv1 hv2 hp3 hp4 hp5 hp6 => ?_
  have hz : fitsB 0 b = true := fits0 hp3
  have b1 : n.natAbs < 10 ^ 10 := by omega
  have b3 : n.natAbs < 10 ^ 29 := by omega
  have b4 : (0 : Int).natAbs < 10 ^ 29 := by decide
  have b5 : Sm n := Sm.le (k := 10) (Nat.le_of_lt b1) (by decide)
  k_extra "my ktr_enter"
  k_extra "my k_steps"
theorem reck_mod_e {k k' : Bool} {n b : Int} : ConE w mean mg mb 220 [.str "MOD" t5, va, vb, .int b t2, .int 30 t3] 9 144 (fun h => isV h k n va ∧ isV h k' 0 vb ∧ 4 ≤ b ∧ b ≤ 16 ∧ n.natAbs < 10 ^ 5 ∧ fitsB n b = true) := by
  intro dp un outer gd base s Q E X T hp hd hu B FF hq
  refine and6 hp fun hv1 hv2 hp3 hp4 hp5 hp6 => ?_
  have hz : fitsB 0 b = true := fits0 hp3
  have b1 : n.natAbs < 10 ^ 10 := by omega
  have b3 : n.natAbs < 10 ^ 29 := by omega
  have b4 : (0 : Int).natAbs < 10 ^ 29 := by decide
  have b5 : Sm n := Sm.le (k := 10) (Nat.le_of_lt b1) (by decide)
  k_extra "my ktr_enter"
  k_extra "my k_steps"
end
end
section
set_option maxHeartbeats 2000000
noncomputable abbrev noPar : Arguments := ⟨[], [], none, [], [], none, []⟩
/-- a lambda without parameters -/
noncomputable def LamAt (h : Heap) (f : Addr) (qual : Str) (body : Expr) (scope : Scope) (clos : List (Str × Addr)) : Prop :=
  ∃ pm c' ctv, h.get? f = some (kla_obj "<lambda>" qual noPar body scope clos pm c' ctv) ∧ h.CodeRec (.ref c') qual
theorem LamAt.keeps {h h' : Heap} {f : Addr} {qual : Str} {body : Expr} {scope : Scope} {clos : List (Str × Addr)} (x : LamAt h f qual body scope clos) (k : h.StaysIn h') : LamAt h' f qual body scope clos :=
  let ⟨pm, c', ctv, a, b⟩ := x; ⟨pm, c', ctv, k _ _ a, b.keeps k⟩
theorem LamAt.fn {h : Heap} {f : Addr} {qual : Str} {body : Expr} {scope : Scope} {clos : List (Str × Addr)} (x : LamAt h f qual body scope clos) : FnAt f h :=
  let ⟨_, _, _, a, _⟩ := x; ⟨_, _, _, _, a⟩
section
variable {w : World} {mean : ExcName → Option Value} {mg mb : Str → Option Value} {A : Around} {s : Shared} {Q E : Value → Shared → Prop} {f : Addr} {qual : Str} {body : Expr} {scope : Scope} {clos : List (Str × Addr)}
theorem lam_enter (T : TopM mean mg mb s.heap) (hl : LamAt s.heap f qual body scope clos) (hroom : A.depth < recursionLimit) (hcell : ∀ x ∈ scope.names, x.2 ≠ .cell) (hco : scope.isCoroutine = false) (hgen : scope.isGenerator = false) (hk : scope.kind = .function)
    (h : ∀ L' cd h₁, Fr s.heap L' h₁ (fun _ => none) → wpAny (model Pg w) (A.deeper (envX qual scope L' f cd clos)) (eval body (envX qual scope L' f cd clos)) Q
      (fun e s' => wpAny (model Pg w) (A.deeper (envX qual scope L' f cd clos)) (leaving (envX qual scope L' f cd clos) e) (fun _ s'' => E e s'') (fun e' s'' => E e' s'') s') { s with heap := h₁ }) :
    wpAny (model Pg w) A (call (.ref f) []) Q E s := by
  obtain ⟨pm, c', ctv, ho, hcd⟩ := hl
  refine wpAny_call (kla_callFunE hroom ho rfl hco hgen rfl hcd ?_)
  refine wpAny_of_eq (a := []) rfl ?_
  refine wpAny_newFunctionEnv hcell (fun x hx => nomatch hx) (fun h₁ hns hsb => ⟨T.nolimit.fresh _ hsb, ?_⟩) hk
  have hk₁ : ∀ b o, s.heap.get? b = some o → h₁.get? b = some o := fun b o e => hsb.extBut b o (Nat.ne_of_lt (Heap.lt_size e)) (Heap.get?_push_of_some _ e)
  exact kla_codeExpr (h s.heap.objs.size (.ref c') h₁ ⟨hns, hk₁, Nat.le_refl _⟩)
/-- a captured name -/
theorem free_name {M : Model} {x : Str} {pos : Pos} {c : Addr} {v : Value} {L : Addr} {cd : Value} (hk : scope.kind = .function) (hx : scope.names.lookup x = some .free) (hc : clos.lookup x = some c) (hv : s.heap.IsCell c (some v)) (h : Q v s)
    (hd : (x == ("__debug__" : Str)) = false) (hn : (x == ("__classdict__" : Str)) = false) : wpAny M A (eval (.Name x pos) (envX qual scope L f cd clos)) Q E s :=
  wpAny_Name (wpAny_loadName_free hk hx hc hv h hn) hd
theorem lam_name {x : Str} {pos : Pos} {c : Addr} {v : Value} (T : TopM mean mg mb s.heap) (hl : LamAt s.heap f qual (.Name x pos) scope clos) (hroom : A.depth < recursionLimit) (hcell : ∀ x ∈ scope.names, x.2 ≠ .cell) (hco : scope.isCoroutine = false) (hgen : scope.isGenerator = false) (hk : scope.kind = .function)
    (hx : scope.names.lookup x = some .free) (hc : clos.lookup x = some c) (hv : s.heap.IsCell c (some v)) (hd : (x == ("__debug__" : Str)) = false) (hn : (x == ("__classdict__" : Str)) = false)
    (hq : ∀ h', s.heap.StaysIn h' → Q v { s with heap := h' }) : wpAny (model Pg w) A (call (.ref f) []) Q E s :=
  lam_enter T hl hroom hcell hco hgen hk fun L' cd h₁ F => free_name hk hx hc (hv.keeps F.keep) (hq _ F.keep) hd hn
/-- the cells of the law's lambdas -/
structure Cells (h : Heap) (clos : List (Str × Addr)) (vo va vb vn : Value) : Prop where
  op : ∃ c, clos.lookup ("op" : Str) = some c ∧ h.IsCell c (some vo)
  one : ∃ c, clos.lookup ("one" : Str) = some c ∧ h.IsCell c (some va)
  other : ∃ c, clos.lookup ("other" : Str) = some c ∧ h.IsCell c (some vb)
  bits : ∃ c, clos.lookup ("bits" : Str) = some c ∧ h.IsCell c (some vn)
theorem Cells.keeps {h h' : Heap} {vo va vb vn : Value} (x : Cells h clos vo va vb vn) (k : h.StaysIn h') : Cells h' clos vo va vb vn :=
  ⟨let ⟨c, a, b⟩ := x.op; ⟨c, a, b.keeps k⟩, let ⟨c, a, b⟩ := x.one; ⟨c, a, b.keeps k⟩, let ⟨c, a, b⟩ := x.other; ⟨c, a, b.keeps k⟩, let ⟨c, a, b⟩ := x.bits; ⟨c, a, b.keeps k⟩⟩
noncomputable abbrev call4 (g : Str) (p0 p1 p2 p3 p4 p5 : Pos) : Expr := .Call (.Name g p0) [.Name "op" p1, .Name "one" p2, .Name "other" p3, .Name "bits" p4] [] p5
noncomputable abbrev call5 (g : Str) (i : Int) (k : Nat) (p0 p1 p2 p3 p4 p5 p6 : Pos) : Expr := .Call (.Name g p0) [.Name "op" p1, .Name "one" p2, .Name "other" p3, .Name "bits" p4, .Constant (.int i) k p5] [] p6
noncomputable abbrev call5s (g x : Str) (i : Int) (k k' : Nat) (p0 p1 p2 p3 p4 p5 p6 : Pos) : Expr := .Call (.Name g p0) [.Constant (.str x) k' p1, .Name "one" p2, .Name "other" p3, .Name "bits" p4, .Constant (.int i) k p5] [] p6
theorem lam_body5 {M : Model} {E' : Value → Shared → Prop} {g : Str} {i : Int} {k : Nat} {p0 p1 p2 p3 p4 p5 p6 : Pos} {G L : Addr} {cd vo va vb vn : Value} {h₀ : Heap} {od : Option Addr} {oc : Value} {fd : FuncData} {sl : Array (Option Value)}
    (F : Fr h₀ L s.heap (fun _ => none)) (X : (K w.params).In h₀) (T : TopM mean mg mb h₀) (hG : nsIn (K w.params) mainGlobals g = some (some (.ref G))) (hGo : (K w.params).lookup G = some ⟨oc, od, .func fd, sl⟩)
    (hk : scope.kind = .function) (hg : scope.names.lookup g = some .globalImplicit) (hgd : (g == ("__debug__" : Str)) = false) (h1 : scope.names.lookup ("op" : Str) = some .free) (h2 : scope.names.lookup ("one" : Str) = some .free) (h3 : scope.names.lookup ("other" : Str) = some .free) (h4 : scope.names.lookup ("bits" : Str) = some .free)
    (C : Cells s.heap clos vo va vb vn) (hq : ∀ t tk, wpAny M A (call (.ref G) [vo, va, vb, vn, .int i t]) Q E' { s with toks := tk }) :
    wpAny M A (eval (call5 g i k p0 p1 p2 p3 p4 p5 p6) (envX qual scope L f cd clos)) Q E' s := by
  obtain ⟨⟨c1, a1, b1⟩, ⟨c2, a2, b2⟩, ⟨c3, a3, b3⟩, ⟨c4, a4, b4⟩⟩ := C
  have fn : FnAt G s.heap := ⟨_, _, _, _, F.keep _ _ (X _ _ hGo)⟩
  refine wpAny_Call_ofName ?_
  refine Calls.Name_function_global hk hg (Calls.loadGlobal_global (env := envX qual scope L f cd clos) (v := .ref G) (T.g.keeps F.keep) (mg_of X T.g hG) ?_) hgd
  refine callWith_F fn ?_
  refine spliced_more (free_name hk h1 a1 b1 ?_ (by decide) (by decide))
  refine spliced_more (free_name hk h2 a2 b2 ?_ (by decide) (by decide))
  refine spliced_more (free_name hk h3 a3 b3 ?_ (by decide) (by decide))
  refine spliced_more (free_name hk h4 a4 b4 ?_ (by decide) (by decide))
  refine spliced_more (wpAny_Constant_int ?_)
  exact spliced_none ⟨fn, hq _ _⟩
theorem lam_body5s {M : Model} {E' : Value → Shared → Prop} {g x : Str} {i : Int} {k k' : Nat} {p0 p1 p2 p3 p4 p5 p6 : Pos} {G L : Addr} {cd va vb vn : Value} {h₀ : Heap} {od : Option Addr} {oc : Value} {fd : FuncData} {sl : Array (Option Value)}
    (F : Fr h₀ L s.heap (fun _ => none)) (X : (K w.params).In h₀) (T : TopM mean mg mb h₀) (hG : nsIn (K w.params) mainGlobals g = some (some (.ref G))) (hGo : (K w.params).lookup G = some ⟨oc, od, .func fd, sl⟩)
    (hk : scope.kind = .function) (hg : scope.names.lookup g = some .globalImplicit) (hgd : (g == ("__debug__" : Str)) = false) (h2 : scope.names.lookup ("one" : Str) = some .free) (h3 : scope.names.lookup ("other" : Str) = some .free) (h4 : scope.names.lookup ("bits" : Str) = some .free)
    (c2 : ∃ c, clos.lookup ("one" : Str) = some c ∧ s.heap.IsCell c (some va)) (c3 : ∃ c, clos.lookup ("other" : Str) = some c ∧ s.heap.IsCell c (some vb)) (c4 : ∃ c, clos.lookup ("bits" : Str) = some c ∧ s.heap.IsCell c (some vn)) (hq : ∀ t0 t tk, wpAny M A (call (.ref G) [.str x t0, va, vb, vn, .int i t]) Q E' { s with toks := tk }) :
    wpAny M A (eval (call5s g x i k k' p0 p1 p2 p3 p4 p5 p6) (envX qual scope L f cd clos)) Q E' s := by
  obtain ⟨⟨c2, a2, b2⟩, ⟨c3, a3, b3⟩, ⟨c4, a4, b4⟩⟩ := And.intro c2 (And.intro c3 c4)
  have fn : FnAt G s.heap := ⟨_, _, _, _, F.keep _ _ (X _ _ hGo)⟩
  refine wpAny_Call_ofName ?_
  refine Calls.Name_function_global hk hg (Calls.loadGlobal_global (env := envX qual scope L f cd clos) (v := .ref G) (T.g.keeps F.keep) (mg_of X T.g hG) ?_) hgd
  refine callWith_F fn ?_
  refine spliced_more (wpAny_Constant_str ?_)
  refine spliced_more (free_name hk h2 a2 b2 ?_ (by decide) (by decide))
  refine spliced_more (free_name hk h3 a3 b3 ?_ (by decide) (by decide))
  refine spliced_more (free_name hk h4 a4 b4 ?_ (by decide) (by decide))
  refine spliced_more (wpAny_Constant_int ?_)
  exact spliced_none ⟨fn, hq _ _ _⟩
theorem lam_body4 {M : Model} {E' : Value → Shared → Prop} {g : Str} {p0 p1 p2 p3 p4 p5 : Pos} {G L : Addr} {cd vo va vb vn : Value} {h₀ : Heap} {od : Option Addr} {oc : Value} {fd : FuncData} {sl : Array (Option Value)}
    (F : Fr h₀ L s.heap (fun _ => none)) (X : (K w.params).In h₀) (T : TopM mean mg mb h₀) (hG : nsIn (K w.params) mainGlobals g = some (some (.ref G))) (hGo : (K w.params).lookup G = some ⟨oc, od, .func fd, sl⟩)
    (hk : scope.kind = .function) (hg : scope.names.lookup g = some .globalImplicit) (hgd : (g == ("__debug__" : Str)) = false) (h1 : scope.names.lookup ("op" : Str) = some .free) (h2 : scope.names.lookup ("one" : Str) = some .free) (h3 : scope.names.lookup ("other" : Str) = some .free) (h4 : scope.names.lookup ("bits" : Str) = some .free)
    (C : Cells s.heap clos vo va vb vn) (hq : ∀ tk, wpAny M A (call (.ref G) [vo, va, vb, vn]) Q E' { s with toks := tk }) :
    wpAny M A (eval (call4 g p0 p1 p2 p3 p4 p5) (envX qual scope L f cd clos)) Q E' s := by
  obtain ⟨⟨c1, a1, b1⟩, ⟨c2, a2, b2⟩, ⟨c3, a3, b3⟩, ⟨c4, a4, b4⟩⟩ := C
  have fn : FnAt G s.heap := ⟨_, _, _, _, F.keep _ _ (X _ _ hGo)⟩
  refine wpAny_Call_ofName ?_
  refine Calls.Name_function_global hk hg (Calls.loadGlobal_global (env := envX qual scope L f cd clos) (v := .ref G) (T.g.keeps F.keep) (mg_of X T.g hG) ?_) hgd
  refine callWith_F fn ?_
  refine spliced_more (free_name hk h1 a1 b1 ?_ (by decide) (by decide))
  refine spliced_more (free_name hk h2 a2 b2 ?_ (by decide) (by decide))
  refine spliced_more (free_name hk h3 a3 b3 ?_ (by decide) (by decide))
  refine spliced_more (free_name hk h4 a4 b4 ?_ (by decide) (by decide))
  exact spliced_none ⟨fn, hq _⟩
end
end
section
set_option maxHeartbeats 2000000
/-- a call that may leave marks on the frames about it -/
noncomputable def ConF (w : World) (mean : ExcName → Option Value) (mg mb : Str → Option Value) (f : Addr) (vs : List Value) (d u : Nat) (pre : Heap → Prop) (Out : Heap → Heap → Value → Prop) : Prop :=
  ∀ (dp un : Nat) (outer : List Env) (gd : Option (List Code)) (base : Heap) (s : Shared) (Q E : Value → Shared → Prop), (K w.params).In base → TopM mean mg mb base → pre s.heap → dp + d < recursionLimit → un + u < cLine →
    base.StaysIn s.heap → s.heap.FunFrames base outer → (∀ r h' tk', base.StaysIn h' → s.heap.UpToSlots h' → Out s.heap h' r → Q r { s with heap := h', toks := tk' }) → wpAny (model Pg w) (AA dp un (some outer) gd) (call (.ref f) vs) Q E s
theorem Con.wide {w : World} {mean : ExcName → Option Value} {mg mb : Str → Option Value} {f : Addr} {vs : List Value} {d u : Nat} {pre : Heap → Prop} {Out : Heap → Heap → Value → Prop} (C : Con w mean mg mb f vs d u pre Out) : ConF w mean mg mb f vs d u pre Out :=
  fun dp un outer gd base s Q E X T p h1 h2 B _ hq => C dp un _ gd s Q E (X.keeps B) (T.keeps B) p h1 h2 fun r h' tk' st o => hq r h' tk' (fun b o e => st b o (B b o e)) (Heap.UpToSlots.of_keeps st) o
theorem upTo_frames {h h' base : Heap} {l : List Env} (u : h.UpToSlots h') (f : h.FunFrames base l) : h'.FunFrames base l :=
  f.of_keeps fun b o e n => let ⟨_, q⟩ := u b o e n; ⟨_, q, rfl⟩
theorem ns_fun {h : Heap} {a : Addr} {m m' : Str → Option Value} (x : h.Ns a m) (y : h.Ns a m') (n : Str) : m n = m' n := by
  obtain ⟨o1, es1, ep1, g1, d1, k1, f1⟩ := x
  obtain ⟨o2, es2, ep2, g2, d2, k2, f2⟩ := y
  rw [g1] at g2; cases g2; rw [d1] at d2; cases d2
  rw [← f1, f2]
section
variable {w : World} {mean : ExcName → Option Value} {mg mb : Str → Option Value} {A : Around} {E : Value → Shared → Prop} {base h₀ : Heap} {outer : List Env} {L a : Addr} {m : Str → Option Value} {name : Str} {scope : Scope} {cd : Value}
theorem dz_handler {s₁ s₂ : Shared} {e : Value} {np ap xp wp rp : Pos} {rest : List ExceptHandler} {Q : Flow → Shared → Prop} (hfr : A.frames = some outer) (X : (K w.params).In base) (T : TopM mean mg mb base)
    (F : Fr h₀ L s₁.heap m) (x : Thrown base (envOf name scope L a cd :: outer) s₁ e s₂) (hmc : m "code" = none)
    (hk : scope.kind = .function) (hx : scope.names.lookup ("BasicError" : Str) = some .globalImplicit) (hw : scope.names.lookup ("wrong" : Str) = some .local)
    (hq : ∀ t h' tk', base.StaysIn h' → h₀.UpToSlots h' → Q (.ret (.str "DZ" t)) { s₁ with heap := h', toks := tk' }) :
    wpAny (model Pg w) (A.deeper (envOf name scope L a cd)) (noteFrame e (envOf name scope L a cd)) (fun _ s₃ => wpAny (model Pg w) (A.deeper (envOf name scope L a cd)) (setFlight e none) (fun _ s₄ =>
      wpAny (model Pg w) (A.deeper (envOf name scope L a cd)) (handleBy e (envOf name scope L a cd) (.ExceptHandler (some (.Name "BasicError" np)) (some "wrong") [.Return (some (.Attribute (.Name "wrong" wp) "code" ap)) rp] xp :: rest)) Q E s₄) E s₃) E s₂ := by
  obtain ⟨e', d, t, h₂, tk₂, rfl, rfl, f, u₂⟩ := x
  have AF : (A.deeper (envOf name scope L a cd)).frames = some (envOf name scope L a cd :: outer) := Around.frames_deeper hfr
  have main : ∀ h₃ : Heap, Fly base (envOf name scope L a cd :: outer) e' d (.str "DZ" t) (rawInt L) h₃ → s₁.heap.UpToSlots h₃ → wpAny (model Pg w) (A.deeper (envOf name scope L a cd)) (setFlight (.ref e') none) (fun _ s₄ =>
      wpAny (model Pg w) (A.deeper (envOf name scope L a cd)) (handleBy (.ref e') (envOf name scope L a cd) (.ExceptHandler (some (.Name "BasicError" np)) (some "wrong") [.Return (some (.Attribute (.Name "wrong" wp) "code" ap)) rp] xp :: rest)) Q E s₄) E { s₁ with heap := h₃, toks := tk₂ } := by
    intro h₃ f₃ u₃
    refine fly_off f₃ fun h₄ f₄ u₄ => ?_
    have X₄ := X.keeps f₄.stays
    have T₄ := T.keeps f₄.stays
    obtain ⟨vs, sl, _, _, _, he, _⟩ := f₄.exc
    refine wpAny_handleBy_cons (codeAny_handlers_test ?_) (by intro q; cases q)
    refine Calls.Name_function_global hk hx (Calls.loadGlobal_global (env := envOf name scope L a cd) (v := .ref 34) T₄.g (mg_of X₄ T₄.g (by kernel_rfl)) ?_) (by decide)
    refine wpAny_excMatches_sub_self (cls_at X₄) he rfl (by decide +kernel) (codeAny_handlers_suite_as ?_)
    refine fly_off f₄ fun h₅ f₅ u₅ => ?_
    have n₅ : h₅.Ns L m := u₅.ns (u₄.ns (u₃.ns F.ns))
    obtain ⟨vs5, sl5, _, _, _, he5, _⟩ := f₅.exc
    have eL : e' ≠ L := fun q => by
      obtain ⟨o, es, ep, g1, d1, _⟩ := n₅
      rw [← q, he5] at g1; cases g1; cases d1
    have dL : d ≠ L := fun q => by
      obtain ⟨mA, n, c⟩ := f₅.code
      rw [q] at n
      rw [ns_fun n n₅, hmc] at c; cases c
    have bL : base.get? L = none := by
      obtain ⟨_, ⟨L₂, _, hf, hn, _⟩, _⟩ := f₅.frames
      obtain rfl : L = L₂ := Option.some.inj hf
      exact hn
    have hp : ((envOf name scope L a cd).scope.kind == .class || ((envOf name scope L a cd).scope.kind == .module && (envOf name scope L a cd).locals != (envOf name scope L a cd).globals)) = false := by
      show (scope.kind == .class || (scope.kind == .module && L != mainGlobals)) = false
      rw [hk]; rfl
    refine wpAny_storeName_local hw n₅ (fun h₆ n₆ s₆ => ?_) hp
    have st₆ : base.StaysIn h₆ := fun b o q => (s₆.2 b (fun z => by rw [show b = L from z, bL] at q; cases q)).trans (f₅.stays b o q)
    have he6 : h₆.get? e' = _ := (s₆.2 e' eL).trans he5
    have hc6 : CodeIn h₆ d (.str "DZ" t) := let ⟨mA, n, c⟩ := f₅.code; ⟨mA, n.sameBut s₆ dL, c⟩
    refine wpAny_execs_cons (wpAny_Return_some (Attribute_name (wpAny_Name (wpAny_loadName_local hk hw n₆ (if_pos rfl) ?_) (by decide))))
    refine code_attr (X.keeps st₆) he6 hc6 rfl ?_
    refine wpAny_nameGoes hw n₆ hp fun h₇ m₇ n₇ s₇ => hq t h₇ _ (fun b o q => (s₇.2 b (fun z => by rw [show b = L from z, bL] at q; cases q)).trans (st₆ b o q)) fun b o q nf => ?_
    have bne : b ≠ L := Nat.ne_of_lt (Nat.lt_of_lt_of_le (Heap.lt_size q) F.above)
    obtain ⟨sl', q'⟩ := ((((Heap.UpToSlots.of_keeps F.keep).trans u₃).trans u₄).trans u₅) b o q nf
    exact ⟨sl', (s₇.2 b bne).trans ((s₆.2 b bne).trans q')⟩
  rcases f with f | f
  · exact fly_note_new AF rfl f fun h₃ y u => main h₃ y (u₂.trans u)
  · exact fly_note AF rfl f fun h₃ y u => main h₃ y (u₂.trans u)
end
end
section
set_option maxHeartbeats 8000000
/-- the same, new where z says so -/
noncomputable def isPf (z : Bool) (h h' : Heap) (p : Int × Int) (v : Value) : Prop := ∃ a t u, v = .ref a ∧ IsTup h' a [Value.int p.1 t, Value.int p.2 u].toArray ∧ (z = true → h.get? a = none)
noncomputable def isW (z : Bool) (h h' : Heap) (p : Int × Int) (v : Value) : Prop := isPf z h h' p v ∨ ∃ n t, v = .int n t ∧ Sm n ∧ lawDec n = p
theorem isPf_of {h₀ h : Heap} {L a : Addr} {news : List (Addr × Obj)} {c e : Int} {t v : Tok} {p : Int × Int} {z : Bool} (N : News h₀ L h news) (hm : (a, tupO c t e v) ∈ news) (hp : p = (c, e)) : isPf z h₀ h p (.ref a) := by
  subst hp
  exact ⟨a, t, v, rfl, ⟨_, (N _ hm).1, rfl, _, rfl⟩, fun _ => (N _ hm).2.2⟩
theorem fnAt_keeps {h h' : Heap} {f : Addr} (x : FnAt f h) (k : ∀ b o, h.get? b = some o → h'.get? b = some o) : FnAt f h' :=
  let ⟨a, b, c, d, e⟩ := x; ⟨a, b, c, d, k _ _ e⟩
section
variable {w : World} {mean : ExcName → Option Value} {mg mb : Str → Option Value} {f : Addr}
theorem words6 : True := by
  k_with_none
  (k_with "my cz" => ((case zF => k_asm); (case zN => k_asm); (case zX => k_asm); (case zT => k_asm)))
  (k_with "my cy" => ((case zp => first | trivial | ((try dsimp only); (repeat' (with_reducible refine And.intro ?_ ?_)) <;> k_extra "my ktr_rel")); (case zd => k_extra "my ktr_room"); (case zu => k_extra "my ktr_room")))
  (k_with "my ee" => ((case ep => k_extra "my evp"); (case ed => k_extra "my ktr_room"); (case eu => k_extra "my ktr_room")))
  (k_with "my ktr_room" => ((try dsimp only [AA]); first | exact room1 hd rfl | exact room hu rfl | exact room hd rfl | omega))
  (k_with "my ktr_rel" => first | trivial | assumption | omega | rfl | (with_reducible exact ⟨_, rfl⟩))
  (k_with "my ktr_rel" => first | exact isV.keeps (by assumption) (Fr.keep (by assumption)) | trivial | k_extra "my is_list" | assumption | k_extra "my ktn_ord" | omega | rfl | (with_reducible exact ⟨_, rfl⟩))
  (k_with "my evp" => first | trivial | ((try dsimp only); (repeat' (with_reducible refine And.intro ?_ ?_)) <;> first | exact isV.keeps (isV.keeps (by assumption) (Cx.F C9).keep) st9 | k_extra "my ktr_rel"))
  (k_with "my ev" => first
    | exact Ev.lit
    | exact Ev.nmI C9 rfl
    | (apply Ev.add; k_extra "my ev"; k_extra "my ev")
    | (apply Ev.sub; k_extra "my ev"; k_extra "my ev")
    | (apply Ev.mul; k_extra "my ev"; k_extra "my ev"; first | exact Sm.mulOk (by k_extra "my ktn_ord") (by k_extra "my ktn_ord") | mul_fits)
    | (apply Ev.fdiv; k_extra "my ev"; k_extra "my ev"; k_extra "my km_fact"; k_extra "my kbt_ne")
    | (apply Ev.mod; k_extra "my ev"; k_extra "my ev"; k_extra "my km_fact")
    | (apply Ev.pow; k_extra "my ev"; k_extra "my ev"; omega; omega; first | decide | omega)
    | (apply Ev.neg; k_extra "my ev")
    | (apply Ev.cmpI; k_extra "my ev"; k_extra "my ev"; k_extra "my cmp"; rfl)
    | (apply Ev.item0; k_extra "my evt")
    | (apply Ev.item1; k_extra "my evt")
    | (apply Ev.call C9; rfl; rfl; rfl; rfl; k_is; k_is; k_extra "my evl"; (intro hh9 st9; (repeat (intro _)); k_extra "my evk"))
    | (apply Ev.abs C9; rfl; k_is; rfl; k_extra "my ev")
    | (apply Ev.isi C9; rfl; k_is; rfl; rfl; k_extra "my evl"; k_extra "my isi")
    | ((rename EvIf => if9); apply Ev.iteI; k_extra "my ec"; (intro hc9; k_extra "my ev"); (intro hc9; k_extra "my ev"))
    | exact Ev.text
    | exact Ev.nmS C9 rfl
    | exact Ev.nmB C9 rfl
    | (refine' Ev.nmT C9 rfl ?i; (case i => is_list))
    | exact Ev.nmV C9 rfl
    | (apply Ev.nmBT C9; rfl; rfl; boot_fast; decide; k_is))
  (k_with "my isi" => first | exact IsiIs.tt | exact IsiIs.ts | exact IsiIs.it | exact IsiIs.is)
  (k_with "my evt" => (refine' Ev.nmT C9 rfl ?i; (case i => is_list)))
  (k_with "my evl" => first | exact EvL.nil | (apply EvL.cons; k_extra "my ev"; k_extra "my evl"; rfl))
  (k_with "my cmp" => first | exact CmpIs.eq | exact CmpIs.lt | exact CmpIs.ne | exact CmpIs.le | exact CmpIs.gt | exact CmpIs.ge | exact CmpIs.eqs | exact CmpIs.nes | exact CmpIs.eqb)
  (k_with "my ec" => first | (apply Ec.cmpI; k_extra "my ev"; k_extra "my ev"; k_extra "my cmp"; rfl) | (apply Ec.plain; k_extra "my ev"; (intro _; rfl)) | (apply Ec.not; k_extra "my ec"))
  (k_with "my cx" => (refine' Cx.mk ?cxX ?cxT ?cxF ?cxl ?cxg ?cxk ?cxb; (case cxF => k_asm); (case cxX => k_asm); (case cxT => k_asm); (case cxl => rfl); (case cxg => rfl); (case cxk => rfl); (case cxb => rfl)))
  (k_with "my evline" => (k_here; k_whole; (fail_if_success (rename EvOff => off9)); k_dflt (refine' Ev.use0 ?C ?N ?ev ?_; (case C => k_extra "my cx"); (case N => k_asm); (case ev => (intro C9; k_extra "my ev")); first | (refine giveI ?_; intro t9 h9 tk9 F9 N9) | (refine giveT ?_; intro a9 t9 v9 h9 tk9 F9 N9) | (refine giveB ?_; intro h9 tk9 F9 N9) | (refine giveV ?_; intro r9 h9 tk9 F9 N9 O9) | (refine giveT3 ?_; intro a9 t9 v9 x9 h9 tk9 F9 N9))))
  (k_with "eval Call" => k_extra "my evline")
  (k_with "eval BinOp" => k_extra "my evline")
  (k_with "eval UnaryOp" => k_extra "my evline")
  (k_with "eval Compare" => k_extra "my evline")
  (k_with "eval Subscript" => k_extra "my evline")
  (k_with "my ecline" => (k_here; k_whole; (fail_if_success (rename EvOff => off9)); k_dflt (refine' Ec.use0 ?C ?N ?ev ?_; (case C => k_extra "my cx"); (case N => k_asm); (case ev => (intro C9; k_extra "my ec")); intro h9 tk9 F9 N9)))
  (k_with "isTrue Compare" => k_extra "my ecline")
  (k_with "isTrue Call" => k_extra "my ecline")
  (k_with "isTrue UnaryOp" => k_extra "my ecline")
  (k_with "my ktr_enter" => (
  refine' enter ?eX_k9 ?eT_k9 ?eo_k9 ?ec_k9 ?er_k9 ?ep ?eb_k9 ?es_k9 ?ez_k9 ?eR_k9 ?ek_k9 ?el_k9 ?_ ?ee_k9 ?e1_k9 ?e2_k9 ?e3_k9
  (case eX_k9 => assumption)
  (case eT_k9 => assumption)
  (case eo_k9 => k_is)
  (case ec_k9 => k_is)
  (case er_k9 => (show (_ : Nat) < _; (try dsimp only [AA]); omega))
  (case ep => (conv => lhs; whnf))
  (case eb_k9 => (conv => lhs; whnf))
  (case es_k9 => (conv => lhs; whnf))
  (case ez_k9 => (conv => lhs; simp only [List.map_cons, List.map_nil, List.zip_cons_cons, List.zip_nil_right, List.zip_nil_left]))
  (case eR_k9 => (conv => lhs; simp only [List.reverse_cons, List.reverse_nil, List.nil_append, List.cons_append]))
  (case ek_k9 => exact rfl)
  (case el_k9 => exact rfl)
  (case ee_k9 => exact rfl)
  (case e1_k9 => exact rfl)
  (case e2_k9 => exact rfl)
  (case e3_k9 => exact rfl)
  intro _ _ _ _ _
  try dsimp only
  try k_fold))
  (k_with "my k_steps" => repeat' (first | (k_unfold; (try dsimp only)) | ((with_reducible show wpAny _ _ (exec _ _) _ _ _); k_whole; k_fold) | ((with_reducible show (_ : Flow → Shared → Prop) _ _); k_unfold; (try dsimp only)) | ((with_reducible show (_ : Value → Shared → Prop) _ _); k_unfold; (try dsimp only)) | walk1 | (dsimp only; k_unfold; (try dsimp only)) | (dsimp only; walk1) | fail "no step"))
  (k_with "my k_steps" => repeat' (first | (k_unfold; (try dsimp only)) | ((with_reducible show wpAny _ _ (exec _ _) _ _ _); k_whole; k_fold) | ((with_reducible show (_ : Flow → Shared → Prop) _ _); k_unfold; (try dsimp only)) | ((with_reducible show (_ : Value → Shared → Prop) _ _); k_unfold; (try dsimp only)) | ((fail_if_success (with_reducible show wpAny _ _ (exec (Stmt.While _ _ _ _) _) _ _ _)); walk1) | (dsimp only; k_unfold; (try dsimp only)) | (dsimp only; (fail_if_success (with_reducible show wpAny _ _ (exec (Stmt.While _ _ _ _) _) _ _ _)); walk1) | fail "no step"))
  (k_with "my km_fact" => first | exact pow10_ne _ | assumption | omega | decide)
  (k_with "my kbt_ne" => first | exact (Sm.pow10 (by omega)).log2 | exact (Sm.small (by omega) (by omega)).log2 | exact Sm.log2 (by assumption))
  (k_with "binaryOp FloorDiv int int" => (k_here; (with_reducible refine floordiv_int ?kzb_k9 ?_ (Or.inl (PyProof.noPylong_of_log2 ?kzp_k9))); (case kzb_k9 => k_extra "my km_fact"); (case kzp_k9 => k_extra "my kbt_ne")))
  (k_with "inplaceOp FloorDiv int int" => (k_here; (with_reducible refine ifloordiv_int ?kzb_k9 ?_ (Or.inl (PyProof.noPylong_of_log2 ?kzp_k9))); (case kzb_k9 => k_extra "my km_fact"); (case kzp_k9 => k_extra "my kbt_ne")))
  (k_with "binaryOp Mod int int" => (k_here; (with_reducible refine mod_int' ?kzb_k9 ?_); (case kzb_k9 => k_extra "my km_fact")))
  (k_with "call builtin:abs" => (k_here; (refine call_abs ?_); intro _ _))
  (k_with "my ktn_ord" => first | assumption | exact Sm.pow10 (by omega) | exact Sm.small (by omega) (by omega))
  (k_with "binaryOp Mult int int" => (k_here; (with_reducible refine mul_int ?_ ?kzm_k9); (case kzm_k9 => first | exact Sm.mulOk (by k_extra "my ktn_ord") (by k_extra "my ktn_ord") | mul_fits)))
  (k_with "call ref" => (k_here; k_dflt (refine' Con.useI figures_of_c ?zF ?zN ?zX ?zT ?zp ?zd ?zu ?_; k_extra "my cz"; (case zp => trivial); (case zd => k_extra "my ktr_room"); (case zu => k_extra "my ktr_room")); intro _ _ _ _ _))
  (k_with "call ref" => (k_here; k_dflt (refine' Con.useI rounded_by_c ?zF ?zN ?zX ?zT ?zp ?zd ?zu ?_; k_extra "my cz"; (case zp => ((try dsimp only); omega)); (case zd => k_extra "my ktr_room"); (case zu => k_extra "my ktr_room")); intro _ _ _ _ _))
  (k_with "call ref" => (k_here; k_dflt (refine' Con.useT made_c ?zF ?zN ?zX ?zT ?zp ?zd ?zu ?_; k_extra "my cz"; k_extra "my cy"); intro _ _ _ _ _ _ _))
  (k_with "call ref" => (k_here; k_dflt (refine' Con.useI whole_near_c ?zF ?zN ?zX ?zT ?zp ?zd ?zu ?_; k_extra "my cz"; k_extra "my cy"); intro _ _ _ _ _))
  (k_with "call ref" => (k_here; k_dflt (refine' Con.useB fits_c ?zF ?zN ?zX ?zT ?zp ?zd ?zu ?_; k_extra "my cz"; k_extra "my cy"); intro _ _ _ _))
  (k_with "call ref" => (k_here; k_dflt (refine' Con.useI whole_of_ci ?zF ?zN ?zX ?zT ?zp ?zd ?zu ?_; k_extra "my cz"; k_extra "my cy"); intro _ _ _ _ _))
  (k_with "call ref" => (k_here; k_dflt (refine' Con.useI whole_of_ct ?zF ?zN ?zX ?zT ?zp ?zd ?zu ?_; k_extra "my cz"; k_extra "my cy"); intro _ _ _ _ _))
  (k_with "call ref" => (k_here; k_dflt (refine' Con.useT decimal_of_ci ?zF ?zN ?zX ?zT ?zp ?zd ?zu ?_; k_extra "my cz"; k_extra "my cy"); intro _ _ _ _ _ _ _))
  (k_with "call ref" => (k_here; k_dflt (refine' Con.useT decimal_of_ct ?zF ?zN ?zX ?zT ?zp ?zd ?zu ?_; k_extra "my cz"; k_extra "my cy"); intro _ _ _ _ _ _ _))
  (k_with "call ref" => (k_here; k_dflt (refine' Con.useT d_negated_c ?zF ?zN ?zX ?zT ?zp ?zd ?zu ?_; k_extra "my cz"; k_extra "my cy"); intro _ _ _ _ _ _ _))
  (k_with "call ref" => (k_here; k_dflt (refine' Con.useT3 alike_c ?zF ?zN ?zX ?zT ?zp ?zd ?zu ?_; k_extra "my cz"; k_extra "my cy"); intro _ _ _ _ _ _ _ _))
  (k_with "call ref" => (k_here; k_dflt (refine' Con.useT with_rest_c ?zF ?zN ?zX ?zT ?zp ?zd ?zu ?_; k_extra "my cz"; k_extra "my cy"); intro _ _ _ _ _ _ _))
  (k_with "call ref" => (k_here; k_dflt (refine' Con.useT d_add_c ?zF ?zN ?zX ?zT ?zp ?zd ?zu ?_; k_extra "my cz"; k_extra "my cy"); intro _ _ _ _ _ _ _))
  (k_with "call ref" => (k_here; k_dflt (refine' Con.useT d_mul_c ?zF ?zN ?zX ?zT ?zp ?zd ?zu ?_; k_extra "my cz"; k_extra "my cy"); intro _ _ _ _ _ _ _))
  (k_with "call ref" => (k_here; k_dflt (refine' Con.useT d_sub_c ?zF ?zN ?zX ?zT ?zp ?zd ?zu ?_; k_extra "my cz"; k_extra "my cy"); intro _ _ _ _ _ _ _))
  (k_with "call ref" => (k_here; k_dflt (refine' Con.useT d_div_c ?zF ?zN ?zX ?zT ?zp ?zd ?zu ?_; k_extra "my cz"; k_extra "my cy"); intro _ _ _ _ _ _ _))
  (k_with "call ref" => (k_here; k_dflt (refine' Con.useI d_compare_c ?zF ?zN ?zX ?zT ?zp ?zd ?zu ?_; k_extra "my cz"; k_extra "my cy"); intro _ _ _ _ _))
  (k_with "call ref" => (k_here; k_dflt (refine' Con.useT square_c ?zF ?zN ?zX ?zT ?zp ?zd ?zu ?_; k_extra "my cz"; k_extra "my cy"); intro _ _ _ _ _ _ _))
  (k_with "call ref" => (k_here; k_dflt (refine' Con.useT decimal_of_v ?zF ?zN ?zX ?zT ?zp ?zd ?zu ?_; k_extra "my cz"; k_extra "my cy"); intro _ _ _ _ _ _ _))
  (k_with "call ref" => (k_here; k_dflt (refine' Con.useI whole_of_v ?zF ?zN ?zX ?zT ?zp ?zd ?zu ?_; k_extra "my cz"; k_extra "my cy"); intro _ _ _ _ _))
  (k_with "call ref" => (k_here; k_dflt (refine' Con.useB is_whole_ci ?zF ?zN ?zX ?zT ?zp ?zd ?zu ?_; k_extra "my cz"; k_extra "my cy"); intro _ _ _ _))
  (k_with "call ref" => (k_here; k_dflt (refine' Con.useB is_whole_ct ?zF ?zN ?zX ?zT ?zp ?zd ?zu ?_; k_extra "my cz"; k_extra "my cy"); intro _ _ _ _))
  (k_with "call ref" => (k_here; k_dflt (refine' Con.useB is_whole_v ?zF ?zN ?zX ?zT ?zp ?zd ?zu ?_; k_extra "my cz"; k_extra "my cy"); intro _ _ _ _))
  (k_with "call ref" => (k_here; k_dflt (refine' Con.useV settled_c ?zF ?zN ?zX ?zT ?zp ?zd ?zu ?_; k_extra "my cz"; k_extra "my cy"); intro _ _ _ _ _ _))
  (k_with "call ref" => (k_here; k_dflt (refine' Con.useV whole_reckoned_c ?zF ?zN ?zX ?zT ?zp ?zd ?zu ?_; k_extra "my cz"; k_extra "my cy"); intro _ _ _ _ _ _))
  (k_with "call ref" => (k_here; k_dflt (refine' Con.useI cut_quotient_c ?zF ?zN ?zX ?zT ?zp ?zd ?zu ?_; k_extra "my cz"; k_extra "my cy"); intro _ _ _ _ _))
  (k_with "call ref" => (k_here; k_dflt (refine' Con.useI exponent_of_v ?zF ?zN ?zX ?zT ?zp ?zd ?zu ?_; k_extra "my cz"; k_extra "my cy"); intro _ _ _ _ _))
  (k_with "call ref" => (k_here; k_dflt (refine' Con.useV whole_power_c ?zF ?zN ?zX ?zT ?zp ?zd ?zu ?_; k_extra "my cz"; k_extra "my cy"); intro _ _ _ _ _ _))
  (k_with "call ref" => (k_here; k_dflt (refine' Con.useV whole_reckoned_v ?zF ?zN ?zX ?zT ?zp ?zd ?zu ?_; k_extra "my cz"; k_extra "my cy"); intro _ _ _ _ _ _))
  (k_with "call ref" => (k_here; k_dflt (refine' Con.useV whole_power_v ?zF ?zN ?zX ?zT ?zp ?zd ?zu ?_; k_extra "my cz"; k_extra "my cy"); intro _ _ _ _ _ _))
  (k_with "call ref" => (k_here; k_dflt (refine' Con.useT d_power_c ?zF ?zN ?zX ?zT ?zp ?zd ?zu ?_; k_extra "my cz"; k_extra "my cy"); intro _ _ _ _ _ _ _))
  (k_with "call ref" => (k_here; k_dflt (refine' Con.useT d_add_l ?zF ?zN ?zX ?zT ?zp ?zd ?zu ?_; k_extra "my cz"; k_extra "my cy"); intro _ _ _ _ _ _ _))
  (k_with "call ref" => (k_here; k_dflt (refine' Con.useT d_sub_l ?zF ?zN ?zX ?zT ?zp ?zd ?zu ?_; k_extra "my cz"; k_extra "my cy"); intro _ _ _ _ _ _ _))
  (k_with "call ref" => (k_here; k_dflt (refine' Con.useT d_mul_l ?zF ?zN ?zX ?zT ?zp ?zd ?zu ?_; k_extra "my cz"; k_extra "my cy"); intro _ _ _ _ _ _ _))
  (k_with "call ref" => (k_here; k_dflt (refine' Con.useT d_div_l ?zF ?zN ?zX ?zT ?zp ?zd ?zu ?_; k_extra "my cz"; k_extra "my cy"); intro _ _ _ _ _ _ _))
  (k_with "call ref" => (k_here; k_dflt (refine' Con.useI d_compare_l ?zF ?zN ?zX ?zT ?zp ?zd ?zu ?_; k_extra "my cz"; k_extra "my cy"); intro _ _ _ _ _))
  (k_with "call ref" => (k_here; k_dflt (refine' Con.useV negated_v ?zF ?zN ?zX ?zT ?zp ?zd ?zu ?_; k_extra "my cz"; k_extra "my cy"); intro _ _ _ _ _ _))
  (k_with "call ref" => (k_here; k_dflt (refine' Con.useI order_v ?zF ?zN ?zX ?zT ?zp ?zd ?zu ?_; k_extra "my cz"; k_extra "my cy"); intro _ _ _ _ _))
  (k_with "call ref" => (k_here; k_dflt (refine' Con.useB stands_c ?zF ?zN ?zX ?zT ?zp ?zd ?zu ?_; k_extra "my cz"; k_extra "my cy"); intro _ _ _ _))
  (k_with "call ref" => (k_here; k_dflt (refine' Con.useI inverted_c ?zF ?zN ?zX ?zT ?zp ?zd ?zu ?_; k_extra "my cz"; k_extra "my cy"); intro _ _ _ _ _))
  (k_with "call ref" => (k_here; k_dflt (refine' Con.useT dec_c ?zF ?zN ?zX ?zT ?zp ?zd ?zu ?_; k_extra "my cz"; k_extra "my cy"); intro _ _ _ _ _ _ _))
  (k_with "my evk" => (refine' CallOK.I figures_of_c ?ep ?ed ?eu; k_extra "my ee"))
  (k_with "my evk" => (refine' CallOK.I rounded_by_c ?ep ?ed ?eu; k_extra "my ee"))
  (k_with "my evk" => (refine' CallOK.T made_c ?ep ?ed ?eu; k_extra "my ee"))
  (k_with "my evk" => (refine' CallOK.I whole_near_c ?ep ?ed ?eu; k_extra "my ee"))
  (k_with "my evk" => (refine' CallOK.B fits_c ?ep ?ed ?eu; k_extra "my ee"))
  (k_with "my evk" => (refine' CallOK.I whole_of_ci ?ep ?ed ?eu; k_extra "my ee"))
  (k_with "my evk" => (refine' CallOK.I whole_of_ct ?ep ?ed ?eu; k_extra "my ee"))
  (k_with "my evk" => (refine' CallOK.T decimal_of_ci ?ep ?ed ?eu; k_extra "my ee"))
  (k_with "my evk" => (refine' CallOK.T decimal_of_ct ?ep ?ed ?eu; k_extra "my ee"))
  (k_with "my evk" => (refine' CallOK.T d_negated_c ?ep ?ed ?eu; k_extra "my ee"))
  (k_with "my evk" => (refine' CallOK.T3 alike_c ?ep ?ed ?eu; k_extra "my ee"))
  (k_with "my evk" => (refine' CallOK.T with_rest_c ?ep ?ed ?eu; k_extra "my ee"))
  (k_with "my evk" => (refine' CallOK.T d_add_c ?ep ?ed ?eu; k_extra "my ee"))
  (k_with "my evk" => (refine' CallOK.T d_mul_c ?ep ?ed ?eu; k_extra "my ee"))
  (k_with "my evk" => (refine' CallOK.T d_sub_c ?ep ?ed ?eu; k_extra "my ee"))
  (k_with "my evk" => (refine' CallOK.T d_div_c ?ep ?ed ?eu; k_extra "my ee"))
  (k_with "my evk" => (refine' CallOK.I d_compare_c ?ep ?ed ?eu; k_extra "my ee"))
  (k_with "my evk" => (refine' CallOK.T square_c ?ep ?ed ?eu; k_extra "my ee"))
  (k_with "my evk" => (refine' CallOK.T decimal_of_v ?ep ?ed ?eu; k_extra "my ee"))
  (k_with "my evk" => (refine' CallOK.I whole_of_v ?ep ?ed ?eu; k_extra "my ee"))
  (k_with "my evk" => (refine' CallOK.B is_whole_ci ?ep ?ed ?eu; k_extra "my ee"))
  (k_with "my evk" => (refine' CallOK.B is_whole_ct ?ep ?ed ?eu; k_extra "my ee"))
  (k_with "my evk" => (refine' CallOK.B is_whole_v ?ep ?ed ?eu; k_extra "my ee"))
  (k_with "my evk" => (refine' CallOK.V settled_c ?ep ?ed ?eu; k_extra "my ee"))
  (k_with "my evk" => (refine' CallOK.V whole_reckoned_c ?ep ?ed ?eu; k_extra "my ee"))
  (k_with "my evk" => (refine' CallOK.I cut_quotient_c ?ep ?ed ?eu; k_extra "my ee"))
  (k_with "my evk" => (refine' CallOK.I exponent_of_v ?ep ?ed ?eu; k_extra "my ee"))
  (k_with "my evk" => (refine' CallOK.V whole_power_c ?ep ?ed ?eu; k_extra "my ee"))
  (k_with "my evk" => (refine' CallOK.V whole_reckoned_v ?ep ?ed ?eu; k_extra "my ee"))
  (k_with "my evk" => (refine' CallOK.V whole_power_v ?ep ?ed ?eu; k_extra "my ee"))
  (k_with "my evk" => (refine' CallOK.T d_power_c ?ep ?ed ?eu; k_extra "my ee"))
  (k_with "my evk" => (refine' CallOK.T d_add_l ?ep ?ed ?eu; k_extra "my ee"))
  (k_with "my evk" => (refine' CallOK.T d_sub_l ?ep ?ed ?eu; k_extra "my ee"))
  (k_with "my evk" => (refine' CallOK.T d_mul_l ?ep ?ed ?eu; k_extra "my ee"))
  (k_with "my evk" => (refine' CallOK.T d_div_l ?ep ?ed ?eu; k_extra "my ee"))
  (k_with "my evk" => (refine' CallOK.I d_compare_l ?ep ?ed ?eu; k_extra "my ee"))
  (k_with "my evk" => (refine' CallOK.V negated_v ?ep ?ed ?eu; k_extra "my ee"))
  (k_with "my evk" => (refine' CallOK.I order_v ?ep ?ed ?eu; k_extra "my ee"))
  (k_with "my evk" => (refine' CallOK.B stands_c ?ep ?ed ?eu; k_extra "my ee"))
  (k_with "my evk" => (refine' CallOK.I inverted_c ?ep ?ed ?eu; k_extra "my ee"))
  (k_with "my evk" => (refine' CallOK.T dec_c ?ep ?ed ?eu; k_extra "my ee"))
  (k_with "call builtin:min" => (k_here; k_dflt (refine' call_min ?kz1_k9 ?kz2_k9 ?kz3_k9 ?_; (case kz1_k9 => rfl); (case kz2_k9 => k_asm); (case kz3_k9 => k_asm)); intro _ _ _ _ _))
  (k_with "call builtin:max" => (k_here; k_dflt (refine' call_max ?kz1_k9 ?kz2_k9 ?kz3_k9 ?_; (case kz1_k9 => rfl); (case kz2_k9 => k_asm); (case kz3_k9 => k_asm)); intro _ _ _ _ _))
  (k_with "binaryOp Pow int int" => (k_here; (with_reducible refine pow_int_small ?kz1_k9 ?kz2_k9 ?kz3_k9 ?_); (case kz1_k9 => omega); (case kz2_k9 => omega); (case kz3_k9 => first | decide | omega)))
  (k_with "call builtin:isinstance" => (k_here; k_dflt (first | (refine' isi_tup ?kz1_k9 ?kz2_k9 ?_; (case kz1_k9 => k_in); (case kz2_k9 => k_extra "my is_list")) | (refine' isi_tup_str ?kz1_k9 ?kz2_k9 ?_; (case kz1_k9 => k_in); (case kz2_k9 => k_extra "my is_list"))); intro _))
  (k_with "my is_list" => first | exact Has.t0 (by assumption) (by assumption) (by assumption) | exact Has.t1 (by assumption) (by assumption) (by assumption) | exact Has.t2 (by assumption) (by assumption) (by assumption) | exact Has.t3 (by assumption) (by assumption) (by assumption) | exact Fr.tup (by assumption) (by assumption) | exact News.isTup (by assumption) (by k_mem) | assumption)
  (k_with "subscriptTail" => (k_here; (with_reducible show wpAny _ _ (subscriptTail _ _ (Value.ref _) (Value.int _ _)) _ _ _); k_dflt (refine' item_tupleT ?kt_k9 ?k1_k9 ?k2_k9 ?k3_k9 ?k4_k9 ?_; (case kt_k9 => k_extra "my is_list"); (case k1_k9 => decide); (case k2_k9 => decide); (case k3_k9 => rfl); (case k4_k9 => rfl))))
  trivial
theorem worth_c {z : Bool} {p : Int × Int} {d u : Nat} {pre : Heap → Prop} (C : Con w mean mg mb f [] d u pre (fun h h' r => isW z h h' p r)) (hpre : ∀ h h', h.StaysIn h' → pre h → pre h') :
    Con w mean mg mb 276 [.ref f] (d + 6) (u + 96) (fun h => pre h ∧ FnAt f h) (fun h h' r => isPf z h h' p r) := by
  have off9 := EvOff.mk
  intro dp un fr gd s Q E X T hp hd hu hret
  obtain ⟨hp1, hp2⟩ := hp
  k_extra "my ktr_enter"
  rename_i L h1 tk1 F N
  refine wpAny_execs_cons (wpAny_Try_except ?_)
  refine wpAny_execs_cons (wpAny_Assign_Name ?_)
  refine wpAny_Call_ofName (wpAny_Name (wpAny_loadName_local (by rfl) (by rfl) F.ns (by rfl) ?_) (by decide))
  refine callWith_F0 (fnAt_keeps hp2 F.keep) ?_
  refine Con.use C F N X T (hpre _ _ F.keep hp1) ?_ ?_ fun r h2 tk2 F2 N2 st2 o2 => ?_
  · show (_ : Nat) + d < _; (try dsimp only [AA]); show dp + 1 + d < _; omega
  · show un + 3 + u < _; omega
  have nL : ∀ b o xs k, h2.get? b = some o → o.data = .seq xs k → b ≠ L := fun b o xs k q dq z => by
    obtain ⟨o', es, ep, g1, d1, _⟩ := F2.ns
    rw [← z, q] at g1; cases g1; rw [dq] at d1; cases d1
  refine wpAny_storeName_local (by rfl) F2.ns (fun h3 n3 s3 => ?_) (by rfl)
  have F3 := F2.set n3 s3
  have N3 := N2.set s3
  refine wpAny_execs_nil (wpAny_execs_nil ?_)
  show wpAny _ _ (execs _ _) _ _ _
  try dsimp only
  rcases o2 with ⟨a, t, u', rfl, ⟨o, g1, c1, kk, d1⟩, fz⟩ | ⟨n, t, rfl, sn, e⟩
  · have i3 : IsTup h3 a [Value.int p.1 t, Value.int p.2 u'].toArray := ⟨o, (s3.2 a (nL a o _ _ g1 d1)).trans g1, c1, kk, d1⟩
    k_extra "my k_steps"
    show Q _ _
    exact hret _ _ _ (Fr.keep (by assumption)) ⟨a, t, u', rfl, i3, fun q => (fr_has (h' := h3) F (fz q)).2⟩
  · k_extra "my k_steps"
    show Q _ _
    subst e
    exact hret _ _ _ (Fr.keep (by assumption)) (isPf_of (by assumption) (by k_mem) rfl)
theorem worth_dz {d u : Nat} {pre : Heap → Prop} (C : ConE w mean mg mb f [] d u pre) (hpre : ∀ h h', h.StaysIn h' → pre h → pre h') :
    ConF w mean mg mb 276 [.ref f] (d + 6) (u + 96) (fun h => pre h ∧ FnAt f h) (fun _ _ r => ∃ t, r = .str "DZ" t) := by
  intro dp un outer gd base s Q E X₀ T₀ hp hd hu B FF hq
  obtain ⟨hp1, hp2⟩ := hp
  have X := X₀.keeps B
  have T := T₀.keeps B
  k_extra "my ktr_enter"
  rename_i L h1 tk1 F N
  refine wpAny_execs_cons (wpAny_Try_except ?_)
  refine wpAny_execs_cons (wpAny_Assign_Name ?_)
  refine wpAny_Call_ofName (wpAny_Name (wpAny_loadName_local (by rfl) (by rfl) F.ns (by rfl) ?_) (by decide))
  refine callWith_F0 (fnAt_keeps hp2 F.keep) ?_
  refine C (dp + 1) (un + 3) _ gd base _ _ _ (X.keeps F.keep) (T.keeps F.keep) (hpre _ _ F.keep hp1) ?_ ?_ (fun b o q => F.keep b o (B b o q)) ?_ fun e s' x => ?_
  · omega
  · omega
  · exact (frames_in B FF F rfl (fun q => nomatch (show ScopeKind.function = ScopeKind.module from q))).2
  refine dz_handler (outer := outer) rfl X₀ T₀ F x (by rfl) (by rfl) (by rfl) (by rfl) fun t h' tk' st up => ?_
  exact hq _ _ _ st up ⟨t, rfl⟩
end
end
section
set_option maxHeartbeats 2000000
/-- the frames' addresses -/
noncomputable abbrev frm (l : List Env) : List Addr := l.filterMap (·.frame)
/-- what a call within frames l may change: the frames' marks, the table of lambdas -/
structure Moved (tab : Addr) (l : List Env) (h h' : Heap) : Prop where
  keep : ∀ b o, b ≠ tab → b ∉ frm l → h.get? b = some o → h'.get? b = some o
  up : h.UpToSlots h'
theorem Moved.trans {tab : Addr} {l : List Env} {h₁ h₂ h₃ : Heap} (x : Moved tab l h₁ h₂) (y : Moved tab l h₂ h₃) : Moved tab l h₁ h₃ :=
  ⟨fun b o n1 n2 e => y.keep b o n1 n2 (x.keep b o n1 n2 e), x.up.trans y.up⟩
/-- the table of a def's lambdas -/
noncomputable def TabI (tab : Addr) (q : Str) (h : Heap) : Prop := ∃ ps, h.get? tab = some (tabObj ps) ∧ TriplesOk ps.toList ∧ ∀ pos cv, codeAmong pos ps.toList = some cv → ∃ c, cv = .ref c ∧ c ≠ tab ∧ h.CodeRec (.ref c) q
theorem codeRec_at {h h' : Heap} {c : Addr} {q : Str} (x : h.CodeRec (.ref c) q) (k : ∀ o vs, h.get? c = some o → o.data = .fields vs → h'.get? c = some o) : h'.CodeRec (.ref c) q := by
  obtain ⟨c', o, vs, t, e, g, d, v⟩ := x
  cases e
  exact ⟨c, o, vs, t, rfl, k o vs g d, d, v⟩
theorem TabI.keeps {tab : Addr} {q : Str} {h h' : Heap} (x : TabI tab q h) (k : ∀ b o vs, h.get? b = some o → o.data = .fields vs → h'.get? b = some o) : TabI tab q h' := by
  obtain ⟨ps, g, t, f⟩ := x
  refine ⟨ps, k _ _ _ g rfl, t, fun pos cv e => ?_⟩
  obtain ⟨c, a, b, d⟩ := f pos cv e
  exact ⟨c, a, b, codeRec_at d fun o vs e1 e2 => k _ _ _ e1 e2⟩
theorem codeAmong_more {pos : Pos} {a b : Int} {c cv : Value} (l : List Value) (h : TriplesOk l) (e : codeAmong pos (l ++ [rawInt a, rawInt b, c]) = some cv) : codeAmong pos l = some cv ∨ cv = c := by
  fun_induction TriplesOk l with
  | case1 =>
    simp only [List.nil_append, codeAmong, rawInt] at e
    split at e
    · cases e; exact .inr rfl
    · cases e
  | case2 a' t b' u x rest ih =>
    simp only [List.cons_append, codeAmong] at e ⊢
    split at e
    · rename_i hh; rw [if_pos hh]; exact .inl e
    · rename_i hh; rw [if_neg hh]; exact ih h e
  | case3 l h1 h2 => exact h.elim
theorem not_frame {h base : Heap} {l : List Env} {a : Addr} {o : Obj} {vs : Array Value} (f : h.FunFrames base l) (e : h.get? a = some o) (d : o.data = .fields vs) : a ∉ frm l := fun hm => by
  obtain ⟨_, o', ho, nf⟩ := f.mem hm
  rw [e] at ho; cases ho; exact nf vs d
section
variable {w : World} {mean : ExcName → Option Value} {mg mb : Str → Option Value}
/-- a wide call within frames l -/
theorem ConF.use {f : Addr} {vs : List Value} {d u : Nat} {pre : Heap → Prop} {Out : Heap → Heap → Value → Prop} (C : ConF w mean mg mb f vs d u pre Out) {l : List Env} {base : Heap} {s : Shared} {Q E : Value → Shared → Prop} {dp un : Nat} {gd : Option (List Code)}
    (X : (K w.params).In base) (T : TopM mean mg mb base) (B : base.StaysIn s.heap) (FF : s.heap.FunFrames base l) (hp : pre s.heap) (hd : dp + d < recursionLimit) (hu : un + u < cLine)
    (hq : ∀ r h' tk', (∀ b o, b ∉ frm l → s.heap.get? b = some o → h'.get? b = some o) → s.heap.UpToSlots h' → Out s.heap h' r → Q r { s with heap := h', toks := tk' }) :
    wpAny (model Pg w) (AA dp un (some l) gd) (call (.ref f) vs) Q E s := by
  have st : base.StaysIn (hideAll s.heap (frm l)) := fun b o e => hideAll_get _ (B b o e) fun hm => by rw [(FF.mem hm).1] at e; cases e
  refine C dp un l gd (hideAll s.heap (frm l)) s Q E (X.keeps st) (T.keeps st) hp hd hu (fun b o e => of_hideAll _ e) (funFrames_hide FF fun env he a ha => List.mem_filterMap.mpr ⟨env, he, ha⟩) fun r h' tk' b1 u1 o1 => ?_
  exact hq r h' tk' (fun b o n e => b1 b o (hideAll_get _ e n)) u1 o1
theorem head_at {h : Heap} (X : (K w.params).In h) : CodeHd h 301 299 := ⟨_, _, _, _, _, _, _, _, _, X 301 _ (by rfl), rfl, rfl, rfl, rfl, rfl, rfl, rfl, rfl, by decide⟩
theorem head_law {h : Heap} (X : (K w.params).In h) : CodeHd h 311 309 := ⟨_, _, _, _, _, _, _, _, _, X 311 _ (by rfl), rfl, rfl, rfl, rfl, rfl, rfl, rfl, rfl, by decide⟩
/-- a lambda made -/
theorem lam_make {M : Model} {A : Around} {E : Value → Shared → Prop} {s : Shared} {tab cd : Addr} {base : Heap} {cenv : Env} {lbody : Expr} {lscope : Scope} {clos : List (Str × Addr)} {lpos : Pos} {Q : Value → Shared → Prop}
    (X : (K w.params).In base) (T : TopM mean mg mb base) (B : base.StaysIn s.heap) (ht : base.get? tab = none) (C : CodeHd s.heap cd tab) (TI : TabI tab (cenv.qual ++ "<lambda>") s.heap)
    (e1 : cenv.globals = mainGlobals) (e2 : cenv.code = .ref cd) (e5 : closureFor lscope cenv = pure clos)
    (hq : ∀ f h' tk', (∀ b o, b ≠ tab → s.heap.get? b = some o → h'.get? b = some o) → s.heap.get? f = none → TabI tab (cenv.qual ++ "<lambda>") h' → LamAt h' f (cenv.qual ++ "<lambda>") lbody lscope clos → Q (.ref f) { s with heap := h', toks := tk' }) :
    wpAny M A (eval (.Lambda noPar lbody lscope lpos) cenv) Q E s := by
  obtain ⟨ps, g, t, fc⟩ := TI
  have gs := T.g.keeps B
  obtain ⟨bm, ob, b1, b2, b3, b4, b5, b6⟩ := T.bmain
  have hgP : mainGlobals ≠ tab := fun q => by
    obtain ⟨o, es, ep, e, hd, _⟩ := gs
    rw [q, g] at e; cases e; cases hd
  have hbP : bm ≠ tab := fun q => by rw [q, ht] at b3; cases b3
  have hbG : bm ≠ mainGlobals := fun q => by
    obtain ⟨o, es, ep, e, hd, _⟩ := T.g
    rw [q, e] at b3; cases b3; rw [hd] at b6; cases b6
  have BA : s.heap.BuiltinsAt mg tab := ⟨bm, ob, b1, b2, hbG, hbP, B _ _ b3, b4, b5, b6⟩
  refine kla_eval rfl ?_
  cases hc : codeAmong lpos ps.toList with
  | none =>
    refine kla_makeFunction e5 e1 gs e2 C g t hc hgP BA fun c' ctv h' tk hx hge hlt hrec htb => ?_
    have k : ∀ b o, b ≠ tab → s.heap.get? b = some o → (h'.push (kla_obj "<lambda>" (cenv.qual ++ "<lambda>") noPar lbody lscope clos ((mg "__name__").getD .none) c' ctv)).get? b = some o := fun b o n e => Heap.get?_push_of_some _ (hx b o n e)
    have ct : c' ≠ tab := fun q => absurd (Heap.lt_size g) (Nat.not_lt.mpr (q ▸ hge))
    have rec' : Heap.CodeRec (h'.push (kla_obj "<lambda>" (cenv.qual ++ "<lambda>") noPar lbody lscope clos ((mg "__name__").getD .none) c' ctv)) (.ref c') (cenv.qual ++ "<lambda>") := hrec.keeps fun b o e => Heap.get?_push_of_some _ e
    refine hq _ _ _ k (Heap.get?_none_of_le (Nat.le_of_lt (Nat.lt_of_le_of_lt hge hlt))) ⟨_, Heap.get?_push_of_some _ htb, ?_, fun pos cv e => ?_⟩ ⟨_, c', ctv, Heap.get?_push_at rfl rfl, rec'⟩
    · rw [Array.toList_append]; exact TriplesOk_snoc _ _ _ _ t
    · rw [Array.toList_append] at e
      rcases codeAmong_more _ t e with e | rfl
      · obtain ⟨c, a, b, d⟩ := fc pos cv e
        exact ⟨c, a, b, codeRec_at d fun o vs e1 _ => k _ _ b e1⟩
      · exact ⟨c', rfl, ct, rec'⟩
  | some cv =>
    obtain ⟨c', rfl, ct, hrec⟩ := fc _ _ hc
    refine kla_makeFunctionHit e5 e1 gs e2 C g t hc BA fun ctv h' tk hk hge => ?_
    have k : ∀ b o, s.heap.get? b = some o → (h'.push (kla_obj "<lambda>" (cenv.qual ++ "<lambda>") noPar lbody lscope clos ((mg "__name__").getD .none) c' ctv)).get? b = some o := fun b o e => Heap.get?_push_of_some _ (hk b o e)
    exact hq _ _ _ (fun b o _ e => k b o e) (Heap.get?_none_of_le hge) (TabI.keeps ⟨ps, g, t, fc⟩ fun b o vs e _ => k b o e) ⟨_, c', ctv, Heap.get?_push_at rfl rfl, hrec.keeps k⟩
theorem elem_worth {s : Shared} {tab cd : Addr} {cenv : Env} {l : List Env} {base : Heap} {dp un : Nat} {gd : Option (List Code)} {Dw Uw : Nat} {Out : Heap → Heap → Value → Prop} {pre : Heap → Prop} {lbody : Expr} {lscope : Scope} {clos : List (Str × Addr)} {p0 p1 lpos : Pos} {Q E : Value → Shared → Prop}
    (X : (K w.params).In base) (T : TopM mean mg mb base) (B : base.StaysIn s.heap) (FF : s.heap.FunFrames base l) (ht : base.get? tab = none) (C : CodeHd s.heap cd tab) (TI : TabI tab (cenv.qual ++ "<lambda>") s.heap)
    (e1 : cenv.globals = mainGlobals) (e2 : cenv.code = .ref cd) (e3 : cenv.scope.kind = .function) (e4 : cenv.kindOf "_law_worth" = some .globalImplicit) (e5 : closureFor lscope cenv = pure clos)
    (W : ∀ f, ConF w mean mg mb 276 [.ref f] Dw Uw (fun h => (LamAt h f (cenv.qual ++ "<lambda>") lbody lscope clos ∧ pre h) ∧ FnAt f h) Out)
    (hpre : ∀ h', (∀ b o, b ≠ tab → s.heap.get? b = some o → h'.get? b = some o) → pre h') (hd : dp + Dw < recursionLimit) (hu : un + Uw < cLine)
    (hq : ∀ v h₁ h' tk', (∀ b, s.heap.get? b ≠ none → h₁.get? b ≠ none) → Moved tab l s.heap h' → TabI tab (cenv.qual ++ "<lambda>") h' → Out h₁ h' v → Q v { s with heap := h', toks := tk' }) :
    wpAny (model Pg w) (AA dp un (some l) gd) (eval (.Call (.Name "_law_worth" p0) [.Lambda noPar lbody lscope lpos] [] p1) cenv) Q E s := by
  have gs := T.g.keeps B
  have fn : FnAt 276 s.heap := ⟨_, _, _, _, B _ _ (X 276 _ (by rfl))⟩
  refine wpAny_Call_ofName ?_
  refine wpAny_Name (ks_loadName_global e3 e4 (Calls.loadGlobal_global (env := cenv) (v := .ref 276) (by rw [e1]; exact gs) (mg_of X T.g (by kernel_rfl)) ?_)) (by decide)
  refine callWith_F fn (spliced_more ?_)
  refine lam_make X T B ht C TI e1 e2 e5 fun f h₁ tk₁ k₁ nf TI₁ hl => ?_
  have B₁ : base.StaysIn h₁ := fun b o e => k₁ b o (fun q => by rw [q, ht] at e; cases e) (B b o e)
  obtain ⟨ps, g, _⟩ := TI
  have tne : ∀ b o, s.heap.get? b = some o → (∀ vs, o.data ≠ .fields vs) → b ≠ tab := fun b o e n q => by rw [q, g] at e; cases e; exact n _ rfl
  have FF₁ : h₁.FunFrames base l := FF.of_keeps fun b o e n => ⟨o, k₁ b o (tne b o e n) e, rfl⟩
  refine spliced_none ⟨⟨_, _, _, _, B₁ _ _ (X 276 _ (by rfl))⟩, ?_⟩
  refine ConF.use (W f) (s := { s with heap := h₁, toks := tk₁ }) X T B₁ FF₁ ⟨⟨hl, hpre _ k₁⟩, hl.fn⟩ hd hu fun r h₂ tk₂ k₂ u₂ o₂ => ?_
  have le₁ : ∀ b, s.heap.get? b ≠ none → h₁.get? b ≠ none := fun b n => by
    by_cases q : b = tab
    · obtain ⟨ps', g', _⟩ := TI₁
      rw [q, g']; exact fun z => nomatch z
    · cases e : s.heap.get? b with
      | none => exact absurd e n
      | some o => rw [k₁ b o q e]; exact fun z => nomatch z
  refine hq r h₁ h₂ tk₂ le₁ ⟨fun b o n1 n2 e => k₂ b o n2 (k₁ b o n1 e), Heap.UpToSlots.trans (fun b o e n => ⟨o.slots, k₁ b o (tne b o e n) e⟩) u₂⟩ (TI₁.keeps fun b o vs e d => k₂ b o (not_frame FF₁ e d) e) o₂
end
end
section
set_option maxHeartbeats 2000000
/-- tuples stay -/
noncomputable def Tups (h h' : Heap) : Prop := ∀ b o its k, h.get? b = some o → o.cls = .type "tuple" → o.data = .seq its k → ∃ sl, h'.get? b = some { o with slots := sl }
theorem Tups.of_up {h h' : Heap} (u : h.UpToSlots h') : Tups h h' := fun b o its k e _ d => u b o e fun vs q => by rw [d] at q; cases q
theorem Tups.of_but {h h' : Heap} {a : Addr} (s : Heap.ExtBut a h h') (n : ∀ o its k, h.get? a = some o → o.cls = .type "tuple" → o.data = .seq its k → False) : Tups h h' := fun b o its k e c d => ⟨o.slots, s b o (fun q => n o its k (q ▸ e) c d) e⟩
/-- a comprehension's frame with its cells -/
noncomputable def compEnvX (cscope : Scope) (cl : List (Str × Addr)) (C : Addr) (env : Env) : Env :=
  { scope := relabel cscope env, locals := C, globals := env.globals, cells := ("other", C + 2) :: ("one", C + 1) :: cl, qual := env.qual, func := none, code := env.code, frame := env.frame, builtins := env.builtins }
theorem compEnv_new {M : Model} {A : Around} {E : Value → Shared → Prop} {s : Shared} {cscope : Scope} {cl : List (Str × Addr)} {env : Env} {Q : Env → Shared → Prop}
    (hcs : cellsFrom (s.heap.objs.size + 1) cscope.names cl = (("other" : Str), s.heap.objs.size + 2) :: (("one" : Str), s.heap.objs.size + 1) :: cl)
    (hpc : ∀ h, pushCells h cscope.names = (h.push { cls := .type "cell", data := .cell none }).push { cls := .type "cell", data := .cell none })
    (hq : Q { scope := cscope, locals := s.heap.objs.size, globals := env.globals, cells := ("other", s.heap.objs.size + 2) :: ("one", s.heap.objs.size + 1) :: cl, qual := env.qual, func := none, code := env.code, frame := env.frame, builtins := env.builtins }
      { s with heap := ((s.heap.push { cls := .type "dict", data := .dict #[] }).push { cls := .type "cell", data := .cell none }).push { cls := .type "cell", data := .cell none } }) :
    wpAny M A (newFunctionEnv cscope env.globals cl [] env.qual none .none (some env)) Q E s := by
  simp only [newFunctionEnv, Option.isSome_some, if_true]
  refine wpAny_bind (wpAny_alloc ?_)
  refine wpAny_bind (wpAny_layCells _ (fun name kind cells => by cases hkc : kind == NameKind.cell <;> simp) _ _ _ _ ?_)
  rw [hpc, show ({ s with heap := s.heap.push { cls := .type "dict", data := .dict #[] } } : Shared).heap.objs.size = s.heap.objs.size + 1 from Heap.size_push .., hcs]
  exact wpAny_bind (wpAny_pure (wpAny_pure hq))
section
variable {w : World} {mean : ExcName → Option Value} {mg mb : Str → Option Value}
/-- between two turns -/
structure CInv (tab I lst D C : Addr) (l : List Env) (q : Str) (P : Heap → Value → Prop) (h₀ : Heap) (vs : List Value) (h : Heap) : Prop where
  it : h.IsListIter I lst vs.length
  acc : h.PlainList D vs.toArray
  ns : ∃ m', h.Ns C m'
  c1 : ∃ v, h.IsCell (C + 1) v
  c2 : ∃ v, h.IsCell (C + 2) v
  mv : Moved tab l h₀ h
  tb : TabI tab q h
  ps : ∀ v ∈ vs, P h v
theorem TabI.keeps2 {tab : Addr} {q : Str} {h h' : Heap} (x : TabI tab q h) (k : ∀ b o vs, h.get? b = some o → o.data = .fields vs → (∀ y i t, vs ≠ #[y, .int i t]) → h'.get? b = some o) : TabI tab q h' := by
  obtain ⟨ps, g, t, f⟩ := x
  refine ⟨ps, k _ _ _ g rfl (fun y i u e => by rw [e] at t; cases y <;> exact t.elim), t, fun pos cv e => ?_⟩
  obtain ⟨c, a, b, d⟩ := f pos cv e
  refine ⟨c, a, b, ?_⟩
  obtain ⟨c', o, vs, u, e0, g0, d0, v0⟩ := d
  cases e0
  exact ⟨c, o, vs, u, rfl, k _ _ _ g0 d0 (fun y i z e => by rw [e] at v0; cases v0), d0, v0⟩
theorem Moved.fresh {tab a : Addr} {l : List Env} {h₀ h h' : Heap} (x : Moved tab l h₀ h) (hs : Heap.ExtBut a h h') (ha : h₀.objs.size ≤ a) : Moved tab l h₀ h' :=
  ⟨fun b o n1 n2 e => hs b o (Nat.ne_of_lt (Nat.lt_of_lt_of_le (Heap.lt_size e) ha)) (x.keep b o n1 n2 e), fun b o e n => let ⟨sl, q⟩ := x.up b o e n; ⟨sl, hs b _ (Nat.ne_of_lt (Nat.lt_of_lt_of_le (Heap.lt_size e) ha)) q⟩⟩
theorem comp_loop {s : Shared} {tab cd lst I : Addr} {env : Env} {l : List Env} {base hS : Heap} {dp un : Nat} {gd : Option (List Code)} {Dw Uw : Nat} {P : Heap → Value → Prop} {Out : Heap → Heap → Value → Prop} {It : Value → Value → Prop} {lbody : Expr} {lscope cscope : Scope} {cl : List (Str × Addr)} {clos : Addr → List (Str × Addr)}
    {items : Array Value} {iter : Expr} {p0 p1 lpos q1 q2 q3 pos : Pos} {k : Nat} {R : Result → Shared → Prop} {h4 : Heap} {tk4 : Nat}
    (X : (K w.params).In base) (T : TopM mean mg mb base) (B : base.StaysIn hS) (FF : hS.FunFrames base l) (ht : base.get? tab = none) (hCd : CodeHd base cd tab)
    (e1 : env.globals = mainGlobals) (e2 : env.code = .ref cd) (ck : cscope.kind = .function)
    (e4 : (compEnvX cscope cl (I + 2) env).kindOf "_law_worth" = some .globalImplicit) (e6 : (compEnvX cscope cl (I + 2) env).kindOf "one" = some .cell) (e7 : (compEnvX cscope cl (I + 2) env).kindOf "other" = some .cell)
    (e5 : closureFor lscope (compEnvX cscope cl (I + 2) env) = pure (clos (I + 2)))
    (hl : base.IsList lst items) (hit : ∀ (i : Nat) (v : Value), items[i]? = some v → ∃ a x y, v = .ref a ∧ IsTup base a #[x, y] ∧ It x y)
    (W : ∀ (x y : Value) (C f : Addr), It x y → ConF w mean mg mb 276 [.ref f] Dw Uw (fun h => (LamAt h f (env.qual ++ "<lambda>") lbody lscope (clos C) ∧ h.IsCell (C + 1) (some x) ∧ h.IsCell (C + 2) (some y) ∧ base.StaysIn h) ∧ FnAt f h) Out)
    (hO : ∀ h h' v, (∀ b, hS.get? b ≠ none → h.get? b ≠ none) → Out h h' v → P h' v) (hP : ∀ h h' v, Tups h h' → P h v → P h' v) (hd : dp + Dw < recursionLimit) (hu : un + Uw < cLine) (hz : items.size ≤ 100) (hI : hS.objs.size = I) (ltab : tab < I)
    (x0 : CInv tab I lst (I + 1) (I + 2) l (env.qual ++ "<lambda>") P hS [] h4)
    (hR : ∀ h' tk' m' (vs : List Value), h'.Ns (I + 2) m' → h'.PlainList (I + 1) vs.toArray → vs.length = items.size → Moved tab l hS h' → TabI tab (env.qual ++ "<lambda>") h' → (∀ v ∈ vs, P h' v) → R (.ok .next) { s with heap := h', toks := tk' }) :
    codeAny (model Pg w) (AA dp un (some l) gd) (.compLoop (.ListComp (.Call (.Name "_law_worth" p0) [.Lambda noPar lbody lscope lpos] [] p1) [⟨.Tuple [.Name "one" q1, .Name "other" q2] k q3, iter, [], 0⟩] cscope pos) 0 (.ref I) (.ref (I + 1)) (compEnvX cscope cl (I + 2) env)) R { s with heap := h4, toks := tk4 } := by
  have lfr : ∀ b ∈ frm l, b < I := fun b hb => let ⟨_, o, ho, _⟩ := FF.mem hb; hI ▸ Heap.lt_size ho
  have sz : hS.objs.size ≤ I := Nat.le_of_eq hI
  have ltab' := ltN ltab
  refine LCp.codeAny_compLoop_pair (fun n s' => ∃ vs h tk, s' = { s with heap := h, toks := tk } ∧ CInv tab I lst (I + 1) (I + 2) l (env.qual ++ "<lambda>") P hS vs h ∧ vs.length ≤ items.size ∧ n = items.size + 1 - vs.length) ?_ (items.size + 1) ⟨[], h4, tk4, rfl, x0, Nat.zero_le _, rfl⟩
  rintro n s' ⟨vs, h, tk, rfl, x, hle, rfl⟩
  have B0 : base.StaysIn h := fun b o e => x.mv.keep b o (fun q => by rw [q, ht] at e; cases e) (fun hm => by rw [(FF.mem hm).1] at e; cases e) (B b o e)
  have lst0 : h.IsList lst items := hl.at fun o q => B0 _ _ q
  by_cases hlt : vs.length < items.size
  · obtain ⟨a, xv, yv, ha, hta, hIt⟩ := hit vs.length items[vs.length] (by simp [hlt])
    refine wpAny_pyNext_list_item x.it lst0 (x := .ref a) (by rw [← ha]; simp [hlt]) fun h1 it1 s1 => ?_
    have ne1 : ∀ b, b ≠ I → ∀ o, h.get? b = some o → h1.get? b = some o := fun b n o e => (s1.2 b n).trans e
    refine wpAny_letOwnedTupleGo_listiter it1 ?_
    have ta1 : IsTup h1 a #[xv, yv] := by
      obtain ⟨o, g, c, r⟩ := hta
      exact ⟨o, ne1 a (fun q => absurd (Heap.lt_size (B _ _ g)) (by rw [q, hI]; exact Nat.lt_irrefl _)) o (B0 _ _ g), c, r⟩
    refine assign_Tuple_tuple rfl ta1 (by rfl) (by rfl) fun h2 s2 => ?_
    have ne2 : ∀ b o, h1.get? b = some o → h2.get? b = some o := fun b o e => s2 b o (Nat.ne_of_lt (Heap.lt_size e)) e
    obtain ⟨v1, k1⟩ := x.c1
    obtain ⟨v2, k2⟩ := x.c2
    have c1 : h2.IsCell (I + 2 + 1) v1 := let ⟨o, g, d⟩ := k1; ⟨o, ne2 _ _ (ne1 _ (by first | omega | exact neN (by omega)) _ g), d⟩
    refine assignInOrder_cons (wpAny_assign_Name (wpAny_storeName_cell ck e6 (by rfl) c1 fun h3 c1' s3 => ?_))
    have c2 : h3.IsCell (I + 2 + 2) v2 := let ⟨o, g, d⟩ := k2; ⟨o, (s3.2 _ (by first | omega | exact neN (by omega))).trans (ne2 _ _ (ne1 _ (by first | omega | exact neN (by omega)) _ g)), d⟩
    refine assignInOrder_cons (wpAny_assign_Name (wpAny_storeName_cell ck e7 (by rfl) c2 fun h5 c2' s5 => assignInOrder_nil ?_))
    have c1'' : h5.IsCell (I + 2 + 1) (some xv) := let ⟨o, g, d⟩ := c1'; ⟨o, (s5.2 _ (by first | omega | exact neN (by omega))).trans g, d⟩
    -- what stays up to here
    have stay : ∀ b o, b ≠ I → b ≠ I + 2 + 1 → b ≠ I + 2 + 2 → h.get? b = some o → h5.get? b = some o := fun b o n1 n2 n3 e => (s5.2 b n3).trans ((s3.2 b n2).trans (ne2 _ _ (ne1 b n1 o e)))
    have mv5 : Moved tab l hS h5 := by
      have m1 := x.mv.fresh (h' := h1) (fun b o n e => ne1 b n o e) sz
      have m2 : Moved tab l hS h2 := m1.trans ⟨fun b o _ _ e => ne2 b o e, Heap.UpToSlots.of_keeps ne2⟩
      exact (m2.fresh (a := I + 2 + 1) (fun b o n e => (s3.2 b n).trans e) (by first | omega | exact neN (by omega))).fresh (a := I + 2 + 2) (fun b o n e => (s5.2 b n).trans e) (by first | omega | exact neN (by omega))
    have B5 : base.StaysIn h5 := fun b o e => mv5.keep b o (fun q => by rw [q, ht] at e; cases e) (fun hm => by rw [(FF.mem hm).1] at e; cases e) (B b o e)
    have FF5 : h5.FunFrames base l := upTo_frames mv5.up FF
    obtain ⟨oi, gi, _, di⟩ := x.it
    have tb5 : TabI tab (env.qual ++ "<lambda>") h5 := x.tb.keeps2 fun b o vs' e d n => by
      refine stay b o (fun q => ?_) (fun q => ?_) (fun q => ?_) e
      · rw [q, gi] at e; cases e; rw [di] at d; cases d; exact n _ _ _ rfl
      · obtain ⟨o', g', d'⟩ := k1; rw [q, show I + 2 + 1 = I + 2 + 1 from rfl, g'] at e; cases e; rw [d'] at d; cases d
      · obtain ⟨o', g', d'⟩ := k2; rw [q, g'] at e; cases e; rw [d'] at d; cases d
    refine elem_worth (Out := Out) (pre := fun h => h.IsCell (I + 2 + 1) (some xv) ∧ h.IsCell (I + 2 + 2) (some yv) ∧ base.StaysIn h) X T B5 FF5 ht (hCd.keeps B5) tb5 e1 e2 ck e4 e5 (fun f => W xv yv (I + 2) f hIt) (fun h' k' => ?_) hd hu fun v h5' h6 tk6 le6 mv6 tb6 o6 => ?_
    · refine ⟨?_, ?_, fun b o e => k' b o (fun q => by rw [q, ht] at e; cases e) (B5 b o e)⟩
      · obtain ⟨o, g, d⟩ := c1''; exact ⟨o, k' (I + 2 + 1) o (by first | omega | exact neN (by omega)) g, d⟩
      · obtain ⟨o, g, d⟩ := c2'; exact ⟨o, k' (I + 2 + 2) o (by first | omega | exact neN (by omega)) g, d⟩
    have le5 : ∀ b, hS.get? b ≠ none → h5.get? b ≠ none := fun b n => by
      by_cases q : b = tab
      · obtain ⟨ps', g', _⟩ := tb5
        rw [q, g']; exact fun z => nomatch z
      · by_cases q2 : b ∈ frm l
        · obtain ⟨_, o', g', _⟩ := FF5.mem q2
          rw [g']; exact fun z => nomatch z
        · cases e : hS.get? b with
          | none => exact absurd e n
          | some o => rw [mv5.keep b o q q2 e]; exact fun z => nomatch z
    have p6 : P h6 v := hO _ _ _ (fun b n => le6 b (le5 b n)) o6
    have up6 : ∀ (b : Nat) o, Nat.le I b → h5.get? b = some o → h6.get? b = some o := fun b o hb e => mv6.keep b o (fun q => Nat.lt_irrefl _ (Nat.lt_of_lt_of_le (q ▸ ltab) hb)) (fun hm => Nat.lt_irrefl _ (Nat.lt_of_lt_of_le (lfr b hm) hb)) e
    obtain ⟨nD, gD⟩ := x.acc
    have acc6 : h6.PlainList (I + 1) vs.toArray := ⟨nD, up6 (I + 1) _ (Nat.le_add_right _ _) (stay (I + 1) _ (by first | omega | exact neN (by omega)) (by first | omega | exact neN (by omega)) (by first | omega | exact neN (by omega)) gD)⟩
    refine wpAny_list_append_plain acc6 (fun h7 acc7 s7 => ?_) (by rw [List.size_toArray, sizeLine_eq]; omega)
    refine ⟨items.size + 1 - (vs.length + 1), by omega, vs ++ [v], h7, _, rfl, ⟨?_, ?_, ?_, ?_, ?_, ?_, ?_, ?_⟩, by simp; omega, by simp⟩
    · obtain ⟨o, g, c, d⟩ := it1
      refine ⟨o, ?_, c, by simpa using d⟩
      exact (s7.2 I (by first | omega | exact neN (by omega))).trans (up6 I _ (Nat.le_refl _) ((s5.2 I (by first | omega | exact neN (by omega))).trans ((s3.2 I (by first | omega | exact neN (by omega))).trans (ne2 I _ g))))
    · simpa using acc7
    · obtain ⟨m', o, es, ep, g, r⟩ := x.ns
      exact ⟨m', o, es, ep, (s7.2 (I + 2) (by first | omega | exact neN (by omega))).trans (up6 (I + 2) _ (Nat.le_add_right _ _) (stay (I + 2) _ (by first | omega | exact neN (by omega)) (by first | omega | exact neN (by omega)) (by first | omega | exact neN (by omega)) g)), r⟩
    · obtain ⟨o, g, d⟩ := c1''; exact ⟨_, o, (s7.2 (I + 2 + 1) (by first | omega | exact neN (by omega))).trans (up6 (I + 2 + 1) _ (Nat.le_add_right I (2 + 1)) g), d⟩
    · obtain ⟨o, g, d⟩ := c2'; exact ⟨_, o, (s7.2 (I + 2 + 2) (by first | omega | exact neN (by omega))).trans (up6 (I + 2 + 2) _ (Nat.le_add_right I (2 + 2)) g), d⟩
    · exact (mv5.trans mv6).fresh (a := I + 1) (fun b o n e => (s7.2 b n).trans e) (by first | omega | exact neN (by omega))
    · refine tb6.keeps2 fun b o vs' e d _ => (s7.2 b fun q => ?_).trans e
      obtain ⟨n6, g6⟩ := acc6
      rw [q, g6] at e; cases e; cases d
    · have t7 : Tups h6 h7 := Tups.of_but (a := I + 1) (fun b o n e => (s7.2 b n).trans e) fun o its k' e c _ => by
        obtain ⟨n6, g6⟩ := acc6
        rw [g6] at e; cases e; injection c with c; exact absurd c (by decide)
      intro u hu'
      rcases List.mem_append.mp hu' with hu' | hu'
      · refine hP h6 h7 u t7 (hP h5 h6 u (Tups.of_up mv6.up) (hP h h5 u (fun b o its k' e c d => ⟨o.slots, stay b o (fun q => ?_) (fun q => ?_) (fun q => ?_) e⟩) (x.ps u hu')))
        · rw [q, gi] at e; cases e; rw [di] at d; cases d
        · obtain ⟨o', g', d'⟩ := k1; rw [q, g'] at e; cases e; rw [d'] at d; cases d
        · obtain ⟨o', g', d'⟩ := k2; rw [q, g'] at e; cases e; rw [d'] at d; cases d
      · rw [List.mem_singleton.mp hu']; exact hP h6 h7 v t7 p6
  · have hn : vs.length = items.size := by omega
    refine wpAny_pyNext_list_end rfl x.it lst0 (by simp [hn]) fun h1 s1 => ?_
    obtain ⟨m', o, es, ep, g, r⟩ := x.ns
    obtain ⟨nD, gD⟩ := x.acc
    obtain ⟨oi, gi, _, di⟩ := x.it
    refine hR h1 _ m' vs ⟨o, es, ep, s1 _ _ (by first | omega | exact neN (by omega)) g, r⟩ ⟨nD, s1 _ _ (by first | omega | exact neN (by omega)) gD⟩ hn (x.mv.fresh s1 sz) (x.tb.keeps2 fun b o vs' e d n => s1 b o (fun q => ?_) e) fun v hv => hP h h1 v (Tups.of_but s1 fun o its k' e c d => ?_) (x.ps v hv)
    · rw [q, gi] at e; cases e; rw [di] at d; cases d; exact n _ _ _ rfl
    · rw [gi] at e; cases e; rw [di] at d; cases d
theorem comp_core {s : Shared} {tab cd lst : Addr} {env : Env} {l : List Env} {base : Heap} {dp un : Nat} {gd : Option (List Code)} {Dw Uw : Nat} {P : Heap → Value → Prop} {Out : Heap → Heap → Value → Prop} {It : Value → Value → Prop} {lbody : Expr} {lscope cscope : Scope} {cl : List (Str × Addr)} {clos : Addr → List (Str × Addr)}
    {items : Array Value} {iter : Expr} {p0 p1 lpos q1 q2 q3 pos : Pos} {k : Nat} {RR : Value → Addr → Result → Shared → Prop} {E : Value → Shared → Prop}
    (X : (K w.params).In base) (T : TopM mean mg mb base) (B : base.StaysIn s.heap) (FF : s.heap.FunFrames base l) (ht : base.get? tab = none) (hCd : CodeHd base cd tab) (TI : TabI tab (env.qual ++ "<lambda>") s.heap)
    (e1 : env.globals = mainGlobals) (e2 : env.code = .ref cd) (ck : cscope.kind = .function)
    (e4 : ∀ C, (compEnvX cscope cl C env).kindOf "_law_worth" = some .globalImplicit) (e6 : ∀ C, (compEnvX cscope cl C env).kindOf "one" = some .cell) (e7 : ∀ C, (compEnvX cscope cl C env).kindOf "other" = some .cell)
    (e5 : ∀ C, closureFor lscope (compEnvX cscope cl C env) = pure (clos C))
    (hcs : ∀ n, cellsFrom (n + 1) cscope.names cl = (("other" : Str), n + 2) :: (("one" : Str), n + 1) :: cl)
    (hpc : ∀ h, pushCells h cscope.names = (h.push { cls := .type "cell", data := .cell none }).push { cls := .type "cell", data := .cell none })
    (hl : base.IsList lst items) (hit : ∀ (i : Nat) (v : Value), items[i]? = some v → ∃ a x y, v = .ref a ∧ IsTup base a #[x, y] ∧ It x y)
    (W : ∀ (x y : Value) (C f : Addr), It x y → ConF w mean mg mb 276 [.ref f] Dw Uw (fun h => (LamAt h f (env.qual ++ "<lambda>") lbody lscope (clos C) ∧ h.IsCell (C + 1) (some x) ∧ h.IsCell (C + 2) (some y) ∧ base.StaysIn h) ∧ FnAt f h) Out)
    (hO : ∀ h h' v, (∀ b, s.heap.get? b ≠ none → h.get? b ≠ none) → Out h h' v → P h' v) (hP : ∀ h h' v, Tups h h' → P h v → P h' v) (hd : dp + Dw < recursionLimit) (hu : un + Uw < cLine) (hz : items.size ≤ 100)
    (hRR : ∀ D C h' tk' m' (vs : List Value), s.heap.get? D = none → s.heap.get? C = none → D ≠ C → h'.Ns C m' → h'.PlainList D vs.toArray → vs.length = items.size → Moved tab l s.heap h' → TabI tab (env.qual ++ "<lambda>") h' → (∀ v ∈ vs, P h' v) → RR (.ref D) C (.ok .next) { s with heap := h', toks := tk' }) :
    wpAny (model Pg w) (AA dp un (some l) gd) (pyIter (.ref lst)) (fun it s₂ => wpAny (model Pg w) (AA dp un (some l) gd) (newList []) (fun acc s₃ => wpAny (model Pg w) (AA dp un (some l) gd) (newFunctionEnv cscope env.globals cl [] env.qual none .none (some env)) (fun cenv s₄ =>
      codeAny (model Pg w) (AA dp un (some l) gd) (.compStart (.ListComp (.Call (.Name "_law_worth" p0) [.Lambda noPar lbody lscope lpos] [] p1) [⟨.Tuple [.Name "one" q1, .Name "other" q2] k q3, iter, [], 0⟩] cscope pos) 0 it acc { cenv with scope := relabel cscope env }) (RR acc cenv.locals) s₄) E s₃) E s₂) E s := by
  obtain ⟨hS, g, d, tk, os⟩ := s
  generalize hI : hS.objs.size = I
  have hl0 : hS.IsList lst items := hl.at fun o q => B _ _ q
  refine wpAny_pyIter_list hl0 ?_
  refine wpAny_newObj_type ?_ (by size_fits)
  refine compEnv_new (hcs _) hpc ?_
  dsimp only
  simp only [Heap.size_push, hI]
  have ltI : ∀ b o, hS.get? b = some o → b < I := fun b o q => hI ▸ Heap.lt_size q
  obtain ⟨ps0, tab0, _⟩ := id TI
  have ltab := ltI _ _ tab0
  have lfr : ∀ b ∈ frm l, b < I := fun b hb => let ⟨_, o, ho, _⟩ := FF.mem hb; ltI b o ho
  generalize hH1 : hS.push { cls := .type "list_iterator", data := .fields #[.ref lst, .int 0 0] } = H1
  generalize hH2 : H1.push { cls := .type "list", data := .seq ([] : List Value).toArray } = H2
  generalize hH3 : H2.push { cls := .type "dict", data := .dict #[] } = H3
  generalize hH4 : H3.push { cls := .type "cell", data := .cell none } = H4
  generalize hH5 : H4.push { cls := .type "cell", data := .cell none } = H5
  have z1 : H1.objs.size = I + 1 := by rw [← hH1, Heap.size_push, hI]
  have z2 : H2.objs.size = I + 1 + 1 := by rw [← hH2, Heap.size_push, z1]
  have z3 : H3.objs.size = I + 1 + 1 + 1 := by rw [← hH3, Heap.size_push, z2]
  have z4 : H4.objs.size = I + 1 + 1 + 1 + 1 := by rw [← hH4, Heap.size_push, z3]
  have u1 : ∀ b o, hS.get? b = some o → H1.get? b = some o := fun b o e => hH1 ▸ Heap.get?_push_of_some _ e
  have u2 : ∀ b o, H1.get? b = some o → H2.get? b = some o := fun b o e => hH2 ▸ Heap.get?_push_of_some _ e
  have u3 : ∀ b o, H2.get? b = some o → H3.get? b = some o := fun b o e => hH3 ▸ Heap.get?_push_of_some _ e
  have u4 : ∀ b o, H3.get? b = some o → H4.get? b = some o := fun b o e => hH4 ▸ Heap.get?_push_of_some _ e
  have u5 : ∀ b o, H4.get? b = some o → H5.get? b = some o := fun b o e => hH5 ▸ Heap.get?_push_of_some _ e
  have g1 : H1.get? I = some { cls := .type "list_iterator", data := .fields #[.ref lst, .int 0 0] } := hH1 ▸ Heap.get?_push_at hI.symm rfl
  have g2 : H2.get? (I + 1) = some { cls := .type "list", data := .seq ([] : List Value).toArray } := hH2 ▸ Heap.get?_push_at z1.symm rfl
  have g3 : H3.get? (I + 2) = some { cls := .type "dict", data := .dict #[] } := hH3 ▸ Heap.get?_push_at z2.symm rfl
  have g4 : H4.get? (I + 2 + 1) = some { cls := .type "cell", data := .cell none } := hH4 ▸ Heap.get?_push_at z3.symm rfl
  have g5 : H5.get? (I + 2 + 2) = some { cls := .type "cell", data := .cell none } := hH5 ▸ Heap.get?_push_at z4.symm rfl
  have up : ∀ b o, hS.get? b = some o → H5.get? b = some o := fun b o e => u5 b o (u4 b o (u3 b o (u2 b o (u1 b o e))))
  have it5 : H5.IsListIter I lst 0 := ⟨_, u5 _ _ (u4 _ _ (u3 _ _ (u2 _ _ g1))), rfl, rfl⟩
  have inv : CInv tab I lst (I + 1) (I + 2) l (env.qual ++ "<lambda>") P hS [] H5 :=
    ⟨it5, ⟨_, u5 _ _ (u4 _ _ (u3 _ _ g2))⟩, ⟨fun _ => none, _, _, _, u5 _ _ (u4 _ _ g3), rfl, fun e he => absurd he (by simp), fun _ => rfl⟩, ⟨none, _, u5 _ _ g4, rfl⟩, ⟨none, _, g5, rfl⟩, ⟨fun b o _ _ e => up b o e, Heap.UpToSlots.of_keeps up⟩, TI.keeps fun b o vs e _ => up b o e, fun v hv => nomatch hv⟩
  have main : codeAny (model Pg w) (AA dp un (some l) gd) (.compLoop (.ListComp (.Call (.Name "_law_worth" p0) [.Lambda noPar lbody lscope lpos] [] p1) [⟨.Tuple [.Name "one" q1, .Name "other" q2] k q3, iter, [], 0⟩] cscope pos) 0 (.ref I) (.ref (I + 1)) (compEnvX cscope cl (I + 2) env)) (RR (.ref (I + 1)) (I + 2)) ⟨H5, g, d, tk, os⟩ :=
    comp_loop (s := ⟨H5, g, d, tk, os⟩) (R := RR (.ref (I + 1)) (I + 2)) X T B FF ht hCd e1 e2 ck (e4 _) (e6 _) (e7 _) (e5 _) hl hit W hO hP hd hu hz hI ltab inv fun h' tk' m' vs n' p' len mv tb ps =>
      hRR (I + 1) (I + 2) h' tk' m' vs (Heap.get?_none_of_le (by rw [hI]; exact Nat.le_add_right _ _)) (Heap.get?_none_of_le (by rw [hI]; exact Nat.le_add_right _ _)) (neN (by omega)) n' p' len mv tb ps
  exact codeAny_compStart_list main (wpAny_pyIter_listiter it5 main)
end
end
section
set_option maxHeartbeats 2000000
/-- the table of lambdas, told by the ledger -/
noncomputable def TabL (h₀ : Heap) (tab : Addr) (q : Str) (tl : List (Addr × Obj)) : Prop := ∃ ps, (tab, tabObj ps) ∈ tl ∧ TriplesOk ps.toList ∧
  ∀ pos cv, codeAmong pos ps.toList = some cv → ∃ c, cv = .ref c ∧ c ≠ tab ∧ (h₀.CodeRec (.ref c) q ∨ ∃ oc vs t, (c, oc) ∈ tl ∧ oc.data = .fields vs ∧ vs[1]? = some (.str q t))
noncomputable def Apart (outer : List Env) (tl : List (Addr × Obj)) : Prop := ∀ p ∈ tl, p.1 ∉ frm outer
section
variable {h₀ h h' : Heap} {L tab : Addr} {q : Str} {tl : List (Addr × Obj)} {m : Str → Option Value}
theorem TabL.tabI (x : TabL h₀ tab q tl) (F : Fr h₀ L h m) (N : News h₀ L h tl) : TabI tab q h := by
  obtain ⟨ps, g, t, f⟩ := x
  refine ⟨ps, (N _ g).1, t, fun pos cv e => ?_⟩
  obtain ⟨c, a, b, d⟩ := f pos cv e
  refine ⟨c, a, b, ?_⟩
  rcases d with d | ⟨oc, vs, u, g', d1, d2⟩
  · exact d.keeps F.keep
  · exact ⟨c, oc, vs, u, rfl, (N _ g').1, d1, d2⟩
theorem codeAmong_mem {pos : Pos} {cv : Value} (l : List Value) (h : TriplesOk l) (e : codeAmong pos l = some cv) : cv ∈ l := by
  fun_induction TriplesOk l with
  | case1 => cases e
  | case2 a' t b' u x rest ih =>
    simp only [codeAmong] at e
    split at e
    · cases e; exact .tail _ (.tail _ (.head _))
    · exact .tail _ (.tail _ (.tail _ (ih h e)))
  | case3 l h1 h2 => exact h.elim
theorem tail_of {outer : List Env} {base : Heap} (x : TabI tab q h') (F : Fr h₀ L h' m) (FF : h'.FunFrames base outer) (hk : ∀ p ∈ tl, p.1 ≠ tab → h'.get? p.1 = some p.2 ∧ p.1 ≠ L ∧ h₀.get? p.1 = none) (A : Apart outer tl) (ht : h₀.get? tab = none) :
    ∃ tl', News h₀ L h' tl' ∧ TabL h₀ tab q tl' ∧ Apart outer tl' ∧ (∀ p ∈ tl, p.1 ≠ tab → p ∈ tl') ∧ ∀ p ∈ tl', p ∈ tl ∨ ∃ vs, p.2.data = .fields vs := by
  obtain ⟨ps, g, t, f⟩ := x
  have tL : tab ≠ L := fun z => by
    obtain ⟨o, es, ep, e, d, _⟩ := F.ns
    rw [← z, g] at e; cases e; cases d
  let pick : Value → Option (Addr × Obj) := fun v => match v with
    | .ref c => match h'.get? c with
      | some o => match o.data with
        | .fields _ => if (h₀.get? c).isSome then none else some (c, o)
        | _ => none
      | none => none
    | _ => none
  have pk : ∀ v p, pick v = some p → h'.get? p.1 = some p.2 ∧ (∃ vs, p.2.data = .fields vs) ∧ h₀.get? p.1 = none ∧ v = .ref p.1 := fun v p e => by
    cases v with
    | ref c =>
      dsimp only [pick] at e
      split at e
      · rename_i o ho
        split at e
        · rename_i vs hd
          split at e
          · cases e
          · rename_i hn; cases e; exact ⟨ho, ⟨_, hd⟩, by cases z : h₀.get? c with | none => rfl | some o' => rw [z] at hn; exact absurd rfl hn, rfl⟩
        · cases e
      · cases e
    | _ => cases e
  refine ⟨(tab, tabObj ps) :: (ps.toList.filterMap pick ++ tl.filter fun p => decide (p.1 ≠ tab)), fun p hp => ?_, ⟨ps, .head _, t, fun pos cv e => ?_⟩, fun p hp => ?_, fun p hp n => ?_, fun p hp => ?_⟩
  · rcases List.mem_cons.mp hp with rfl | hp
    · exact ⟨g, tL, ht⟩
    · rcases List.mem_append.mp hp with hp | hp
      · obtain ⟨v, _, e⟩ := List.mem_filterMap.mp hp
        obtain ⟨a, ⟨vs, d⟩, c, _⟩ := pk v p e
        refine ⟨a, fun z => ?_, c⟩
        obtain ⟨o, es, ep, e', d', _⟩ := F.ns
        rw [← z, a] at e'; cases e'; rw [d] at d'; cases d'
      · obtain ⟨hp, hn⟩ := List.mem_filter.mp hp
        exact hk p hp (by simpa using hn)
  · obtain ⟨c, rfl, b, ⟨c', oc, vs, u, e0, g0, d0, v0⟩⟩ := f pos cv e
    cases e0
    refine ⟨c, rfl, b, ?_⟩
    cases z : h₀.get? c with
    | some o =>
      have : o = oc := by have := F.keep c o z; rw [g0] at this; exact (Option.some.inj this).symm
      subst this
      exact .inl ⟨c, o, vs, u, rfl, z, d0, v0⟩
    | none =>
      refine .inr ⟨oc, vs, u, List.mem_cons_of_mem _ (List.mem_append_left _ (List.mem_filterMap.mpr ⟨.ref c, codeAmong_mem _ t e, ?_⟩)), d0, v0⟩
      dsimp only [pick]
      rw [g0]
      dsimp only
      rw [d0, z]
      rfl
  · rcases List.mem_cons.mp hp with rfl | hp
    · exact not_frame FF g rfl
    · rcases List.mem_append.mp hp with hp | hp
      · obtain ⟨v, _, e⟩ := List.mem_filterMap.mp hp
        obtain ⟨a, ⟨vs, d⟩, _⟩ := pk v p e
        exact not_frame FF a d
      · exact A p (List.mem_filter.mp hp).1
  · exact List.mem_cons_of_mem _ (List.mem_append_right _ (List.mem_filter.mpr ⟨hp, by simpa using n⟩))
  · rcases List.mem_cons.mp hp with rfl | hp
    · exact .inr ⟨_, rfl⟩
    · rcases List.mem_append.mp hp with hp | hp
      · obtain ⟨v, _, e⟩ := List.mem_filterMap.mp hp
        obtain ⟨_, d, _⟩ := pk v p e
        exact .inr d
      · exact .inl (List.mem_filter.mp hp).1
end
theorem frames_keep {h h' h'' base : Heap} (k : ∀ b o, h.get? b ≠ none → h'.get? b = some o → (∀ vs, o.data ≠ .fields vs) → ∃ o', h''.get? b = some o' ∧ ∀ vs, o'.data ≠ .fields vs) : ∀ {l : List Env}, h.FunFrames base l → h'.FunFrames base l → h''.FunFrames base l
  | [], _, _ => trivial
  | _ :: _, ⟨_, ⟨L1, o1, hf1, _, ho1, _⟩, hr1⟩, ⟨hk, ⟨L, o, hf, hn, ho, hd⟩, hr⟩ => by
    obtain rfl : L1 = L := Option.some.inj (hf1.symm.trans hf)
    obtain ⟨o', ho', hd'⟩ := k L1 o (by rw [ho1]; exact fun z => nomatch z) ho hd
    exact ⟨hk, ⟨L1, o', hf, hn, ho', hd'⟩, frames_keep k hr1 hr⟩
/-- a pair of values in the ledger -/
noncomputable abbrev tupV (x y : Value) : Obj := { cls := .type "tuple", data := .seq #[x, y] }
theorem Moved.but {tab a : Addr} {l : List Env} {h₀ h h' : Heap} (x : Moved tab l h₀ h) (hs : Heap.ExtBut a h h') (ha : h₀.get? a = none) : Moved tab l h₀ h' :=
  ⟨fun b o n1 n2 e => hs b o (fun q => by rw [q, ha] at e; cases e) (x.keep b o n1 n2 e), fun b o e n => let ⟨sl, q⟩ := x.up b o e n; ⟨sl, hs b _ (fun q => by rw [q, ha] at e; cases e) q⟩⟩
section
variable {w : World} {mean : ExcName → Option Value} {mg mb : Str → Option Value} {h₀ : Heap} {L tab : Addr} {m : Str → Option Value} {outer : List Env} {env : Env} {q : Str} {P : Heap → Value → Prop}
/-- the frames stay, but for marks -/
noncomputable def FrmUp (l : List Env) (h h' : Heap) : Prop := ∀ b o, b ∈ frm l → h.get? b = some o → ∃ sl, h'.get? b = some { o with slots := sl }
theorem FrmUp.trans {l : List Env} {h h' h'' : Heap} (x : FrmUp l h h') (y : FrmUp l h' h'') : FrmUp l h h'' := fun b o m e => by
  obtain ⟨sl, e1⟩ := x b o m e
  obtain ⟨sl', e2⟩ := y b _ m e1
  exact ⟨sl', e2⟩
/-- what is left by a comprehension of worths -/
inductive CompOut (h₀ : Heap) (L tab : Addr) (q : Str) (m : Str → Option Value) (l outer : List Env) (P : Heap → Value → Prop) (h₁ : Heap) (tl : List (Addr × Obj)) (k : Nat) (D : Addr) (h' : Heap) : Prop
  | mk (tl' : List (Addr × Obj)) (vs : List Value) (n : Nat) (hk : vs.length = k) (F : Fr h₀ L h' m) (N : News h₀ L h' tl') (T : TabL h₀ tab q tl') (A : Apart outer tl') (K' : ∀ p ∈ tl, p.1 ≠ tab → p ∈ tl') (FF : h'.FunFrames h₀ l) (gD : h'.get? D = some { cls := .type "list", data := .seq (List.toArray vs) n }) (DL : D ≠ L) (hD : h₁.get? D = none) (ps : ∀ v ∈ vs, P h' v) (U : FrmUp outer h₁ h') (Z : ∀ p ∈ tl', p ∈ tl ∨ ∃ vs, p.2.data = .fields vs)
theorem comp_out {h₁ h' : Heap} {tl : List (Addr × Obj)} {k : Nat} {D : Addr} {vs : List Value} (hf : env.frame = some L) (F : Fr h₀ L h₁ m) (FF : h₁.FunFrames h₀ (env :: outer)) (N : News h₀ L h₁ tl) (A : Apart outer tl) (ht : h₀.get? tab = none)
    (mv : Moved tab (env :: outer) h₁ h') (TI : TabI tab q h') (hD : h₁.get? D = none) (hp : h'.PlainList D vs.toArray) (hk : vs.length = k) (ps : ∀ v ∈ vs, P h' v) : CompOut h₀ L tab q m (env :: outer) outer P h₁ tl k D h' := by
  have F' : Fr h₀ L h' m := ⟨mv.up.ns F.ns, fun b o e => mv.keep b o (fun z => by rw [z, ht] at e; cases e) (fun hm => by rw [(FF.mem hm).1] at e; cases e) (F.keep b o e), F.above⟩
  have FF' := upTo_frames mv.up FF
  have nf : ∀ p ∈ tl, p.1 ∉ frm (env :: outer) := fun p hp hm => by
    rcases (by simpa [frm, hf] using hm : p.1 = L ∨ p.1 ∈ frm outer) with z | z
    · exact (N p hp).2.1 z
    · exact A p hp z
  obtain ⟨tl', N', T', A', K', Z'⟩ := tail_of (tl := tl) (outer := outer) (base := h₀) TI F' FF'.2.2 (fun p hp n => ⟨mv.keep p.1 p.2 n (nf p hp) (N p hp).1, (N p hp).2⟩) A ht
  obtain ⟨n, gD⟩ := hp
  have DL : D ≠ L := fun z => by
    obtain ⟨o, es, ep, e, _⟩ := F.ns
    rw [← z, hD] at e; cases e
  exact ⟨tl', vs, n, hk, F', N', T', A', K', FF', gD, DL, hD, ps, fun b o hm e => by
    obtain ⟨_, o', ho, nf'⟩ := FF.2.2.mem hm
    rw [e] at ho; cases ho
    exact mv.up b o e nf', Z'⟩
/-- ready for a comprehension of worths -/
structure CompIn (w : World) (mean : ExcName → Option Value) (mg mb : Str → Option Value) (h₀ : Heap) (L tab cd : Addr) (m : Str → Option Value) (env : Env) (outer : List Env) (P : Heap → Value → Prop) (Out : Heap → Heap → Value → Prop) (It : Value → Value → Prop)
    (lbody : Expr) (lscope cscope : Scope) (cl : List (Str × Addr)) (clos : Addr → List (Str × Addr)) (items : Array Value) (Dw Uw : Nat) (lst : Addr) (tl : List (Addr × Obj)) (h : Heap) : Prop where
  hf : env.frame = some L
  fr : Fr h₀ L h m
  news : News h₀ L h tl
  apart : Apart outer tl
  tabl : TabL h₀ tab (env.qual ++ "<lambda>") tl
  frames : h.FunFrames h₀ (env :: outer)
  k : (K w.params).In h₀
  top : TopM mean mg mb h₀
  tab0 : h₀.get? tab = none
  head : CodeHd h₀ cd tab
  e1 : env.globals = mainGlobals
  e2 : env.code = .ref cd
  ck : cscope.kind = .function
  e4 : ∀ C, (compEnvX cscope cl C env).kindOf "_law_worth" = some .globalImplicit
  e6 : ∀ C, (compEnvX cscope cl C env).kindOf "one" = some .cell
  e7 : ∀ C, (compEnvX cscope cl C env).kindOf "other" = some .cell
  e5 : ∀ C, closureFor lscope (compEnvX cscope cl C env) = pure (clos C)
  hcs : ∀ n, cellsFrom (n + 1) cscope.names cl = (("other" : Str), n + 2) :: (("one" : Str), n + 1) :: cl
  hpc : ∀ h, pushCells h cscope.names = (h.push { cls := .type "cell", data := .cell none }).push { cls := .type "cell", data := .cell none }
  lst : ∃ n, (lst, W.listOf items n) ∈ tl
  its : ∀ (i : Nat) (v : Value), items[i]? = some v → ∃ a x y, v = .ref a ∧ (a, tupV x y) ∈ tl ∧ It x y
  work : ∀ base : Heap, (∀ p ∈ tl, p.1 ≠ tab → base.get? p.1 = some p.2) → ∀ (x y : Value) (C f : Addr), It x y → ConF w mean mg mb 276 [.ref f] Dw Uw (fun h => (LamAt h f (env.qual ++ "<lambda>") lbody lscope (clos C) ∧ h.IsCell (C + 1) (some x) ∧ h.IsCell (C + 2) (some y) ∧ base.StaysIn h) ∧ FnAt f h) Out
  hO : ∀ h₁ h' v, (∀ b, h.get? b ≠ none → h₁.get? b ≠ none) → Out h₁ h' v → P h' v
  hP : ∀ h h' v, Tups h h' → P h v → P h' v
  hz : items.size ≤ 100
theorem comp_frame {s : Shared} {cd lst : Addr} {dp un : Nat} {gd : Option (List Code)} {Dw Uw : Nat} {Out : Heap → Heap → Value → Prop} {It : Value → Value → Prop} {lbody : Expr} {lscope cscope : Scope} {cl : List (Str × Addr)} {clos : Addr → List (Str × Addr)}
    {items : Array Value} {iter : Expr} {p0 p1 lpos q1 q2 q3 pos : Pos} {k : Nat} {RR : Value → Addr → Result → Shared → Prop} {E : Value → Shared → Prop} {tl : List (Addr × Obj)}
    (x : CompIn w mean mg mb h₀ L tab cd m env outer P Out It lbody lscope cscope cl clos items Dw Uw lst tl s.heap) (hd : dp + Dw < recursionLimit) (hu : un + Uw < cLine)
    (hRR : ∀ D C h' tk' m', h'.Ns C m' → (∀ h'', Heap.SameBut C h' h'' → CompOut h₀ L tab (env.qual ++ "<lambda>") m (env :: outer) outer P s.heap tl items.size D h'') → C ≠ L → s.heap.get? C = none → D ≠ C → RR (.ref D) C (.ok .next) { s with heap := h', toks := tk' }) :
    wpAny (model Pg w) (AA dp un (some (env :: outer)) gd) (pyIter (.ref lst)) (fun it s₂ => wpAny (model Pg w) (AA dp un (some (env :: outer)) gd) (newList []) (fun acc s₃ => wpAny (model Pg w) (AA dp un (some (env :: outer)) gd) (newFunctionEnv cscope env.globals cl [] env.qual none .none (some env)) (fun cenv s₄ =>
      codeAny (model Pg w) (AA dp un (some (env :: outer)) gd) (.compStart (.ListComp (.Call (.Name "_law_worth" p0) [.Lambda noPar lbody lscope lpos] [] p1) [⟨.Tuple [.Name "one" q1, .Name "other" q2] k q3, iter, [], 0⟩] cscope pos) 0 it acc { cenv with scope := relabel cscope env }) (RR acc cenv.locals) s₄) E s₃) E s₂) E s := by
  have nf : ∀ p ∈ tl, p.1 ∉ frm (env :: outer) := fun p hp hm => by
    rcases (by simpa [frm, x.hf] using hm : p.1 = L ∨ p.1 ∈ frm outer) with z | z
    · exact (x.news p hp).2.1 z
    · exact x.apart p hp z
  have st : h₀.StaysIn (hideAll s.heap (tab :: frm (env :: outer))) := fun b o e => hideAll_get _ (x.fr.keep b o e) fun hm => by
    rcases List.mem_cons.mp hm with z | hm
    · rw [z, x.tab0] at e; cases e
    · rw [(x.frames.mem hm).1] at e; cases e
  have inb : ∀ p ∈ tl, p.1 ≠ tab → (hideAll s.heap (tab :: frm (env :: outer))).get? p.1 = some p.2 := fun p hp n => hideAll_get _ (x.news p hp).1 fun hm => by
    rcases List.mem_cons.mp hm with z | hm
    · exact n z
    · exact nf p hp hm
  have TI := x.tabl.tabI x.fr x.news
  have ntab : ∀ a o, (a, o) ∈ tl → o.cls ≠ .none → a ≠ tab := fun a o hm hc z => by
    obtain ⟨ps, g, _⟩ := TI
    have := (x.news _ hm).1
    rw [show (a, o).1 = tab from z, g] at this; cases this; exact hc rfl
  refine comp_core (base := hideAll s.heap (tab :: frm (env :: outer))) (P := P) (Out := Out) (It := It) (clos := clos) (x.k.keeps st) (x.top.keeps st) (fun b o e => of_hideAll _ e) (funFrames_hide x.frames fun e he a ha => List.mem_cons_of_mem _ (List.mem_filterMap.mpr ⟨e, he, ha⟩)) (hideAll_none _ (.head _)) (x.head.keeps st) TI x.e1 x.e2 x.ck x.e4 x.e6 x.e7 x.e5 x.hcs x.hpc ?_ (fun i v hv => ?_) (x.work _ inb) x.hO x.hP hd hu x.hz fun D C h' tk' m' vs nD nC hDC n' p' len mv tb ps => ?_
  · obtain ⟨n, hm⟩ := x.lst
    exact ⟨_, inb _ hm (ntab _ _ hm (fun z => nomatch z)), rfl, n, rfl⟩
  · obtain ⟨a, u, z, rfl, hm, hi⟩ := x.its i v hv
    exact ⟨a, u, z, rfl, ⟨_, inb _ hm (ntab _ _ hm (fun z => nomatch z)), rfl, _, rfl⟩, hi⟩
  · refine hRR D C h' tk' m' n' (fun h'' sb => ?_) (fun z => ?_) nC hDC
    · have tb' : TabI tab (env.qual ++ "<lambda>") h'' := tb.keeps fun b o vs e d => (sb.2 b fun z => by
        obtain ⟨o', es, ep, e', d', _⟩ := n'
        rw [← z, e] at e'; cases e'; rw [d] at d'; cases d').trans e
      obtain ⟨n, gD⟩ := p'
      refine comp_out x.hf x.fr x.frames x.news x.apart x.tab0 (mv.but (fun b o n e => (sb.2 b n).trans e) nC) tb' nD ⟨n, (sb.2 D hDC).trans gD⟩ len fun v hv => x.hP h' h'' v (Tups.of_but (a := C) (fun b o n e => (sb.2 b n).trans e) fun o its k' e c d => ?_) (ps v hv)
      obtain ⟨o', es, ep, e', d', _⟩ := n'
      rw [e] at e'; cases e'; rw [d] at d'; cases d'
    · obtain ⟨o, es, ep, e, _⟩ := x.fr.ns
      rw [← z, nC] at e; cases e
/-- what the list of a comprehension of worths must be -/
inductive CompEv (w : World) (mean : ExcName → Option Value) (mg mb : Str → Option Value) (h₀ : Heap) (L tab : Addr) (m : Str → Option Value) (env : Env) (outer : List Env) (P : Heap → Value → Prop) (lbody : Expr) (lscope cscope : Scope) (cl : List (Str × Addr)) (dp un : Nat) (G : Shared → List (Addr × Obj) → Nat → Prop) (xv : Value) (s₁ : Shared) : Prop
  | mk : ∀ cd Dw Uw Out It clos items lst tl, xv = .ref lst → CompIn w mean mg mb h₀ L tab cd m env outer P Out It lbody lscope cscope cl clos items Dw Uw lst tl s₁.heap → dp + Dw < recursionLimit → un + Uw < cLine → G s₁ tl items.size → CompEv w mean mg mb h₀ L tab m env outer P lbody lscope cscope cl dp un G xv s₁
/-- a comprehension of worths in an expression -/
theorem comp_eval {s : Shared} {dp un : Nat} {gd : Option (List Code)} {lbody : Expr} {lscope cscope : Scope} {cl : List (Str × Addr)} {iter : Expr} {p0 p1 lpos q1 q2 q3 pos : Pos} {kk : Nat} {Q E : Value → Shared → Prop}
    (hclos : closureFor cscope env = pure cl) (hk : cscope.kind = .function) (hnames : ∀ z ∈ cscope.names, z.2 = .local → cscope.names.lookup z.1 = some .local)
    (h : wpAny (model Pg w) (AA dp un (some (env :: outer)) gd) (eval iter env) (CompEv w mean mg mb h₀ L tab m env outer P lbody lscope cscope cl dp un fun s₁ tl k =>
      ∀ D h' tk', CompOut h₀ L tab (env.qual ++ "<lambda>") m (env :: outer) outer P s₁.heap tl k D h' → Q (.ref D) { s₁ with heap := h', toks := tk' }) E s)
    (hs : ∀ x, foldedSetIterable iter env x = pure x := by intro _; rfl) :
    wpAny (model Pg w) (AA dp un (some (env :: outer)) gd) (eval (.ListComp (.Call (.Name "_law_worth" p0) [.Lambda noPar lbody lscope lpos] [] p1) [⟨.Tuple [.Name "one" q1, .Name "other" q2] kk q3, iter, [], 0⟩] cscope pos) env) Q E s := by
  rw [eval_ListComp]
  refine wpAny_comprehension_free (use := none) rfl hs hclos hk hnames (wpAny_mono h (fun xv s₁ h₁ => ?_) fun _ _ e => e)
  obtain ⟨cd, Dw, Uw, Out, It, clos, items, lst, tl, rfl, x, hd, hu, hq⟩ := h₁
  refine comp_frame (RR := fun acc C => compPost (model Pg w) (AA dp un (some (env :: outer)) gd) E none Q acc C) x hd hu fun D C h' tk' m' n' o _ _ _ => ?_
  exact ⟨m', n', fun h'' sb => hq D h'' tk' (o h'' sb)⟩
/-- a comprehension of worths, stored -/
theorem comp_assign {s : Shared} {dp un : Nat} {gd : Option (List Code)} {lbody : Expr} {lscope cscope : Scope} {cl : List (Str × Addr)} {iter : Expr} {p0 p1 lpos q1 q2 q3 pos py spos : Pos} {kk : Nat} {y : Str} {Q : Flow → Shared → Prop} {E : Value → Shared → Prop}
    (hsw : swapsWith (.ListComp (.Call (.Name "_law_worth" p0) [.Lambda noPar lbody lscope lpos] [] p1) [⟨.Tuple [.Name "one" q1, .Name "other" q2] kk q3, iter, [], 0⟩] cscope pos) (some (.Name y py)) spos.line env = pure true)
    (hclos : closureFor cscope env = pure cl) (hk : cscope.kind = .function) (hnames : ∀ z ∈ cscope.names, z.2 = .local → cscope.names.lookup z.1 = some .local)
    (hout : L ∉ frm outer) (hL : env.locals = L) (hy : env.kindOf y = some .local) (hp : (env.scope.kind == .class || (env.scope.kind == .module && env.locals != env.globals)) = false)
    (h : wpAny (model Pg w) (AA dp un (some (env :: outer)) gd) (eval iter env) (CompEv w mean mg mb h₀ L tab m env outer P lbody lscope cscope cl dp un fun s₁ tl k =>
      ∀ D h' tk', CompOut h₀ L tab (env.qual ++ "<lambda>") (fun z => if z = y then some (.ref D) else m z) (env :: outer) outer P s₁.heap tl k D h' → Q .next { s₁ with heap := h', toks := tk' }) E s)
    (hs : ∀ x, foldedSetIterable iter env x = pure x := by intro _; rfl) :
    wpAny (model Pg w) (AA dp un (some (env :: outer)) gd) (exec (.Assign [.Name y py] (.ListComp (.Call (.Name "_law_worth" p0) [.Lambda noPar lbody lscope lpos] [] p1) [⟨.Tuple [.Name "one" q1, .Name "other" q2] kk q3, iter, [], 0⟩] cscope pos) spos) env) Q E s := by
  subst hL
  rw [exec_Assign_Name_used _ _ _ _ hsw]
  refine wpAny_bind (wpAny_standAt (wpAny_bind ?_))
  show wpAny _ _ (do let _ ← comprehension (.ListComp (.Call (.Name "_law_worth" p0) [.Lambda noPar lbody lscope lpos] [] p1) [⟨.Tuple [.Name "one" q1, .Name "other" q2] kk q3, iter, [], 0⟩] cscope pos) cscope env _ (newList []) false (eval iter env) (some (assign (.Name y py) env))) _ _ s
  refine wpAny_bind (wpAny_mono (wpAny_comprehension_free (use := some (assign (.Name y py) env)) (Q := fun _ s' => Q .next s') rfl hs hclos hk hnames
    (wpAny_mono h (fun xv s₁ h₁ => ?_) fun _ _ e => e)) (fun _ s' hq => wpAny_pure (wpAny_pure hq)) fun _ _ e => e)
  obtain ⟨cd, Dw, Uw, Out, It, clos, items, lst, tl, rfl, x, hd, hu, hq⟩ := h₁
  refine comp_frame (RR := fun acc C => compPost (model Pg w) (AA dp un (some (env :: outer)) gd) E (some (assign (.Name y py) env)) (fun _ s' => Q .next s') acc C) x hd hu fun D C h' tk' m' n' o hCL nC hDC => ?_
  obtain ⟨tl', vs, n, e1, F', N', T', A', K', FF', gD, DL, hD, ps, U', Z'⟩ := o h' (.refl ..)
  show wpAny _ _ (assign (.Name y py) env (.ref D)) _ _ _
  refine wpAny_assign_Name (wpAny_storeName_local hy F'.ns (fun h₂ n₂ s₂ => ?_) hp)
  refine ⟨m', n'.sameBut s₂ hCL, fun h'' sb => ?_⟩
  have hC0 : h₀.get? C = none := by
    cases e : h₀.get? C with
    | none => rfl
    | some ob => rw [x.fr.keep _ _ e] at nC; cases nC
  have zC : ∀ p ∈ tl', p.1 ≠ C := fun p hp z => by
    rcases Z' p hp with hp' | ⟨vs', d⟩
    · have := (x.news p hp').1; rw [z, nC] at this; cases this
    · obtain ⟨ob, es, ep, e, d', _⟩ := n'
      have := (N' p hp).1
      rw [z, e] at this; cases this; rw [d] at d'; cases d'
  have F₂ := F'.set n₂ s₂
  have N₂ := N'.set s₂
  refine hq D h'' _ ⟨tl', vs, n, e1, ⟨F₂.ns.sameBut sb (Ne.symm hCL), fun b ob e => (sb.2 b fun z => by rw [z, hC0] at e; cases e).trans (F₂.keep b ob e), F₂.above⟩, fun p hp => ⟨(sb.2 p.1 (zC p hp)).trans (N₂ p hp).1, (N₂ p hp).2⟩, T', A', K', ?_, ?_, DL, hD, fun v hv => ?_, fun b ob hm e => ?_, Z'⟩
  · refine frames_keep (fun b ob e0 e nd => ?_) x.frames FF'
    by_cases z : b = env.locals
    · obtain ⟨o2, es, ep, g2, d2, _⟩ := F₂.ns
      exact ⟨o2, z ▸ (sb.2 _ (Ne.symm hCL)).trans g2, fun vs q => by rw [d2] at q; cases q⟩
    · exact ⟨ob, (sb.2 b fun z2 => e0 (z2 ▸ nC)).trans ((s₂.2 b z).trans e), nd⟩
  · exact (sb.2 D hDC).trans ((s₂.2 D DL).trans gD)
  · refine x.hP h' h'' v (fun b ob its k' e c d => ⟨ob.slots, ?_⟩) (ps v hv)
    have b1 : b ≠ env.locals := fun z => by
      obtain ⟨o1, es1, ep1, g1, d1, _⟩ := F'.ns
      rw [z, g1] at e; cases e; rw [d1] at d; cases d
    have b2 : b ≠ C := fun z => by
      obtain ⟨o1, es1, ep1, g1, d1, _⟩ := n'
      rw [z, g1] at e; cases e; rw [d1] at d; cases d
    exact (sb.2 b b2).trans ((s₂.2 b b1).trans e)
  · obtain ⟨sl, e'⟩ := U' b ob hm e
    exact ⟨sl, (sb.2 b fun z => by rw [z, nC] at e; cases e).trans ((s₂.2 b fun z => hout (z ▸ hm)).trans e')⟩
end
end
section
set_option maxHeartbeats 2000000
section
variable {prog : Program} {w : World} {A : Around} {E : Value → Shared → Prop} {s : Shared} {env : Env} {target : Expr} {body : List Stmt} {Q : Flow → Shared → Prop}
/-- a loop by what holds between its turns -/
inductive LoopIn (prog : Program) (w : World) (A : Around) (env : Env) (target : Expr) (body : List Stmt) (Q : Flow → Shared → Prop) (E : Value → Shared → Prop) (it : Value) (s₂ : Shared) : Prop
  | mk (I : Addr) (fp wr : List Addr) (n : Nat) (P : Nat → Value → Prop) (St : Nat → Heap → Prop) (J : Nat → Heap → Prop) (e : it = .ref I) (W : Walks prog w A I fp wr n P St)
    (hgo : ∀ i (s' : Shared) v (Q' : Unit → Shared → Prop) (E' : Value → Shared → Prop), P i v → St (i + 1) s'.heap → Q' () s' → wpAny (model prog w) A (letOwnedTupleGo target (.ref I) v) Q' E' s')
    (st : St 0 s₂.heap) (j0 : J 0 s₂.heap) (hst : ∀ i h h', J i h → St i h → (∀ b o, b ∉ wr → h.get? b = some o → h'.get? b = some o) → J i h')
    (step : ∀ i v h tk, i < n → P i v → J i h → St (i + 1) h → wpAny (model prog w) A (assign target env v) (fun _ s₃ => wpAny (model prog w) A (execs body env)
      (fun f s₄ => match f with | .ret v => Q (.ret v) s₄ | .brk => Q .next s₄ | _ => ∃ h' tk', s₄ = { s₂ with heap := h', toks := tk' } ∧ J (i + 1) h' ∧ St (i + 1) h') E s₃) E { s₂ with heap := h, toks := tk })
    (fin : ∀ h tk, J n h → Q .next { s₂ with heap := h, toks := tk })
/-- between two turns of a loop -/
inductive FwJ (St J : Nat → Heap → Prop) (n : Nat) (s₂ : Shared) (k : Nat) (s' : Shared) : Prop
  | mk (h' : Heap) (tk i : Nat) (e : s' = { s₂ with heap := h', toks := tk }) (st : St i h') (j : J i h') (hi : i ≤ n) (hk : k = n + 1 - i)
theorem for_walks {iter : Expr} {pos : Pos}
    (h : wpAny (model prog w) A (eval iter env) (fun xv s₁ => wpAny (model prog w) A (pyIter xv) (LoopIn prog w A env target body Q E) E s₁) E s)
    (hs : ∀ x, foldedSetIterable iter env x = pure x) (hE : PassesOwn (model prog w) A env E) :
    wpAny (model prog w) A (exec (.For target iter body [] pos) env) Q E s := by
  refine wpAny_For (wpAny_mono h (fun xv s₁ h₁ => wpAny_mono h₁ (fun it s₂ h₂ => ?_) fun _ _ e => e) fun _ _ e => e) hs
  obtain ⟨I, fp, wr, n, P, St, J, rfl, W, hgo, st, j0, hst, step, fin⟩ := h₂
  refine codeAny_forLoop_any (FwJ St J n s₂) ?_ (n + 1) ⟨s₂.heap, s₂.toks, 0, rfl, st, j0, Nat.zero_le _, rfl⟩
  rintro k s' ⟨h', tk, i, rfl, st', j', hi, rfl⟩
  by_cases hlt : i < n
  · refine W.item i _ _ _ hlt st' fun v h₁ tk₁ hp st₁ k₁ => ?_
    refine hgo i _ v _ _ hp st₁ ?_
    refine wpAny_mono (step i v h₁ tk₁ hlt hp (hst i h' h₁ j' st' k₁) st₁) (fun _ s₃ h₃ => wpAny_mono (wpAny_passesOwn hE h₃) (fun f s₄ h₄ => ?_) fun _ _ e => e) hE
    cases f with
    | ret v => exact h₄
    | brk => exact h₄
    | next => obtain ⟨h₅, tk₅, rfl, j₅, st₅⟩ := h₄; exact ⟨n + 1 - (i + 1), by omega, h₅, tk₅, i + 1, rfl, st₅, j₅, hlt, rfl⟩
    | cont => obtain ⟨h₅, tk₅, rfl, j₅, st₅⟩ := h₄; exact ⟨n + 1 - (i + 1), by omega, h₅, tk₅, i + 1, rfl, st₅, j₅, hlt, rfl⟩
  · have e : i = n := by omega
    subst e
    refine W.done _ _ _ st' fun h₁ tk₁ k₁ => wpAny_execs_nil ?_
    exact fin h₁ tk₁ (hst i h' h₁ j' st' k₁)
end
end
section
set_option maxHeartbeats 2000000
/-- an answer that is told of an older heap as well -/
noncomputable def Older (Out : Heap → Heap → Value → Prop) : Prop := ∀ h h₁ h' r, h.StaysIn h₁ → Out h₁ h' r → Out h h' r
noncomputable def Grows (pre : Heap → Prop) : Prop := ∀ h h', h.StaysIn h' → pre h → pre h'
/-- the scope of the law's lambdas -/
structure LamScope (scope : Scope) (g : Str) (hasOp : Bool) : Prop where
  k : scope.kind = .function
  co : scope.isCoroutine = false
  gen : scope.isGenerator = false
  cell : ∀ x ∈ scope.names, x.2 ≠ .cell
  g : scope.names.lookup g = some .globalImplicit
  op : hasOp = true → scope.names.lookup ("op" : Str) = some .free
  one : scope.names.lookup ("one" : Str) = some .free
  other : scope.names.lookup ("other" : Str) = some .free
  bits : scope.names.lookup ("bits" : Str) = some .free
section
variable {w : World} {mean : ExcName → Option Value} {mg mb : Str → Option Value} {f : Addr} {qual : Str} {scope : Scope} {clos : List (Str × Addr)} {vo va vb vn : Value} {d u : Nat} {pre : Heap → Prop} {Out : Heap → Heap → Value → Prop} {p0 p1 p2 p3 p4 p5 p6 : Pos} {i : Int} {k k' : Nat} {x : Str}
theorem lam5_con (C : ∀ t, Con w mean mg mb 220 [vo, va, vb, vn, .int i t] d u pre Out) (hp : Grows pre) (ho : Older Out) (S : LamScope scope "reckoned" true) :
    Con w mean mg mb f [] (d + 1) (u + 3) (fun h => LamAt h f qual (call5 "reckoned" i k p0 p1 p2 p3 p4 p5 p6) scope clos ∧ Cells h clos vo va vb vn ∧ pre h) Out := by
  intro dp un fr gd s Q E X T ⟨hl, hc, hpr⟩ hd hu hret
  refine lam_enter T hl (show dp < _ by omega) S.cell S.co S.gen S.k fun L' cd h₁ F => ?_
  refine lam_body5 (G := 220) F X T (by kernel_rfl) (by rfl) S.k S.g (by decide) (S.op rfl) S.one S.other S.bits (hc.keeps F.keep) fun t tk => ?_
  refine C t (dp + 1) (un + 3) _ gd _ _ _ (X.keeps F.keep) (T.keeps F.keep) (hp _ _ F.keep hpr) (by omega) (by omega) fun r h' tk' st o => ?_
  exact hret r h' tk' (fun b o e => st b o (F.keep b o e)) (ho _ _ _ _ F.keep o)
theorem lam5_dz (C : ∀ t, ConE w mean mg mb 220 [vo, va, vb, vn, .int i t] d u pre) (hp : Grows pre) (S : LamScope scope "reckoned" true) :
    ConE w mean mg mb f [] (d + 1) (u + 3) (fun h => LamAt h f qual (call5 "reckoned" i k p0 p1 p2 p3 p4 p5 p6) scope clos ∧ Cells h clos vo va vb vn ∧ pre h) := by
  intro dp un outer gd base s Q E X T ⟨hl, hc, hpr⟩ hd hu B FF hq
  refine lam_enter T hl (show dp < _ by omega) S.cell S.co S.gen S.k fun L' cd h₁ F => ?_
  refine lam_body5 (G := 220) F X T (by kernel_rfl) (by rfl) S.k S.g (by decide) (S.op rfl) S.one S.other S.bits (hc.keeps F.keep) fun t tk => ?_
  have hkm : (envX qual scope L' f cd clos).scope.kind ≠ .module := fun q => by rw [show (envX qual scope L' f cd clos).scope.kind = .function from S.k] at q; cases q
  obtain ⟨b, ff⟩ := frames_in (env := envX qual scope L' f cd clos) B FF F rfl hkm
  refine C t (dp + 1) (un + 3) _ gd base _ _ _ (X.keeps F.keep) (T.keeps F.keep) (hp _ _ F.keep hpr) (by omega) (by omega) b ff fun e s' y => ?_
  exact thrown_leaves (Thrown.after (s₀ := s) (h := h₁) (tk := tk) y rfl (Heap.UpToSlots.of_keeps F.keep)) rfl rfl (hq e)
theorem lam5s_con (C : ∀ t0 t, Con w mean mg mb 220 [.str x t0, va, vb, vn, .int i t] d u pre Out) (hp : Grows pre) (ho : Older Out) (S : LamScope scope "reckoned" false) :
    Con w mean mg mb f [] (d + 1) (u + 3) (fun h => LamAt h f qual (call5s "reckoned" x i k k' p0 p1 p2 p3 p4 p5 p6) scope clos ∧ ((∃ c, clos.lookup ("one" : Str) = some c ∧ h.IsCell c (some va)) ∧ (∃ c, clos.lookup ("other" : Str) = some c ∧ h.IsCell c (some vb)) ∧ ∃ c, clos.lookup ("bits" : Str) = some c ∧ h.IsCell c (some vn)) ∧ pre h) Out := by
  intro dp un fr gd s Q E X T ⟨hl, ⟨⟨c1, a1, b1⟩, ⟨c2, a2, b2⟩, ⟨c3, a3, b3⟩⟩, hpr⟩ hd hu hret
  refine lam_enter T hl (show dp < _ by omega) S.cell S.co S.gen S.k fun L' cd h₁ F => ?_
  refine lam_body5s (G := 220) F X T (by kernel_rfl) (by rfl) S.k S.g (by decide) S.one S.other S.bits ⟨c1, a1, b1.keeps F.keep⟩ ⟨c2, a2, b2.keeps F.keep⟩ ⟨c3, a3, b3.keeps F.keep⟩ fun t0 t tk => ?_
  refine C t0 t (dp + 1) (un + 3) _ gd _ _ _ (X.keeps F.keep) (T.keeps F.keep) (hp _ _ F.keep hpr) (by omega) (by omega) fun r h' tk' st o => ?_
  exact hret r h' tk' (fun b o e => st b o (F.keep b o e)) (ho _ _ _ _ F.keep o)
theorem lam4_con (C : Con w mean mg mb 255 [vo, va, vb, vn] d u pre Out) (hp : Grows pre) (ho : Older Out) (S : LamScope scope "logic" true) :
    Con w mean mg mb f [] (d + 1) (u + 3) (fun h => LamAt h f qual (call4 "logic" p0 p1 p2 p3 p4 p5) scope clos ∧ Cells h clos vo va vb vn ∧ pre h) Out := by
  intro dp un fr gd s Q E X T ⟨hl, hc, hpr⟩ hd hu hret
  refine lam_enter T hl (show dp < _ by omega) S.cell S.co S.gen S.k fun L' cd h₁ F => ?_
  refine lam_body4 (G := 255) F X T (by kernel_rfl) (by rfl) S.k S.g (by decide) (S.op rfl) S.one S.other S.bits (hc.keeps F.keep) fun tk => ?_
  refine C (dp + 1) (un + 3) _ gd _ _ _ (X.keeps F.keep) (T.keeps F.keep) (hp _ _ F.keep hpr) (by omega) (by omega) fun r h' tk' st o => ?_
  exact hret r h' tk' (fun b o e => st b o (F.keep b o e)) (ho _ _ _ _ F.keep o)
end
theorem grows_cells {clos : List (Str × Addr)} {vo va vb vn : Value} : Grows fun h => Cells h clos vo va vb vn := fun _ _ k x => x.keeps k
theorem Grows.and {p q : Heap → Prop} (a : Grows p) (b : Grows q) : Grows fun h => p h ∧ q h := fun h h' k x => ⟨a h h' k x.1, b h h' k x.2⟩
theorem grows_lam {f : Addr} {qual : Str} {body : Expr} {scope : Scope} {clos : List (Str × Addr)} : Grows fun h => LamAt h f qual body scope clos := fun _ _ k x => x.keeps k
end
section
set_option maxHeartbeats 2000000
noncomputable def forB : Stmt → List Stmt
  | .For _ _ b _ _ => b
  | _ => []
/-- the outer frames in the ledger -/
theorem frames_news {h₀ h : Heap} {L : Addr} : ∀ {l : List Env}, h.FunFrames h₀ l → L ∉ frm l → ∃ fe, News h₀ L h fe ∧ ∀ h' : Heap, News h₀ L h' fe → h'.FunFrames h₀ l ∧ FrmUp l h h'
  | [], _, _ => ⟨[], News.nil, fun _ _ => ⟨trivial, fun _ _ hm => nomatch hm⟩⟩
  | env :: l, ⟨hk, ⟨b, o, hf, hn, ho, hd⟩, hr⟩, hL => by
    have e : frm (env :: l) = b :: frm l := by simp [frm, hf]
    rw [e] at hL
    obtain ⟨fe, N, k⟩ := frames_news hr fun z => hL (List.mem_cons_of_mem _ z)
    refine ⟨(b, o) :: fe, fun p hp => ?_, fun h' N' => ⟨⟨hk, ⟨b, o, hf, hn, (N' _ (.head _)).1, hd⟩, (k h' fun p hp => N' p (List.mem_cons_of_mem _ hp)).1⟩, fun b' o' hm' e' => ?_⟩⟩
    rcases List.mem_cons.mp hp with rfl | hp
    · exact ⟨ho, fun z => hL (z ▸ .head _), hn⟩
    · exact N p hp
    · rw [e] at hm'
      rcases List.mem_cons.mp hm' with rfl | hm'
      · rw [ho] at e'; cases e'
        exact ⟨_, (N' _ (.head _)).1⟩
      · exact (k h' fun p hp => N' p (List.mem_cons_of_mem _ hp)).2 b' o' hm' e'
/-- a number of the law's in the ledger -/
noncomputable def isVL (tl : List (Addr × Obj)) (k : Bool) (n : Int) (v : Value) : Prop := match k with
  | true => ∃ a t u, v = .ref a ∧ (a, tupO (lawDec n).1 t (lawDec n).2 u) ∈ tl
  | false => ∃ t, v = .int n t
theorem isVL.at {tl : List (Addr × Obj)} {k : Bool} {n : Int} {v : Value} {base : Heap} (x : isVL tl k n v) (h : ∀ a t u, (a, tupO (lawDec n).1 t (lawDec n).2 u) ∈ tl → base.get? a = some (tupO (lawDec n).1 t (lawDec n).2 u)) : isV base k n v := by
  cases k with
  | true => obtain ⟨a, t, u, e, m⟩ := x; exact ⟨a, t, u, e, _, h a t u m, rfl, _, rfl⟩
  | false => exact x
noncomputable def KIt (tl : List (Addr × Obj)) (n m : Int) (x y : Value) : Prop := ∃ k k', isVL tl k n x ∧ isVL tl k' m y
theorem Kinds.its {tl : List (Addr × Obj)} {l : Addr} {n m : Int} (x : Kinds tl l n m) : ∃ items : Array Value, items.size = 4 ∧ (∃ k, (l, W.listOf items k) ∈ tl) ∧ ∀ (i : Nat) (v : Value), items[i]? = some v → ∃ a x y, v = .ref a ∧ (a, tupV x y) ∈ tl ∧ KIt tl n m x y := by
  obtain ⟨z, t, u, rfl, h⟩ := x
  have m1 := h _ (.head _)
  have m2 := h _ (.tail _ (.head _))
  have m3 := h _ (.tail _ (.tail _ (.head _)))
  have m4 := h _ (.tail _ (.tail _ (.tail _ (.head _))))
  have m5 := h _ (.tail _ (.tail _ (.tail _ (.tail _ (.head _)))))
  have m6 := h _ (.tail _ (.tail _ (.tail _ (.tail _ (.tail _ (.head _))))))
  have m7 := h _ (.tail _ (.tail _ (.tail _ (.tail _ (.tail _ (.tail _ (.head _)))))))
  have m8 := h _ (.tail _ (.tail _ (.tail _ (.tail _ (.tail _ (.tail _ (.tail _ (.head _))))))))
  have m9 := h _ (.tail _ (.tail _ (.tail _ (.tail _ (.tail _ (.tail _ (.tail _ (.tail _ (.head _)))))))))
  refine ⟨#[.ref z.d1, .ref z.d2, .ref z.d3, .ref z.d4], rfl, ⟨_, m1⟩, fun i v hv => ?_⟩
  match i, hv with
  | 0, hv => cases hv; exact ⟨z.d1, _, _, rfl, m2, false, false, ⟨_, rfl⟩, ⟨_, rfl⟩⟩
  | 1, hv => cases hv; exact ⟨z.d2, _, _, rfl, m3, false, true, ⟨_, rfl⟩, ⟨_, _, _, rfl, m7⟩⟩
  | 2, hv => cases hv; exact ⟨z.d3, _, _, rfl, m4, true, false, ⟨_, _, _, rfl, m8⟩, ⟨_, rfl⟩⟩
  | 3, hv => cases hv; exact ⟨z.d4, _, _, rfl, m5, true, true, ⟨_, _, _, rfl, m9⟩, ⟨_, _, _, rfl, m6⟩⟩
  | i + 4, hv => simp at hv
/-- a tuple of the ledger, told in full -/
noncomputable abbrev tupF (c : Int) (t : Tok) (e : Int) (u : Tok) (dd : Option Addr) (k : Nat) (sl : Array (Option Value)) : Obj := { cls := .type "tuple", dict := dd, data := .seq #[Value.int c t, Value.int e u] k, slots := sl }
/-- what a comprehension of worths hands on, a tuple each -/
noncomputable def PT (h₁ : Heap) (p : Int × Int) (h : Heap) (v : Value) : Prop := isPf true h₁ h p v
theorem PT.tups {h₁ h h' : Heap} {p : Int × Int} {v : Value} (t : Tups h h') (x : PT h₁ p h v) : PT h₁ p h' v := by
  obtain ⟨a, u, z, e, ⟨o, g, c, n, d⟩, f⟩ := x
  obtain ⟨sl, g'⟩ := t a o _ n g c d
  exact ⟨a, u, z, e, ⟨_, g', c, n, d⟩, f⟩
theorem PT.entry {h₀ h₁ h : Heap} {L : Addr} {m : Str → Option Value} {p : Int × Int} {v : Value} (F : Fr h₀ L h₁ m) (x : PT h₁ p h v) : ∃ a t u dd k sl, v = .ref a ∧ h.get? a = some (tupF p.1 t p.2 u dd k sl) ∧ a ≠ L ∧ h₀.get? a = none := by
  obtain ⟨a, u, z, e, ⟨o, g, c, n, d⟩, f⟩ := x
  obtain ⟨oc, od, odt, osl⟩ := o
  dsimp only at c d
  subst c d
  exact ⟨a, u, z, od, n, osl, e, g, fr_has (h' := h₁) F (f rfl)⟩
theorem older_W {z : Bool} {p : Int × Int} : Older fun h h' r => isW z h h' p r := fun h h₁ h' r k x => x.imp (fun ⟨a, t, u, e, i, f⟩ => ⟨a, t, u, e, i, fun q => by
  have := f q
  cases w : h.get? a with
  | none => rfl
  | some o => rw [k _ _ w] at this; cases this⟩) id
theorem isW_T {h h' : Heap} {p : Int × Int} {r : Value} (x : OutT p h h' r) : isW true h h' p r := let ⟨a, t, u, e, g, n⟩ := x; .inl ⟨a, t, u, e, ⟨_, g, rfl, _, rfl⟩, fun _ => n⟩
theorem isW_V {h h' : Heap} {k : Bool} {n : Int} {r : Value} (x : OutV k n h h' r) (s : Sm n) : isW true h h' (lawDec n) r := by
  cases k with
  | true => exact isW_T x
  | false => obtain ⟨t, e⟩ := x; exact .inr ⟨n, t, e, s, rfl⟩
theorem isW_I {h h' : Heap} {n : Int} {r : Value} (x : OutI n h h' r) (s : Sm n) : isW true h h' (lawDec n) r := let ⟨t, e⟩ := x; .inr ⟨n, t, e, s, rfl⟩
end
section
set_option maxHeartbeats 2000000
noncomputable abbrev prS : Scope := sScope (stm 45)
noncomputable abbrev prEnv (L : Addr) : Env := envOfC "_law_pair_right" prS L 302 (.ref 301)
noncomputable abbrev prQ : Str := "_law_pair_right" ++ ".<locals>." ++ "<lambda>"
noncomputable abbrev clos4 (L C : Addr) : List (Str × Addr) := [("other", C + 2), ("op", L + 2), ("one", C + 1), ("bits", L + 1)]
section
variable {w : World} {mean : ExcName → Option Value} {mg mb : Str → Option Value} {h₀ h h' : Heap} {L tab : Addr} {q : Str} {tl : List (Addr × Obj)} {m : Str → Option Value}
theorem TabL.but (x : TabL h₀ tab q tl) (N : News h₀ L h tl) {a : Addr} {o : Obj} (hm : (a, o) ∈ tl) (hd : ∀ vs, o.data ≠ .fields vs) : a ≠ tab := fun z => by
  obtain ⟨ps, g, _⟩ := x
  have e1 := (N _ g).1
  have e2 := (N _ hm).1
  dsimp only at e1 e2
  rw [z, e1] at e2
  cases e2
  exact hd _ rfl
theorem TabL.more {tl' : List (Addr × Obj)} (x : TabL h₀ tab q tl) (k : ∀ p ∈ tl, p ∈ tl') : TabL h₀ tab q tl' := by
  obtain ⟨ps, g, t, f⟩ := x
  refine ⟨ps, k _ g, t, fun pos cv e => ?_⟩
  obtain ⟨c, a, b, d⟩ := f pos cv e
  exact ⟨c, a, b, d.imp id fun ⟨oc, vs, u, g', d1, d2⟩ => ⟨oc, vs, u, k _ g', d1, d2⟩⟩
theorem Kinds.more {tl' : List (Addr × Obj)} {l : Addr} {n m : Int} (x : Kinds tl l n m) (k : ∀ p ∈ tl, (∀ vs, p.2.data ≠ .fields vs) → p ∈ tl') : Kinds tl' l n m := by
  obtain ⟨z, t, u, e, f⟩ := x
  refine ⟨z, t, u, e, fun p hp => k p (f p hp) fun vs z => ?_⟩
  simp only [kindsL, List.mem_cons, List.not_mem_nil, or_false] at hp
  rcases hp with rfl | rfl | rfl | rfl | rfl | rfl | rfl | rfl | rfl <;> exact nomatch z
theorem isVL.more {tl' : List (Addr × Obj)} {k : Bool} {n : Int} {v : Value} (x : isVL tl k n v) (h : ∀ p ∈ tl, p ∈ tl') : isVL tl' k n v := by
  cases k with
  | true => obtain ⟨a, t, u, e, m⟩ := x; exact ⟨a, t, u, e, h _ m⟩
  | false => exact x
theorem ConF.weak {f : Addr} {vs : List Value} {d u : Nat} {pre pre' : Heap → Prop} {Out : Heap → Heap → Value → Prop} (C : ConF w mean mg mb f vs d u pre Out) (k : ∀ h, pre' h → pre h) : ConF w mean mg mb f vs d u pre' Out :=
  fun dp un outer gd base s Q E X T p h1 h2 B F hq => C dp un outer gd base s Q E X T (k _ p) h1 h2 B F hq
theorem grows_isV {k : Bool} {n : Int} {v : Value} : Grows fun h => isV h k n v := fun _ _ st x => x.keeps st
section
variable {lscope : Scope} {vo vx vy vn : Value} {i : Int} {n m' : Int} {d u kk kk' : Nat} {p0 p1 p2 p3 p4 p5 p6 : Pos} {oo ob : Obj} {C f : Addr} {base : Heap} {x y : Value} {z : Str}
theorem cells4 (hoo : oo.data = .cell (some vo)) (hob : ob.data = .cell (some vn)) (h1 : base.get? (L + 2) = some oo) (h2 : base.get? (L + 1) = some ob) (st : base.StaysIn h) (c1 : h.IsCell (C + 1) (some x)) (c2 : h.IsCell (C + 2) (some y)) : Cells h (clos4 L C) vo x y vn :=
  ⟨⟨_, rfl, oo, st _ _ h1, hoo⟩, ⟨_, rfl, c1⟩, ⟨_, rfl, c2⟩, ⟨_, rfl, ob, st _ _ h2, hob⟩⟩
theorem work5 {p : Int × Int} (hC : ∀ (k k' : Bool) (vx vy : Value) (t3 : Tok), Con w mean mg mb 220 [vo, vx, vy, vn, .int i t3] d u (fun h => isV h k n vx ∧ isV h k' m' vy) (fun h h' r => isW true h h' p r))
    (S : LamScope lscope "reckoned" true) (hoo : oo.data = .cell (some vo)) (hob : ob.data = .cell (some vn)) (h1 : base.get? (L + 2) = some oo) (h2 : base.get? (L + 1) = some ob) (hxy : ∃ k k', isV base k n x ∧ isV base k' m' y) :
    ConF w mean mg mb 276 [.ref f] (d + 7) (u + 99) (fun h => (LamAt h f q (call5 "reckoned" i kk p0 p1 p2 p3 p4 p5 p6) lscope (clos4 L C) ∧ h.IsCell (C + 1) (some x) ∧ h.IsCell (C + 2) (some y) ∧ base.StaysIn h) ∧ FnAt f h) (fun h h' r => isPf true h h' p r) := by
  obtain ⟨k, k', hx, hy⟩ := hxy
  have C1 := lam5_con (f := f) (qual := q) (clos := clos4 L C) (k := kk) (p0 := p0) (p1 := p1) (p2 := p2) (p3 := p3) (p4 := p4) (p5 := p5) (p6 := p6) (hC k k' x y) (grows_isV.and grows_isV) older_W S
  exact (worth_c C1 (grows_lam.and (grows_cells.and (grows_isV.and grows_isV)))).wide.weak fun h ⟨⟨a, b, c, st⟩, fn⟩ => ⟨⟨a, cells4 hoo hob h1 h2 st b c, hx.keeps st, hy.keeps st⟩, fn⟩
theorem work5z (hC : ∀ (k k' : Bool) (vx vy : Value) (t3 : Tok), ConE w mean mg mb 220 [vo, vx, vy, vn, .int i t3] d u (fun h => isV h k n vx ∧ isV h k' m' vy))
    (S : LamScope lscope "reckoned" true) (hoo : oo.data = .cell (some vo)) (hob : ob.data = .cell (some vn)) (h1 : base.get? (L + 2) = some oo) (h2 : base.get? (L + 1) = some ob) (hxy : ∃ k k', isV base k n x ∧ isV base k' m' y) :
    ConF w mean mg mb 276 [.ref f] (d + 7) (u + 99) (fun h => (LamAt h f q (call5 "reckoned" i kk p0 p1 p2 p3 p4 p5 p6) lscope (clos4 L C) ∧ h.IsCell (C + 1) (some x) ∧ h.IsCell (C + 2) (some y) ∧ base.StaysIn h) ∧ FnAt f h) (fun _ _ r => ∃ t, r = .str "DZ" t) := by
  obtain ⟨k, k', hx, hy⟩ := hxy
  have C1 := lam5_dz (f := f) (qual := q) (clos := clos4 L C) (k := kk) (p0 := p0) (p1 := p1) (p2 := p2) (p3 := p3) (p4 := p4) (p5 := p5) (p6 := p6) (hC k k' x y) (grows_isV.and grows_isV) S
  exact (worth_dz C1 (grows_lam.and (grows_cells.and (grows_isV.and grows_isV)))).weak fun h ⟨⟨a, b, c, st⟩, fn⟩ => ⟨⟨a, cells4 hoo hob h1 h2 st b c, hx.keeps st, hy.keeps st⟩, fn⟩
theorem work4 {p : Int × Int} (hC : ∀ (k k' : Bool) (vx vy : Value), Con w mean mg mb 255 [vo, vx, vy, vn] d u (fun h => isV h k n vx ∧ isV h k' m' vy) (fun h h' r => isW true h h' p r))
    (S : LamScope lscope "logic" true) (hoo : oo.data = .cell (some vo)) (hob : ob.data = .cell (some vn)) (h1 : base.get? (L + 2) = some oo) (h2 : base.get? (L + 1) = some ob) (hxy : ∃ k k', isV base k n x ∧ isV base k' m' y) :
    ConF w mean mg mb 276 [.ref f] (d + 7) (u + 99) (fun h => (LamAt h f q (call4 "logic" p0 p1 p2 p3 p4 p5) lscope (clos4 L C) ∧ h.IsCell (C + 1) (some x) ∧ h.IsCell (C + 2) (some y) ∧ base.StaysIn h) ∧ FnAt f h) (fun h h' r => isPf true h h' p r) := by
  obtain ⟨k, k', hx, hy⟩ := hxy
  have C1 := lam4_con (f := f) (qual := q) (clos := clos4 L C) (p0 := p0) (p1 := p1) (p2 := p2) (p3 := p3) (p4 := p4) (p5 := p5) (hC k k' x y) (grows_isV.and grows_isV) older_W S
  exact (worth_c C1 (grows_lam.and (grows_cells.and (grows_isV.and grows_isV)))).wide.weak fun h ⟨⟨a, b, c, st⟩, fn⟩ => ⟨⟨a, cells4 hoo hob h1 h2 st b c, hx.keeps st, hy.keeps st⟩, fn⟩
theorem grows_cells3 {clos : List (Str × Addr)} {va vb vn : Value} : Grows fun h => (∃ c, clos.lookup ("one" : Str) = some c ∧ h.IsCell c (some va)) ∧ (∃ c, clos.lookup ("other" : Str) = some c ∧ h.IsCell c (some vb)) ∧ ∃ c, clos.lookup ("bits" : Str) = some c ∧ h.IsCell c (some vn) :=
  fun _ _ k ⟨⟨c1, a1, b1⟩, ⟨c2, a2, b2⟩, c3, a3, b3⟩ => ⟨⟨c1, a1, b1.keeps k⟩, ⟨c2, a2, b2.keeps k⟩, c3, a3, b3.keeps k⟩
noncomputable abbrev clos3 (L C : Addr) : List (Str × Addr) := [("other", C + 2), ("one", C + 1), ("bits", L + 1)]
theorem work5s {p : Int × Int} (hC : ∀ (k k' : Bool) (vx vy : Value) (t0 t3 : Tok), Con w mean mg mb 220 [.str z t0, vx, vy, vn, .int i t3] d u (fun h => isV h k n vx ∧ isV h k' m' vy) (fun h h' r => isW true h h' p r))
    (S : LamScope lscope "reckoned" false) (hob : ob.data = .cell (some vn)) (h2 : base.get? (L + 1) = some ob) (hxy : ∃ k k', isV base k n x ∧ isV base k' m' y) :
    ConF w mean mg mb 276 [.ref f] (d + 7) (u + 99) (fun h => (LamAt h f q (call5s "reckoned" z i kk kk' p0 p1 p2 p3 p4 p5 p6) lscope (clos3 L C) ∧ h.IsCell (C + 1) (some x) ∧ h.IsCell (C + 2) (some y) ∧ base.StaysIn h) ∧ FnAt f h) (fun h h' r => isPf true h h' p r) := by
  obtain ⟨k, k', hx, hy⟩ := hxy
  have C1 := lam5s_con (f := f) (qual := q) (clos := clos3 L C) (k := kk) (k' := kk') (p0 := p0) (p1 := p1) (p2 := p2) (p3 := p3) (p4 := p4) (p5 := p5) (p6 := p6) (fun t0 t => hC k k' x y t0 t) (grows_isV.and grows_isV) older_W S
  exact (worth_c C1 (grows_lam.and (Grows.and (grows_cells3) (grows_isV.and grows_isV)))).wide.weak fun h ⟨⟨a, b, c, st⟩, fn⟩ => ⟨⟨a, ⟨⟨_, rfl, b⟩, ⟨_, rfl, c⟩, ⟨_, rfl, ob, st _ _ h2, hob⟩⟩, hx.keeps st, hy.keeps st⟩, fn⟩
end
/-- between two turns of the loops of _law_pair_right -/
structure Turn (w : World) (mean : ExcName → Option Value) (mg mb : Str → Option Value) (h₀ : Heap) (L : Addr) (outer : List Env) (n m bits : Int) (ta tb tn te : Tok) (lw : Addr) (op : Value) (hs h : Heap) (M : Str → Option Value) (oo ob : Obj) (tl : List (Addr × Obj)) : Prop where
  fr : Fr h₀ L h M
  a : M "a" = some (.int n ta)
  b : M "b" = some (.int m tb)
  ways : M "ways" = some (.ref lw)
  en : M "end" = some (.int (2 ^ (bits - 1).toNat) te)
  news : News h₀ L h ((L + 2, oo) :: (L + 1, ob) :: tl)
  hoo : oo.data = .cell (some op)
  hob : ob.data = .cell (some (.int bits tn))
  tabl : TabL h₀ 299 prQ tl
  apart : Apart outer ((L + 2, oo) :: (L + 1, ob) :: tl)
  kinds : Kinds tl lw n m
  frames : h.FunFrames h₀ (prEnv L :: outer)
  fk : FrmUp outer hs h
  out : L ∉ frm outer
inductive TurnEnd (w : World) (mean : ExcName → Option Value) (mg mb : Str → Option Value) (h₀ : Heap) (L : Addr) (outer : List Env) (n m bits : Int) (ta tb tn te : Tok) (lw : Addr) (op : Value) (hs : Heap) (tl : List (Addr × Obj)) (s : Shared) (f : Flow) (s' : Shared) : Prop
  | mk (ef : f = .next) (h' : Heap) (tk' : Nat) (M' : Str → Option Value) (oo' ob' : Obj) (tl' : List (Addr × Obj)) (es : s' = { s with heap := h', toks := tk' }) (T : Turn w mean mg mb h₀ L outer n m bits ta tb tn te lw op hs h' M' oo' ob' tl') (k : ∀ p ∈ tl, p.1 ≠ 299 → p ∈ tl')
/-- a comprehension's hand-over: the ledger once more, all told -/
theorem comp_told {env : Env} {outer : List Env} {m₁ : Str → Option Value} {P : Heap → Value → Prop} {h₁ : Heap} {D : Addr} {oo ob : Obj} (x : CompOut h₀ L tab q m (env :: outer) outer P h₁ ((L + 2, oo) :: (L + 1, ob) :: tl) 4 D h') (F₁ : Fr h₀ L h₁ m₁) (hout : L ∉ frm outer) (n1 : L + 1 ≠ tab) (n2 : L + 2 ≠ tab) {R : Prop}
    (hq : ∀ tl' fe v1 v2 v3 v4 n, Fr h₀ L h' m → News h₀ L h' ((D, { cls := .type "list", data := .seq #[v1, v2, v3, v4] n }) :: (L + 2, oo) :: (L + 1, ob) :: (tl' ++ fe)) → TabL h₀ tab q tl' → Apart outer ((L + 2, oo) :: (L + 1, ob) :: tl') → (∀ p ∈ tl, p.1 ≠ tab → p ∈ tl') → (∀ h'', News h₀ L h'' (tl' ++ fe) → h''.FunFrames h₀ outer ∧ FrmUp outer h₁ h'') → P h' v1 → P h' v2 → P h' v3 → P h' v4 → R) : R := by
  obtain ⟨tl', vs, n, e1, F', N', T', A', K', FF', gD, DL, hD, ps, U', Z'⟩ := x
  obtain ⟨fe, NF, kf⟩ := frames_news FF'.2.2 hout
  match vs, e1, ps, gD with
  | [v1, v2, v3, v4], _, ps, gD =>
    refine hq tl' fe v1 v2 v3 v4 n F' (fun p hp => ?_) T' (fun p hp => ?_) (fun p hp n => K' p (.tail _ (.tail _ hp)) n) (fun h'' N'' => let ⟨y1, y2⟩ := kf h'' fun p hp => N'' p (List.mem_append_right _ hp); ⟨y1, U'.trans y2⟩) (ps _ (by simp)) (ps _ (by simp)) (ps _ (by simp)) (ps _ (by simp))
    · rcases List.mem_cons.mp hp with rfl | hp
      · refine ⟨gD, DL, ?_⟩
        cases z : h₀.get? D with
        | none => rfl
        | some o => rw [F₁.keep _ _ z] at hD; cases hD
      · rcases List.mem_cons.mp hp with rfl | hp
        · exact N' _ (K' _ (.head _) n2)
        · rcases List.mem_cons.mp hp with rfl | hp
          · exact N' _ (K' _ (.tail _ (.head _)) n1)
          · rcases List.mem_append.mp hp with hp | hp
            · exact N' _ hp
            · exact NF _ hp
    · rcases List.mem_cons.mp hp with rfl | hp
      · exact A' _ (K' _ (.head _) n2)
      · rcases List.mem_cons.mp hp with rfl | hp
        · exact A' _ (K' _ (.tail _ (.head _)) n1)
        · exact A' _ hp
theorem told_news {p : Int × Int} {h₁ : Heap} {m₁ : Str → Option Value} {D : Addr} {v1 v2 v3 v4 : Value} {n : Nat} {rest : List (Addr × Obj)} (F : Fr h₀ L h' m) (F₁ : Fr h₀ L h₁ m₁) (N : News h₀ L h' ((D, { cls := .type "list", data := .seq #[v1, v2, v3, v4] n }) :: rest)) (x1 : PT h₁ p h' v1) (x2 : PT h₁ p h' v2) (x3 : PT h₁ p h' v3) (x4 : PT h₁ p h' v4) {R : Prop}
    (hq : ∀ a1 a2 a3 a4 t1 t2 t3 t4 u1 u2 u3 u4 e1 e2 e3 e4 k1 k2 k3 k4 s1 s2 s3 s4, News h₀ L h' ((D, { cls := .type "list", data := .seq #[.ref a1, .ref a2, .ref a3, .ref a4] n }) :: (a1, tupF p.1 t1 p.2 u1 e1 k1 s1) :: (a2, tupF p.1 t2 p.2 u2 e2 k2 s2) :: (a3, tupF p.1 t3 p.2 u3 e3 k3 s3) :: (a4, tupF p.1 t4 p.2 u4 e4 k4 s4) :: rest) → R) : R := by
  obtain ⟨a1, t1, u1, e1, k1, s1, rfl, g1⟩ := x1.entry F₁
  obtain ⟨a2, t2, u2, e2, k2, s2, rfl, g2⟩ := x2.entry F₁
  obtain ⟨a3, t3, u3, e3, k3, s3, rfl, g3⟩ := x3.entry F₁
  obtain ⟨a4, t4, u4, e4, k4, s4, rfl, g4⟩ := x4.entry F₁
  refine hq a1 a2 a3 a4 t1 t2 t3 t4 u1 u2 u3 u4 e1 e2 e3 e4 k1 k2 k3 k4 s1 s2 s3 s4 fun p hp => ?_
  rcases List.mem_cons.mp hp with rfl | hp
  · exact N _ (.head _)
  rcases List.mem_cons.mp hp with rfl | hp
  · exact g1
  rcases List.mem_cons.mp hp with rfl | hp
  · exact g2
  rcases List.mem_cons.mp hp with rfl | hp
  · exact g3
  rcases List.mem_cons.mp hp with rfl | hp
  · exact g4
  exact N _ (List.mem_cons_of_mem _ hp)
end
end
section
set_option maxHeartbeats 2000000
section
variable {w : World} {mean : ExcName → Option Value} {mg mb : Str → Option Value} {h₀ h h' hs : Heap} {L lw tab : Addr} {outer : List Env} {n m bits : Int} {ta tb tn te : Tok} {M : Str → Option Value} {oo ob : Obj} {tl : List (Addr × Obj)} {q : Str}
/-- ready for a loop of _law_pair_right -/
structure Ready (w : World) (mean : ExcName → Option Value) (mg mb : Str → Option Value) (h₀ : Heap) (L : Addr) (outer : List Env) (n m bits : Int) (ta tb tn te : Tok) (lw : Addr) (hs h : Heap) (M : Str → Option Value) (oo ob : Obj) (tl : List (Addr × Obj)) : Prop where
  fr : Fr h₀ L h M
  a : M "a" = some (.int n ta)
  b : M "b" = some (.int m tb)
  ways : M "ways" = some (.ref lw)
  en : M "end" = some (.int (2 ^ (bits - 1).toNat) te)
  news : News h₀ L h ((L + 2, oo) :: (L + 1, ob) :: tl)
  hoo : ∃ v, oo.data = .cell v
  hob : ob.data = .cell (some (.int bits tn))
  tabl : TabL h₀ 299 prQ tl
  apart : Apart outer ((L + 2, oo) :: (L + 1, ob) :: tl)
  kinds : Kinds tl lw n m
  frames : h.FunFrames h₀ (prEnv L :: outer)
  fk : FrmUp outer hs h
  out : L ∉ frm outer
theorem Turn.ready {op : Value} (x : Turn w mean mg mb h₀ L outer n m bits ta tb tn te lw op hs h M oo ob tl) : Ready w mean mg mb h₀ L outer n m bits ta tb tn te lw hs h M oo ob tl :=
  ⟨x.fr, x.a, x.b, x.ways, x.en, x.news, ⟨_, x.hoo⟩, x.hob, x.tabl, x.apart, x.kinds, x.frames, x.fk, x.out⟩
theorem Kinds.more2 {tl' : List (Addr × Obj)} {l : Addr} {n m : Int} (x : Kinds tl l n m) (k : ∀ p ∈ tl, (∃ a n, p.2.data = .seq a n) → p ∈ tl') : Kinds tl' l n m := by
  obtain ⟨z, t, u, e, f⟩ := x
  refine ⟨z, t, u, e, fun p hp => k p (f p hp) ?_⟩
  simp only [kindsL, List.mem_cons, List.not_mem_nil, or_false] at hp
  rcases hp with rfl | rfl | rfl | rfl | rfl | rfl | rfl | rfl | rfl <;> exact ⟨_, _, rfl⟩
/-- the table's telling does not lean on an object of another kind -/
theorem TabL.away {d : Addr} {o : Obj} (x : TabL h₀ tab q tl) (N : News h₀ L h tl) (g : h.get? d = some o) (h1 : ∀ ps, o ≠ tabObj ps) (h2 : ∀ vs q t, o.data = .fields vs → vs[1]? ≠ some (.str q t)) : TabL h₀ tab q (tl.filter fun p => decide (p.1 ≠ d)) := by
  obtain ⟨ps, g1, t, f⟩ := x
  have same : ∀ p ∈ tl, p.1 = d → p.2 = o := fun p hp z => by
    have := (N p hp).1
    rw [z, g] at this
    exact (Option.some.inj this).symm
  refine ⟨ps, List.mem_filter.mpr ⟨g1, by simpa using fun z => h1 ps (same _ g1 z).symm⟩, t, fun pos cv e => ?_⟩
  obtain ⟨c, a, b, z⟩ := f pos cv e
  refine ⟨c, a, b, z.imp id fun ⟨oc, vs, u, g', d1, d2⟩ => ⟨oc, vs, u, List.mem_filter.mpr ⟨g', by
    simpa using fun z => by
      have := same _ g' z
      dsimp only at this
      subst this
      exact h2 vs q u d1 d2⟩, d1, d2⟩⟩
theorem Kinds.away {d : Addr} {o : Obj} {l : Addr} {n m : Int} (x : Kinds tl l n m) (N : News h₀ L h tl) (g : h.get? d = some o) (h1 : ∀ a n, o.data ≠ .seq a n) : Kinds (tl.filter fun p => decide (p.1 ≠ d)) l n m :=
  x.more2 fun p hp ⟨a, k, e⟩ => List.mem_filter.mpr ⟨hp, by
    simpa using fun z => by
      have := (N p hp).1
      rw [z, g] at this
      cases this
      exact h1 a k e⟩
theorem ns_move {a : Addr} {m : Str → Option Value} (x : h.Ns a m) (k : ∀ o, h.get? a = some o → h'.get? a = some o) : h'.Ns a m := by
  obtain ⟨o, es, ep, g, r⟩ := x
  exact ⟨o, es, ep, k _ g, r⟩
/-- to another heap that keeps what is told -/
theorem Ready.move (x : Ready w mean mg mb h₀ L outer n m bits ta tb tn te lw hs h M oo ob tl) (I : Addr) (k : ∀ b o, b ≠ I → h.get? b = some o → h'.get? b = some o) (h0 : h₀.get? I = none) (hL : L ≠ I) (h1 : L + 1 ≠ I) (h2 : L + 2 ≠ I) (ht : ∀ p ∈ tl, p.1 ≠ I) (hf : I ∉ frm outer) :
    Ready w mean mg mb h₀ L outer n m bits ta tb tn te lw hs h' M oo ob tl := by
  refine ⟨⟨ns_move x.fr.ns fun o e => k _ o hL e, fun b o e => k b o (fun z => by rw [z, h0] at e; cases e) (x.fr.keep b o e), x.fr.above⟩, x.a, x.b, x.ways, x.en, fun p hp => ?_, x.hoo, x.hob, x.tabl, x.apart, x.kinds, ?_, fun b o hm e => ?_, x.out⟩
  · refine ⟨k _ _ ?_ (x.news p hp).1, (x.news p hp).2⟩
    rcases List.mem_cons.mp hp with rfl | hp
    · exact h2
    · rcases List.mem_cons.mp hp with rfl | hp
      · exact h1
      · exact ht p hp
  · have go : ∀ l : List Env, I ∉ frm l → h.FunFrames h₀ l → h'.FunFrames h₀ l := fun l => by
      induction l with
      | nil => intro _ _; trivial
      | cons e l ih =>
        rintro hn ⟨a, ⟨b, o, hf, c, g, d⟩, r⟩
        have ee : frm (e :: l) = b :: frm l := by simp [frm, hf]
        rw [ee] at hn
        exact ⟨a, ⟨b, o, hf, c, k b o (fun z => hn (z ▸ .head _)) g, d⟩, ih (fun z => hn (.tail _ z)) r⟩
    exact go _ (fun z => by
      rcases (by simpa [frm, prEnv, envOfC] using z : I = L ∨ I ∈ frm outer) with z | z
      · exact hL z.symm
      · exact hf z) x.frames
  · obtain ⟨sl, g⟩ := x.fk b o hm e
    exact ⟨sl, k b _ (fun z => hf (z ▸ hm)) g⟩
theorem Ready.sub {tl' : List (Addr × Obj)} (x : Ready w mean mg mb h₀ L outer n m bits ta tb tn te lw hs h M oo ob tl) (k : ∀ p ∈ tl', p ∈ tl) (t : TabL h₀ 299 prQ tl') (y : Kinds tl' lw n m) : Ready w mean mg mb h₀ L outer n m bits ta tb tn te lw hs h M oo ob tl' := by
  have kk : ∀ p ∈ (L + 2, oo) :: (L + 1, ob) :: tl', p ∈ (L + 2, oo) :: (L + 1, ob) :: tl := fun p hp => by
    rcases List.mem_cons.mp hp with rfl | hp
    · exact .head _
    · rcases List.mem_cons.mp hp with rfl | hp
      · exact .tail _ (.head _)
      · exact .tail _ (.tail _ (k p hp))
  exact ⟨x.fr, x.a, x.b, x.ways, x.en, fun p hp => x.news p (kk p hp), x.hoo, x.hob, t, fun p hp => x.apart p (kk p hp), y, x.frames, x.fk, x.out⟩
/-- the loop's name is stored in its cell -/
theorem Ready.store {op : Value} (x : Ready w mean mg mb h₀ L outer n m bits ta tb tn te lw hs h M oo ob tl) (c : h'.IsCell (L + 2) (some op)) (sb : Heap.SameBut (L + 2) h h') :
    ∃ oo', Turn w mean mg mb h₀ L outer n m bits ta tb tn te lw op hs h' M oo' ob (tl.filter fun p => decide (p.1 ≠ L + 2)) := by
  obtain ⟨oo', g, d⟩ := c
  obtain ⟨v, hv⟩ := x.hoo
  have N := x.news
  have N' : News h₀ L h tl := fun p hp => N p (.tail _ (.tail _ hp))
  have g0 := (N _ (.head _)).1
  have F : Fr h₀ L h' M := ⟨ns_move x.fr.ns fun o e => (sb.2 L (Nat.ne_of_lt (Nat.lt_add_of_pos_right (by decide)))).trans e, fun b o e => (sb.2 b fun z => by rw [z, (N _ (.head _)).2.2] at e; cases e).trans (x.fr.keep b o e), x.fr.above⟩
  refine ⟨oo', F, x.a, x.b, x.ways, x.en, fun p hp => ?_, d, x.hob, x.tabl.away N' g0 (fun ps z => ?_) (fun vs q t z => ?_), fun p hp => ?_, x.kinds.away N' g0 (fun a k z => ?_), ?_, fun b o hm e => ?_, x.out⟩
  · rcases List.mem_cons.mp hp with rfl | hp
    · exact ⟨g, (N _ (.head _)).2⟩
    · rcases List.mem_cons.mp hp with rfl | hp
      · exact ⟨(sb.2 (L + 1) (Nat.ne_of_lt (Nat.lt_succ_self _))).trans (N _ (.tail _ (.head _))).1, (N _ (.tail _ (.head _))).2⟩
      · obtain ⟨hp, hn⟩ := List.mem_filter.mp hp
        exact ⟨(sb.2 p.1 (by simpa using hn)).trans (N' p hp).1, (N' p hp).2⟩
  · dsimp only at z; rw [z] at hv; cases hv
  · dsimp only at z; rw [z] at hv; cases hv
  · rcases List.mem_cons.mp hp with rfl | hp
    · exact x.apart (L + 2, oo) (.head _)
    · rcases List.mem_cons.mp hp with rfl | hp
      · exact x.apart _ (.tail _ (.head _))
      · exact x.apart _ (.tail _ (.tail _ (List.mem_filter.mp hp).1))
  · dsimp only at z; rw [z] at hv; cases hv
  · refine frames_keep (fun b o _ e nd => ?_) x.frames x.frames
    by_cases z : b = L + 2
    · exact ⟨oo', z ▸ g, fun vs q => by rw [d] at q; cases q⟩
    · exact ⟨o, (sb.2 b z).trans e, nd⟩
  · obtain ⟨sl, g'⟩ := x.fk b o hm e
    exact ⟨sl, (sb.2 b fun z => x.apart (L + 2, oo) (.head _) (z ▸ hm)).trans g'⟩
end
end
section
set_option maxHeartbeats 2000000
section
variable {w : World} {mean : ExcName → Option Value} {mg mb : Str → Option Value} {h₀ h h' hs : Heap} {L lw tab ax : Addr} {outer : List Env} {n m bits : Int} {ta tb tn te : Tok} {M : Str → Option Value} {oo ob : Obj} {tl : List (Addr × Obj)} {q : Str} {s : Shared} {dp un : Nat} {gd : Option (List Code)}
theorem pr_cell : (prEnv L).scope.kind = .function ∧ (prEnv L).kindOf "op" = some .cell ∧ (prEnv L).cells.lookup ("op" : Str) = some (L + 2) := ⟨by rfl, by rfl, by rfl⟩
/-- between two operations -/
inductive OpJ (w : World) (mean : ExcName → Option Value) (mg mb : Str → Option Value) (h₀ : Heap) (L : Addr) (outer : List Env) (n m bits : Int) (ta tb tn te : Tok) (lw : Addr) (hs : Heap) (ax I : Addr) (axo : Obj) (h : Heap) : Prop
  | mk (M : Str → Option Value) (oo ob : Obj) (tl : List (Addr × Obj)) (y : Ready w mean mg mb h₀ L outer n m bits ta tb tn te lw hs h M oo ob tl) (hm : (ax, axo) ∈ tl) (ht : ∀ p ∈ tl, p.1 ≠ I)
/-- the loops over the names of the operations -/
theorem ops_in {body : List Stmt} {p : Pos} {Q : Flow → Shared → Prop} {items : Array Value} {axo : Obj} {good : Str → Prop} (x : Ready w mean mg mb h₀ L outer n m bits ta tb tn te lw hs s.heap M oo ob tl) (hm : (ax, axo) ∈ tl) (hax : axo.cls = .type "tuple") (hax2 : ∃ k, axo.data = .seq items k)
    (hit : ∀ (i : Nat) (v : Value), items[i]? = some v → ∃ op to, v = .str op to ∧ good op)
    (hturn : ∀ (op : Str) (to : Tok) (s' : Shared) (M : Str → Option Value) (oo ob : Obj) (tl : List (Addr × Obj)), good op → Turn w mean mg mb h₀ L outer n m bits ta tb tn te lw (.str op to) hs s'.heap M oo ob tl →
      wpAny (model Pg w) (AA dp un (some (prEnv L :: outer)) gd) (execs body (prEnv L)) (TurnEnd w mean mg mb h₀ L outer n m bits ta tb tn te lw (.str op to) hs tl s') (fun _ _ => False) s')
    (fin : ∀ h' tk' M oo ob tl, Ready w mean mg mb h₀ L outer n m bits ta tb tn te lw hs h' M oo ob tl → Q .next { s with heap := h', toks := tk' }) :
    wpAny (model Pg w) (AA dp un (some (prEnv L :: outer)) gd) (pyIter (.ref ax)) (fun it s₂ => LoopIn Pg w (AA dp un (some (prEnv L :: outer)) gd) (prEnv L) (.Name "op" p) body Q (fun _ _ => False) it s₂) (fun _ _ => False) s := by
  obtain ⟨k0, hax2⟩ := hax2
  have gx := (x.news _ (.tail _ (.tail _ hm))).1
  refine wpAny_pyIter_tuple (items := items) ⟨_, gx, hax, _, hax2⟩ ?_
  have N0 := x.news
  have push : ∀ b o, s.heap.get? b = some o → (s.heap.push { cls := .type "tuple_iterator", data := .fields #[.ref ax, .int 0 0] }).get? b = some o := fun b o e => Heap.get?_push_of_some _ e
  have old : ∀ b o, s.heap.get? b = some o → b ≠ s.heap.objs.size := fun b o e => Nat.ne_of_lt (Heap.lt_size e)
  have hI0 : h₀.get? s.heap.objs.size = none := by
    cases z : h₀.get? s.heap.objs.size with
    | none => rfl
    | some o => exact absurd rfl (old _ _ (x.fr.keep _ _ z))
  have hL : L ≠ s.heap.objs.size := by obtain ⟨o, _, _, g, _⟩ := x.fr.ns; exact old _ _ g
  have h1 : L + 1 ≠ s.heap.objs.size := old _ _ (N0 _ (.tail _ (.head _))).1
  have h2 : L + 2 ≠ s.heap.objs.size := old _ _ (N0 _ (.head _)).1
  have ht : ∀ p ∈ tl, p.1 ≠ s.heap.objs.size := fun p hp => old _ _ (N0 p (.tail _ (.tail _ hp))).1
  have hf : s.heap.objs.size ∉ frm outer := fun z => by
    obtain ⟨_, o, g, _⟩ := x.frames.2.2.mem z
    exact absurd rfl (old _ _ g)
  have hxI : ax ≠ s.heap.objs.size := old _ _ gx
  have it0 : (s.heap.push { cls := .type "tuple_iterator", data := .fields #[.ref ax, .int 0 0] }).IsTupleIter s.heap.objs.size ax 0 := ⟨_, Heap.get?_push_size _ rfl, rfl, rfl⟩
  generalize s.heap.objs.size = I at *
  have x' := x.move (h' := s.heap.push { cls := .type "tuple_iterator", data := .fields #[.ref ax, .int 0 0] }) I (fun b o _ e => push b o e) hI0 hL h1 h2 ht hf
  generalize s.heap.push { cls := .type "tuple_iterator", data := .fields #[.ref ax, .int 0 0] } = h1' at *
  have st0 : h1'.IsTuple ax items := ⟨_, (x'.news _ (.tail _ (.tail _ hm))).1, hax, _, hax2⟩
  refine ⟨I, [I, ax], [I], items.size, _, _, fun _ h => OpJ w mean mg mb h₀ L outer n m bits ta tb tn te lw hs ax I axo h, rfl, Walks.tuple rfl I ax hxI items, fun i s' v Q' E' _ _ hq => ?_, ⟨it0, st0⟩, ⟨M, oo, ob, tl, x', hm, ht⟩, ?_, ?_, ?_⟩
  · exact wpAny_pure hq
  · rintro i h h' ⟨M, oo, ob, tl, y, hm, ht⟩ st k
    exact ⟨M, oo, ob, tl, y.move I (fun b o z e => k b o (by simpa using z) e) hI0 hL h1 h2 ht hf, hm, ht⟩
  · rintro i v h tk hi hv ⟨M, oo, ob, tl, y, hm, ht⟩ ⟨st, sx⟩
    obtain ⟨op, to, rfl, hg⟩ := hit i v hv
    obtain ⟨e1, e2, e3⟩ := pr_cell (L := L)
    obtain ⟨vo, hoo⟩ := y.hoo
    refine wpAny_assign_Name (wpAny_storeName_cell e1 e2 e3 ⟨oo, (y.news _ (.head _)).1, hoo⟩ fun h' c sb => ?_)
    obtain ⟨oo', t⟩ := y.store c sb
    have st' : h'.IsTupleIter I ax (i + 1) := let ⟨o, g, r⟩ := st; ⟨o, (sb.2 I (fun z => h2 z.symm)).trans g, r⟩
    obtain ⟨ito, gi, ci, di⟩ := id st'
    have I299 : I ≠ 299 := fun z => by
      obtain ⟨ps, g, _⟩ := t.tabl
      have := (t.news _ (.tail _ (.tail _ g))).1
      dsimp only at this
      rw [z, this] at gi; cases gi; cases ci
    have hx2 : (ax, axo) ∈ tl.filter fun p => decide (p.1 ≠ L + 2) := List.mem_filter.mpr ⟨hm, by
      simpa using fun z => by
        have e := (y.news _ (.tail _ (.tail _ hm))).1
        dsimp only at e
        rw [z, (y.news _ (.head _)).1] at e; cases e
        rw [hoo] at hax2; cases hax2⟩
    have hx3 : ax ≠ 299 := t.tabl.but (fun p hp => t.news p (.tail _ (.tail _ hp))) hx2 fun vs z => by rw [hax2] at z; cases z
    have t2 : Turn w mean mg mb h₀ L outer n m bits ta tb tn te lw (.str op to) hs h' M oo' ob ((I, ito) :: tl.filter fun p => decide (p.1 ≠ L + 2)) := by
      refine ⟨t.fr, t.a, t.b, t.ways, t.en, fun p hp => ?_, t.hoo, t.hob, t.tabl.more fun p hp => .tail _ hp, fun p hp => ?_, t.kinds.more fun p hp _ => .tail _ hp, t.frames, t.fk, t.out⟩
      · rcases List.mem_cons.mp hp with rfl | hp
        · exact t.news _ (.head _)
        · rcases List.mem_cons.mp hp with rfl | hp
          · exact t.news _ (.tail _ (.head _))
          · rcases List.mem_cons.mp hp with rfl | hp
            · exact ⟨gi, hL.symm, hI0⟩
            · exact t.news _ (.tail _ (.tail _ hp))
      · rcases List.mem_cons.mp hp with rfl | hp
        · exact t.apart (L + 2, oo') (.head _)
        · rcases List.mem_cons.mp hp with rfl | hp
          · exact t.apart (L + 1, ob) (.tail _ (.head _))
          · rcases List.mem_cons.mp hp with rfl | hp
            · exact hf
            · exact t.apart p (.tail _ (.tail _ hp))
    refine wpAny_mono (hturn op to { s with heap := h', toks := tk } M oo' ob _ hg t2) (fun f s₄ ⟨ef, h2', tk2, M2, oo2, ob2, tl2, es, t3, kt⟩ => ?_) fun _ _ e => e.elim
    subst ef es
    have gi2 := (t3.news _ (.tail _ (.tail _ (kt (I, ito) (.head _) I299)))).1
    have N3 : News h₀ L h2' tl2 := fun p hp => t3.news p (.tail _ (.tail _ hp))
    have hm2 := kt (ax, axo) (.tail _ hx2) hx3
    refine ⟨h2', tk2, rfl, ⟨M2, oo2, ob2, tl2.filter fun p => decide (p.1 ≠ I), t3.ready.sub (fun p hp => (List.mem_filter.mp hp).1) (t3.tabl.away N3 gi2 (fun ps z => ?_) fun vs q u z => ?_) (t3.kinds.away N3 gi2 fun a k z => ?_), List.mem_filter.mpr ⟨hm2, by simpa using hxI⟩, fun p hp => by simpa using (List.mem_filter.mp hp).2⟩, ⟨ito, gi2, ci, di⟩, ⟨axo, (N3 _ hm2).1, hax, _, hax2⟩⟩
    · dsimp only at z; rw [z] at ci; cases ci
    · dsimp only at z; rw [z] at di; cases di; exact fun q => nomatch q
    · dsimp only at z; rw [z] at di; cases di
  · rintro h tk ⟨M, oo, ob, tl, y, hm, ht⟩
    exact fin h tk M oo ob tl y
end
end
section
set_option maxHeartbeats 8000000
noncomputable abbrev biS : Scope := sScope (stm 44)
noncomputable abbrev biEnv (L : Addr) : Env := envOf "_law_bits" biS L 297 (.ref 296)
section
variable {w : World} {mean : ExcName → Option Value} {mg mb : Str → Option Value} {h₀ : Heap} {L I : Addr} {n m bits found at' : Int} {t0 ta tb tn tf tat : Tok} {op : Str} {M : Str → Option Value} {s : Shared} {dp un : Nat} {fr : Option (List Env)} {gd : Option (List Code)}
noncomputable def bitOf (n k : Int) : Int := (n.fdiv (2 ^ k.toNat)).fmod 2
noncomputable def bitF (op : Str) (x y : Int) : Int := if (op == "AND") = true then x * y else if (op == "OR") = true then max x y else if (op == "XOR") = true then (if x = y then 0 else 1) else if (op == "EQV") = true then (if x = y then 1 else 0) else max (1 - x) y
inductive BitEnd (h₀ : Heap) (L I : Addr) (n m bits : Int) (ta tb tn t0 : Tok) (op : Str) (ito : Obj) (v : Int) (s : Shared) (f : Flow) (s' : Shared) : Prop
  | mk (ef : f = .next) (h' : Heap) (tk' : Nat) (M' : Str → Option Value) (t : Tok) (es : s' = { s with heap := h', toks := tk' }) (F : Fr h₀ L h' M') (m1 : M' "a" = some (.int n ta)) (m2 : M' "b" = some (.int m tb)) (m3 : M' "op" = some (.str op t0)) (m4 : M' "bits" = some (.int bits tn)) (m5 : M' "found" = some (.int v t)) (N : News h₀ L h' [(I, ito)])
theorem fr_pin6 {h₀ h : Heap} {L : Addr} {m : Str → Option Value} {x y z r g k : Str} {v w u q p c : Value} (F : Fr h₀ L h m) (e : m x = some v) (e2 : m y = some w) (e3 : m z = some u) (e4 : m r = some q) (e5 : m g = some p) (e6 : m k = some c) : Fr h₀ L h (fun t => if t = x then some v else if t = y then some w else if t = z then some u else if t = r then some q else if t = g then some p else if t = k then some c else m t) :=
  fr_pin (fr_pin5 F e2 e3 e4 e5 e6) (pin_at (g := fun t => if t = z then some u else if t = r then some q else if t = g then some p else if t = k then some c else m t) e e2 (pin_at (g := fun t => if t = r then some q else if t = g then some p else if t = k then some c else m t) e e3 (pin_at (g := fun t => if t = g then some p else if t = k then some c else m t) e e4 (pin_at (g := fun t => if t = k then some c else m t) e e5 (pin_at e e6 e)))))
theorem bitF_AND {x y : Int} : bitF "AND" x y = x * y := by rfl
theorem bitF_OR {x y : Int} : bitF "OR" x y = max x y := by rfl
theorem bitF_XOR {x y : Int} : bitF "XOR" x y = (if x = y then 0 else 1) := by rfl
theorem bitF_EQV {x y : Int} : bitF "EQV" x y = (if x = y then 1 else 0) := by rfl
theorem bitF_IMP {x y : Int} : bitF "IMP" x y = max (1 - x) y := by rfl
theorem bit_end {op : Str} {ito : Obj} {v v' : Int} {s' : Shared} {h' : Heap} {tk' : Nat} {M' : Str → Option Value} {t : Tok} {news : List (Addr × Obj)} (hse : s' = { s with heap := h', toks := tk' }) (F : Fr h₀ L h' M') (m1 : M' "a" = some (.int n ta)) (m2 : M' "b" = some (.int m tb)) (m3 : M' "op" = some (.str op t0)) (m4 : M' "bits" = some (.int bits tn)) (m5 : M' "found" = some (.int v' t)) (N : News h₀ L h' news) (hm : (I, ito) ∈ news) (hv : v' = v) : BitEnd h₀ L I n m bits ta tb tn t0 op ito v s .next s' :=
  ⟨rfl, h', tk', M', t, hse, F, m1, m2, m3, m4, hv ▸ m5, fun p hp => N p (by rcases List.mem_cons.mp hp with rfl | hp; exact hm; cases hp)⟩
theorem bits_in {body : List Stmt} {scope : Scope} {Q : Flow → Shared → Prop} (hb : forB ((sBody (stm 44)).getD 1 (.Pass default)) = body) (hs : sScope (stm 44) = scope)
    (h : wpAny (model Pg w) (AA dp un fr gd) (execs body (envOf "_law_bits" scope L 297 (.ref 296))) Q (fun _ _ => False) s) :
    wpAny (model Pg w) (AA dp un fr gd) (execs (forB ((sBody (stm 44)).getD 1 (.Pass default))) (biEnv L)) Q (fun _ _ => False) s := by
  subst hb hs; exact h
theorem words7 : True := by
  (k_with "my k_steps" => repeat' (first | (k_unfold; (try dsimp only)) | ((with_reducible show wpAny _ _ (exec _ _) _ _ _); k_whole; k_fold) | ((with_reducible show (_ : Flow → Shared → Prop) _ _); k_unfold; (try dsimp only)) | ((with_reducible show (_ : Value → Shared → Prop) _ _); k_unfold; (try dsimp only)) | ((fail_if_success (with_reducible show wpAny _ _ (exec (Stmt.For _ _ _ _ _) _) _ _ _)); (fail_if_success (with_reducible show wpAny _ _ (eval (Expr.ListComp _ _ _ _) _) _ _ _)); (fail_if_success (with_reducible show wpAny _ _ (exec (Stmt.Assign _ (Expr.ListComp _ _ _ _) _) _) _ _ _)); walk1) | (dsimp only; k_unfold; (try dsimp only)) | (dsimp only; (fail_if_success (with_reducible show wpAny _ _ (exec (Stmt.For _ _ _ _ _) _) _ _ _)); (fail_if_success (with_reducible show wpAny _ _ (eval (Expr.ListComp _ _ _ _) _) _ _ _)); (fail_if_success (with_reducible show wpAny _ _ (exec (Stmt.Assign _ (Expr.ListComp _ _ _ _) _) _) _ _ _)); walk1) | fail "no step"))
  trivial
theorem bits_AND {ito : Obj} (F : Fr h₀ L s.heap M) (m1 : M "a" = some (.int n ta)) (m2 : M "b" = some (.int m tb)) (m3 : M "op" = some (.str "AND" t0)) (m4 : M "found" = some (.int found tf)) (m6 : M "bits" = some (.int bits tn)) (m5 : M "at" = some (.int at' tat)) (N : News h₀ L s.heap [(I, ito)]) (X : (K w.params).In h₀) (T : TopM mean mg mb h₀)
    (ha0 : 0 ≤ at') (ha1 : at' < 100) (hn : Sm n) (hm : Sm m) (hf : found.natAbs < 10 ^ 40) (hd : dp + 2 < recursionLimit) (hu : un + 40 < cLine) :
    wpAny (model Pg w) (AA dp un fr gd) (execs (forB ((sBody (stm 44)).getD 1 (.Pass default))) (biEnv L)) (BitEnd h₀ L I n m bits ta tb tn t0 "AND" ito (found + bitF "AND" (bitOf n at') (bitOf m at') * 2 ^ at'.toNat) s) (fun _ _ => False) s := by
  refine' bits_in ?hb ?hs ?_
  (case hb => (conv => lhs; whnf))
  (case hs => (conv => lhs; whnf))
  replace F := fr_pin6 F m1 m2 m3 m4 m5 m6
  try k_fold
  k_extra "my k_steps"
  all_goals first | (k_dflt (refine bit_end rfl (by k_asm) rfl rfl rfl rfl rfl (by k_asm) (by k_mem) ?_)) 
  all_goals rw [bitF_AND]
  all_goals first | exact rfl | (unfold bitOf; (try simp only [decide_eq_true_eq]); split <;> simp_all; done) | trace_state
theorem bits_OR {ito : Obj} (F : Fr h₀ L s.heap M) (m1 : M "a" = some (.int n ta)) (m2 : M "b" = some (.int m tb)) (m3 : M "op" = some (.str "OR" t0)) (m4 : M "found" = some (.int found tf)) (m6 : M "bits" = some (.int bits tn)) (m5 : M "at" = some (.int at' tat)) (N : News h₀ L s.heap [(I, ito)]) (X : (K w.params).In h₀) (T : TopM mean mg mb h₀)
    (ha0 : 0 ≤ at') (ha1 : at' < 100) (hn : Sm n) (hm : Sm m) (hf : found.natAbs < 10 ^ 40) (hd : dp + 2 < recursionLimit) (hu : un + 40 < cLine) :
    wpAny (model Pg w) (AA dp un fr gd) (execs (forB ((sBody (stm 44)).getD 1 (.Pass default))) (biEnv L)) (BitEnd h₀ L I n m bits ta tb tn t0 "OR" ito (found + bitF "OR" (bitOf n at') (bitOf m at') * 2 ^ at'.toNat) s) (fun _ _ => False) s := by
  refine' bits_in ?hb ?hs ?_
  (case hb => (conv => lhs; whnf))
  (case hs => (conv => lhs; whnf))
  replace F := fr_pin6 F m1 m2 m3 m4 m5 m6
  try k_fold
  k_extra "my k_steps"
  all_goals first | (k_dflt (refine bit_end rfl (by k_asm) rfl rfl rfl rfl rfl (by k_asm) (by k_mem) ?_)) 
  all_goals rw [bitF_OR]
  all_goals first | exact rfl | (unfold bitOf; (try simp only [decide_eq_true_eq]); split <;> simp_all; done) | trace_state
theorem bits_XOR {ito : Obj} (F : Fr h₀ L s.heap M) (m1 : M "a" = some (.int n ta)) (m2 : M "b" = some (.int m tb)) (m3 : M "op" = some (.str "XOR" t0)) (m4 : M "found" = some (.int found tf)) (m6 : M "bits" = some (.int bits tn)) (m5 : M "at" = some (.int at' tat)) (N : News h₀ L s.heap [(I, ito)]) (X : (K w.params).In h₀) (T : TopM mean mg mb h₀)
    (ha0 : 0 ≤ at') (ha1 : at' < 100) (hn : Sm n) (hm : Sm m) (hf : found.natAbs < 10 ^ 40) (hd : dp + 2 < recursionLimit) (hu : un + 40 < cLine) :
    wpAny (model Pg w) (AA dp un fr gd) (execs (forB ((sBody (stm 44)).getD 1 (.Pass default))) (biEnv L)) (BitEnd h₀ L I n m bits ta tb tn t0 "XOR" ito (found + bitF "XOR" (bitOf n at') (bitOf m at') * 2 ^ at'.toNat) s) (fun _ _ => False) s := by
  refine' bits_in ?hb ?hs ?_
  (case hb => (conv => lhs; whnf))
  (case hs => (conv => lhs; whnf))
  replace F := fr_pin6 F m1 m2 m3 m4 m5 m6
  try k_fold
  k_extra "my k_steps"
  all_goals first | (k_dflt (refine bit_end rfl (by k_asm) rfl rfl rfl rfl rfl (by k_asm) (by k_mem) ?_)) 
  all_goals rw [bitF_XOR]
  all_goals first | exact rfl | (unfold bitOf; (try simp only [decide_eq_true_eq]); split <;> simp_all; done) | trace_state
theorem bits_EQV {ito : Obj} (F : Fr h₀ L s.heap M) (m1 : M "a" = some (.int n ta)) (m2 : M "b" = some (.int m tb)) (m3 : M "op" = some (.str "EQV" t0)) (m4 : M "found" = some (.int found tf)) (m6 : M "bits" = some (.int bits tn)) (m5 : M "at" = some (.int at' tat)) (N : News h₀ L s.heap [(I, ito)]) (X : (K w.params).In h₀) (T : TopM mean mg mb h₀)
    (ha0 : 0 ≤ at') (ha1 : at' < 100) (hn : Sm n) (hm : Sm m) (hf : found.natAbs < 10 ^ 40) (hd : dp + 2 < recursionLimit) (hu : un + 40 < cLine) :
    wpAny (model Pg w) (AA dp un fr gd) (execs (forB ((sBody (stm 44)).getD 1 (.Pass default))) (biEnv L)) (BitEnd h₀ L I n m bits ta tb tn t0 "EQV" ito (found + bitF "EQV" (bitOf n at') (bitOf m at') * 2 ^ at'.toNat) s) (fun _ _ => False) s := by
  refine' bits_in ?hb ?hs ?_
  (case hb => (conv => lhs; whnf))
  (case hs => (conv => lhs; whnf))
  replace F := fr_pin6 F m1 m2 m3 m4 m5 m6
  try k_fold
  k_extra "my k_steps"
  all_goals first | (k_dflt (refine bit_end rfl (by k_asm) rfl rfl rfl rfl rfl (by k_asm) (by k_mem) ?_)) 
  all_goals rw [bitF_EQV]
  all_goals first | exact rfl | (unfold bitOf; (try simp only [decide_eq_true_eq]); split <;> simp_all; done) | trace_state
theorem bits_IMP {ito : Obj} (F : Fr h₀ L s.heap M) (m1 : M "a" = some (.int n ta)) (m2 : M "b" = some (.int m tb)) (m3 : M "op" = some (.str "IMP" t0)) (m4 : M "found" = some (.int found tf)) (m6 : M "bits" = some (.int bits tn)) (m5 : M "at" = some (.int at' tat)) (N : News h₀ L s.heap [(I, ito)]) (X : (K w.params).In h₀) (T : TopM mean mg mb h₀)
    (ha0 : 0 ≤ at') (ha1 : at' < 100) (hn : Sm n) (hm : Sm m) (hf : found.natAbs < 10 ^ 40) (hd : dp + 2 < recursionLimit) (hu : un + 40 < cLine) :
    wpAny (model Pg w) (AA dp un fr gd) (execs (forB ((sBody (stm 44)).getD 1 (.Pass default))) (biEnv L)) (BitEnd h₀ L I n m bits ta tb tn t0 "IMP" ito (found + bitF "IMP" (bitOf n at') (bitOf m at') * 2 ^ at'.toNat) s) (fun _ _ => False) s := by
  refine' bits_in ?hb ?hs ?_
  (case hb => (conv => lhs; whnf))
  (case hs => (conv => lhs; whnf))
  replace F := fr_pin6 F m1 m2 m3 m4 m5 m6
  try k_fold
  k_extra "my k_steps"
  all_goals first | (k_dflt (refine bit_end rfl (by k_asm) rfl rfl rfl rfl rfl (by k_asm) (by k_mem) ?_)) 
  all_goals rw [bitF_IMP]
  all_goals first | exact rfl | (unfold bitOf; (try simp only [decide_eq_true_eq]); split <;> simp_all; done) | trace_state
end
end
section
set_option maxHeartbeats 8000000
noncomputable def fiveOps : List Str := ["AND", "OR", "XOR", "EQV", "IMP"]
noncomputable def accB (op : Str) (n m : Int) : Nat → Int
  | 0 => 0
  | k + 1 => accB op n m k + bitF op (bitOf n k) (bitOf m k) * 2 ^ k
theorem bitOf_01 (n k : Int) : bitOf n k = 0 ∨ bitOf n k = 1 := by
  have h1 := Int.fmod_nonneg_of_pos (n.fdiv (2 ^ k.toNat)) (show (0 : Int) < 2 by decide)
  have h2 := Int.fmod_lt_of_pos (n.fdiv (2 ^ k.toNat)) (show (0 : Int) < 2 by decide)
  unfold bitOf; omega
theorem bitF_01 {op : Str} (h : op ∈ fiveOps) {x y : Int} (hx : x = 0 ∨ x = 1) (hy : y = 0 ∨ y = 1) : bitF op x y = 0 ∨ bitF op x y = 1 := by
  simp only [fiveOps, List.mem_cons, List.not_mem_nil, or_false] at h
  rcases h with rfl | rfl | rfl | rfl | rfl <;> rcases hx with rfl | rfl <;> rcases hy with rfl | rfl <;> simp only [bitF_AND, bitF_OR, bitF_XOR, bitF_EQV, bitF_IMP] <;> decide
theorem accB_lt {op : Str} (h : op ∈ fiveOps) (n m : Int) : ∀ k, 0 ≤ accB op n m k ∧ accB op n m k < 2 ^ k
  | 0 => ⟨Int.le_refl 0, by rw [show accB op n m 0 = 0 from rfl]; decide⟩
  | k + 1 => by
    obtain ⟨a, b⟩ := accB_lt h n m k
    have p : (0 : Int) < 2 ^ k := Int.pow_pos (by decide)
    rw [accB, Int.pow_succ]
    rcases bitF_01 h (bitOf_01 n k) (bitOf_01 m k) with e | e <;> rw [e] <;> omega
section
variable {w : World} {mean : ExcName → Option Value} {mg mb : Str → Option Value} {h₀ : Heap} {L I : Addr} {n m bits found at' : Int} {t0 ta tb tn tf tat t1 t2 t3 t4 : Tok} {op : Str} {M : Str → Option Value} {s : Shared} {dp un : Nat} {fr : Option (List Env)} {gd : Option (List Code)}
theorem bits_turn (hop : op ∈ fiveOps) {ito : Obj} (F : Fr h₀ L s.heap M) (m1 : M "a" = some (.int n ta)) (m2 : M "b" = some (.int m tb)) (m3 : M "op" = some (.str op t0)) (m4 : M "found" = some (.int found tf)) (m6 : M "bits" = some (.int bits tn)) (m5 : M "at" = some (.int at' tat)) (N : News h₀ L s.heap [(I, ito)]) (X : (K w.params).In h₀) (T : TopM mean mg mb h₀)
    (ha0 : 0 ≤ at') (ha1 : at' < 100) (hn : Sm n) (hm : Sm m) (hf : found.natAbs < 10 ^ 40) (hd : dp + 2 < recursionLimit) (hu : un + 40 < cLine) :
    wpAny (model Pg w) (AA dp un fr gd) (execs (forB ((sBody (stm 44)).getD 1 (.Pass default))) (biEnv L)) (BitEnd h₀ L I n m bits ta tb tn t0 op ito (found + bitF op (bitOf n at') (bitOf m at') * 2 ^ at'.toNat) s) (fun _ _ => False) s := by
  simp only [fiveOps, List.mem_cons, List.not_mem_nil, or_false] at hop
  rcases hop with rfl | rfl | rfl | rfl | rfl
  · exact bits_AND F m1 m2 m3 m4 m6 m5 N X T ha0 ha1 hn hm hf hd hu
  · exact bits_OR F m1 m2 m3 m4 m6 m5 N X T ha0 ha1 hn hm hf hd hu
  · exact bits_XOR F m1 m2 m3 m4 m6 m5 N X T ha0 ha1 hn hm hf hd hu
  · exact bits_EQV F m1 m2 m3 m4 m6 m5 N X T ha0 ha1 hn hm hf hd hu
  · exact bits_IMP F m1 m2 m3 m4 m6 m5 N X T ha0 ha1 hn hm hf hd hu
noncomputable def bitsV (op : Str) (n m b : Int) : Int := if 2 ^ (b - 1).toNat ≤ accB op n m b.toNat then accB op n m b.toNat - 2 ^ b.toNat else accB op n m b.toNat
theorem ns_move' {h h' : Heap} {a : Addr} {m : Str → Option Value} (x : h.Ns a m) (k : ∀ o, h.get? a = some o → h'.get? a = some o) : h'.Ns a m := by
  obtain ⟨o, es, ep, g, r⟩ := x
  exact ⟨o, es, ep, k _ g, r⟩
theorem rng_ok {b : Int} (h1 : 4 ≤ b) (h2 : b ≤ 16) : Builtin.Range.small 0 b 1 = true ∧ Builtin.Range.rangeSize 0 b 1 = b := by
  have h : ∀ k : Fin 13, Builtin.Range.small 0 (4 + (k.val : Int)) 1 = true ∧ Builtin.Range.rangeSize 0 (4 + (k.val : Int)) 1 = 4 + (k.val : Int) := by decide +kernel
  have := h ⟨(b - 4).toNat, by omega⟩
  rwa [show (4 + (((b - 4).toNat : Nat) : Int)) = b by omega] at this
theorem bits_loop {p : Pos} {Q : Flow → Shared → Prop} {r : Addr} {u v t : Tok} (hop : op ∈ fiveOps) (F : Fr h₀ L s.heap M) (m1 : M "a" = some (.int n ta)) (m2 : M "b" = some (.int m tb)) (m3 : M "op" = some (.str op t0)) (m4 : M "found" = some (.int 0 tf)) (m6 : M "bits" = some (.int bits tn)) (X : (K w.params).In h₀) (T : TopM mean mg mb h₀)
    (hr : IsRange s.heap r 0 bits 1 t u v) (hb : 4 ≤ bits) (hb2 : bits ≤ 16) (hn : Sm n) (hm : Sm m) (hd : dp + 2 < recursionLimit) (hu : un + 40 < cLine)
    (fin : ∀ h' tk' M' t', Fr h₀ L h' M' → M' "a" = some (.int n ta) → M' "b" = some (.int m tb) → M' "op" = some (.str op t0) → M' "bits" = some (.int bits tn) → M' "found" = some (.int (accB op n m bits.toNat) t') → Q .next { s with heap := h', toks := tk' }) :
    wpAny (model Pg w) (AA dp un fr gd) (pyIter (.ref r)) (fun it s₂ => LoopIn Pg w (AA dp un fr gd) (biEnv L) (.Name "at" p) (forB ((sBody (stm 44)).getD 1 (.Pass default))) Q (fun _ _ => False) it s₂) (fun _ _ => False) s := by
  obtain ⟨hs, hz⟩ := rng_ok hb hb2
  refine wpAny_pyIter_range hr hs ?_
  rw [hz]
  have old : ∀ b o, s.heap.get? b = some o → b ≠ s.heap.objs.size := fun b o e => Nat.ne_of_lt (Heap.lt_size e)
  have hI0 : h₀.get? s.heap.objs.size = none := by
    cases z : h₀.get? s.heap.objs.size with
    | none => rfl
    | some o => exact absurd rfl (old _ _ (F.keep _ _ z))
  have hL : L ≠ s.heap.objs.size := by obtain ⟨o, _, _, g, _⟩ := F.ns; exact old _ _ g
  have F1 := F.push { cls := .type "range_iterator", data := .fields #[rawInt 0, rawInt bits, rawInt 1] }
  have it0 : IsRangeIter (s.heap.push { cls := .type "range_iterator", data := .fields #[rawInt 0, rawInt bits, rawInt 1] }) s.heap.objs.size (0 + (0 : Nat) * 1) ((bits.toNat : Int) - (0 : Nat)) 1 := by
    rw [show (0 : Int) + (0 : Nat) * 1 = 0 by rfl, show (bits.toNat : Int) - (0 : Nat) = bits by omega]
    exact Heap.get?_push_size _ rfl
  generalize s.heap.objs.size = I at *
  generalize s.heap.push { cls := .type "range_iterator", data := .fields #[rawInt 0, rawInt bits, rawInt 1] } = h1' at *
  refine ⟨I, [I], [I], bits.toNat, _, _, fun i h => ∃ M' t', Fr h₀ L h M' ∧ M' "a" = some (.int n ta) ∧ M' "b" = some (.int m tb) ∧ M' "op" = some (.str op t0) ∧ M' "bits" = some (.int bits tn) ∧ M' "found" = some (.int (accB op n m i) t'), rfl, Walks.range rfl I 0 1 bits.toNat, fun i s' v Q' E' _ _ hq => ?_, it0, ⟨M, tf, F1, m1, m2, m3, m6, m4⟩, ?_, ?_, ?_⟩
  · exact wpAny_pure hq
  · rintro i h h' ⟨M', t', F', r⟩ _ k
    exact ⟨M', t', ⟨ns_move' F'.ns fun o e => k _ o (by simpa using hL) e, fun b o e => k b o (by simpa using fun z => by rw [z, hI0] at e; cases e) (F'.keep b o e), F'.above⟩, r⟩
  · rintro i v h tk hi ⟨tv, rfl⟩ ⟨M', t', F', x1, x2, x3, x4, x5⟩ st
    refine wpAny_assign_Name (wpAny_storeName_local (by rfl) F'.ns (fun h₂ n₂ s₂ => ?_) (by rfl))
    have F2 := F'.set n₂ s₂
    have gi : h₂.get? I = _ := (s₂.2 I hL.symm).trans st
    have N2 : News h₀ L h₂ [(I, _)] := fun p hp => by
      rcases List.mem_cons.mp hp with rfl | hp
      · exact ⟨gi, hL.symm, hI0⟩
      · cases hp
    obtain ⟨y1, y2⟩ := accB_lt hop n m i
    have y3 : accB op n m i < 2 ^ 16 := by
      have : (2 : Int) ^ i ≤ 2 ^ 16 := by
        have : (2 : Nat) ^ i ≤ 2 ^ 16 := Nat.pow_le_pow_right (by decide) (by omega)
        exact_mod_cast this
      omega
    have tt := bits_turn (fr := fr) (gd := gd) (s := { s with heap := h₂, toks := tk + 1 }) (at' := 0 + (i : Int) * 1) hop F2 ((if_neg (by decide)).trans x1) ((if_neg (by decide)).trans x2) ((if_neg (by decide)).trans x3) ((if_neg (by decide)).trans x5) ((if_neg (by decide)).trans x4) (if_pos rfl) N2 X T (by omega) (by omega) hn hm (by omega) hd hu
    refine wpAny_mono tt (fun f s₄ y => ?_) (fun _ _ e => False.elim e)
    obtain ⟨ef, h3, tk3, M3, t3, es, F3, z1, z2, z3, z4, z5, N3⟩ := y
    subst ef es
    refine ⟨h3, tk3, rfl, ⟨M3, t3, F3, z1, z2, z3, z4, ?_⟩, (N3 _ (.head _)).1⟩
    rw [z5, show (0 : Int) + (i : Int) * 1 = i by omega, Int.toNat_natCast]; rfl
  · rintro h tk ⟨M', t', F', x1, x2, x3, x4, x5⟩
    exact fin h tk M' t' F' x1 x2 x3 x4 x5
theorem nil_of {h : Heap} (F : Fr h₀ L h M) : News h₀ L h [] := News.nil
theorem words8 : True := by
  (k_with "my k_steps" => repeat' (first | (k_unfold; (try dsimp only)) | ((with_reducible show wpAny _ _ (exec _ _) _ _ _); k_whole; k_fold) | ((with_reducible show (_ : Flow → Shared → Prop) _ _); k_unfold; (try dsimp only)) | ((with_reducible show (_ : Value → Shared → Prop) _ _); k_unfold; (try dsimp only)) | ((fail_if_success (with_reducible show wpAny _ _ (exec (Stmt.For _ _ _ _ _) _) _ _ _)); (fail_if_success (with_reducible show wpAny _ _ (eval (Expr.ListComp _ _ _ _) _) _ _ _)); (fail_if_success (with_reducible show wpAny _ _ (exec (Stmt.Assign _ (Expr.ListComp _ _ _ _) _) _) _ _ _)); (fail_if_success (with_reducible show wpAny _ _ (pyIter _) _ _ _)); walk1) | (dsimp only; k_unfold; (try dsimp only)) | (dsimp only; (fail_if_success (with_reducible show wpAny _ _ (exec (Stmt.For _ _ _ _ _) _) _ _ _)); (fail_if_success (with_reducible show wpAny _ _ (eval (Expr.ListComp _ _ _ _) _) _ _ _)); (fail_if_success (with_reducible show wpAny _ _ (exec (Stmt.Assign _ (Expr.ListComp _ _ _ _) _) _) _ _ _)); (fail_if_success (with_reducible show wpAny _ _ (pyIter _) _ _ _)); walk1) | fail "no step"))
  trivial
theorem bits_c (hop : op ∈ fiveOps) : Con w mean mg mb 297 [.str op t1, .int n t2, .int m t3, .int bits t4] 4 64 (fun _ => n.natAbs < 10 ^ 5 ∧ m.natAbs < 10 ^ 5 ∧ 4 ≤ bits ∧ bits ≤ 16) (OutT (lawDec (bitsV op n m bits))) := by
  intro dp un fr gd s Q E X T ⟨hn, hm, hb1, hb2⟩ hd hu hret
  k_extra "my ktr_enter"
  k_extra "my k_steps"
  refine for_walks ?h (fun _ => rfl) passes_false
  k_extra "my k_steps"
  have hsn : Sm n := Sm.le (k := 5) (Nat.le_of_lt hn) (by decide)
  have hsm : Sm m := Sm.le (k := 5) (Nat.le_of_lt hm) (by decide)
  refine' bits_loop hop ?zF ?z1 ?z2 ?z3 ?z4 ?z5 ?zX ?zT ?zr hb1 hb2 hsn hsm ?zd ?zu ?zfin
  case zF => k_asm
  case z1 => exact rfl
  case z2 => exact rfl
  case z3 => exact rfl
  case z4 => exact rfl
  case z5 => exact rfl
  case zX => assumption
  case zT => assumption
  case zr => first | assumption | exact News.get (by k_asm) (by k_mem) | trace_state
  case zd => k_extra "my ktr_room"
  case zu => k_extra "my ktr_room"
  case zfin =>
    intro h' tk' M' t' F' m1 m2 m3 m4 m5
    obtain ⟨b1, b2⟩ := accB_lt hop n m bits.toNat
    have b3 : accB op n m bits.toNat < 2 ^ 16 := by
      have : (2 : Int) ^ bits.toNat ≤ 2 ^ 16 := by
        have : (2 : Nat) ^ bits.toNat ≤ 2 ^ 16 := Nat.pow_le_pow_right (by decide) (by omega)
        exact_mod_cast this
      omega
    have b4 : (2 : Int) ^ bits.toNat ≤ 2 ^ 16 := by
        have : (2 : Nat) ^ bits.toNat ≤ 2 ^ 16 := Nat.pow_le_pow_right (by decide) (by omega)
        exact_mod_cast this
    have b5 : (0 : Int) < 2 ^ bits.toNat := Int.pow_pos (by decide)
    replace F' := fr_pin5 F' m1 m2 m3 m4 m5
    have N' := nil_of F'
    k_extra "my k_steps"
    all_goals (show Q _ _; refine hret _ _ _ (Fr.keep (by assumption)) (outT_of (by assumption) (by k_mem) ?_); unfold bitsV)
    · rw [if_pos (by omega)]
    · rw [if_neg (by omega)]
end
end
section
set_option maxHeartbeats 2000000
theorem and_step (a b : Nat) : a &&& b = 2 * (a / 2 &&& b / 2) + (if a % 2 = 1 ∧ b % 2 = 1 then 1 else 0) := by
  have h1 := @Nat.and_div_two a b
  have h2 := @Nat.and_mod_two_eq_one a b
  rw [← h1]
  split <;> rename_i h
  · have := h2.mpr h; omega
  · have : ¬ (a &&& b) % 2 = 1 := fun z => h (h2.mp z)
    omega
noncomputable def Stp (n m : Int) : Prop := Builtin.bitAnd n m = 2 * Builtin.bitAnd (n / 2) (m / 2) + (if n % 2 = 1 ∧ m % 2 = 1 then 1 else 0)
theorem par_p {n : Int} (h : 0 ≤ n) : (n.toNat % 2 = 1) = (n % 2 = 1) := by
  obtain ⟨k, rfl⟩ := Int.eq_ofNat_of_zero_le h
  exact propext ⟨fun q => congrArg Int.ofNat q, fun q => Int.ofNat.inj q⟩
theorem half_p {n : Int} (h : 0 ≤ n) : (n / 2).toNat = n.toNat / 2 := by
  obtain ⟨k, rfl⟩ := Int.eq_ofNat_of_zero_le h
  rfl
theorem half0 {n : Int} (h : 0 ≤ n) : 0 ≤ n / 2 := Int.ediv_nonneg h (by decide)
theorem stp_pp {n m : Int} (hn : 0 ≤ n) (hm : 0 ≤ m) : Stp n m := by
  unfold Stp
  rw [bitAnd_pp hn hm, bitAnd_pp (half0 hn) (half0 hm), and_step, half_p hn, half_p hm]
  simp only [par_p hn, par_p hm]
  split <;> rfl
theorem stp_comm {n m : Int} (h : Stp n m) : Stp m n := by
  unfold Stp at *
  rw [bitAnd_comm m n, bitAnd_comm (m / 2), h]
  simp only [and_comm]
theorem stp_not {n m : Int} (h : Stp n m) : Stp n (Builtin.bitNot m) := by
  unfold Stp at *
  have e1 : Builtin.bitNot m / 2 = Builtin.bitNot (m / 2) := by unfold Builtin.bitNot; omega
  have e2 : (Builtin.bitNot m % 2 = 1) = ¬ (m % 2 = 1) := by unfold Builtin.bitNot; apply propext; omega
  have e3 : n = 2 * (n / 2) + n % 2 := (Int.mul_ediv_add_emod n 2).symm
  rw [e1, bitAnd_not, bitAnd_not, h]
  simp only [e2]
  generalize Builtin.bitAnd (n / 2) (m / 2) = A at *
  clear h e1 e2
  rcases Int.emod_two_eq n with x | x <;> simp only [x, true_and, false_and, if_false, show ((0 : Int) = 1) = False by decide] at * <;> generalize n / 2 = k at *
  · omega
  · split <;> rename_i q <;> (try simp only [q, not_true, not_false_eq_true, if_true, if_false]) <;> omega
theorem bit_step (n m : Int) : Builtin.bitAnd n m = 2 * Builtin.bitAnd (n / 2) (m / 2) + (if n % 2 = 1 ∧ m % 2 = 1 then 1 else 0) := by
  have pn : ∀ {n m : Int}, 0 ≤ n → Stp n m := fun {n m} hn => by
    by_cases hm : 0 ≤ m
    · exact stp_pp hn hm
    · have := stp_not (stp_pp hn (bitNot_nonneg.mpr hm))
      rwa [bitNot_bitNot] at this
  by_cases hn : 0 ≤ n
  · exact pn hn
  · have := stp_not (stp_comm (pn (m := m) (bitNot_nonneg.mpr hn)))
    rw [bitNot_bitNot] at this
    exact stp_comm this
theorem opW_AND {n m : Int} : opW "AND" n m = Builtin.bitAnd n m := by rfl
theorem opW_OR {n m : Int} : opW "OR" n m = n + m - Builtin.bitAnd n m := by rw [← bitOr_and]; rfl
theorem opW_XOR {n m : Int} : opW "XOR" n m = n + m - 2 * Builtin.bitAnd n m := by rw [← bitXor_and]; rfl
theorem opW_EQV {n m : Int} : opW "EQV" n m = -1 - (n + m - 2 * Builtin.bitAnd n m) := by rw [← bitXor_and]; rfl
theorem opW_IMP {n m : Int} : opW "IMP" n m = -1 - n + Builtin.bitAnd n m := by
  have h1 : opW "IMP" n m = Builtin.bitOr (-1 - n) m := by rfl
  have h2 := bitAnd_not m n
  rw [h1, bitOr_and, show -1 - n = Builtin.bitNot n by unfold Builtin.bitNot; omega, bitAnd_comm, h2, bitAnd_comm m n]
  unfold Builtin.bitNot; omega
theorem bitF_lin {x y : Int} (hx : x = 0 ∨ x = 1) (hy : y = 0 ∨ y = 1) : bitF "AND" x y = (if x = 1 ∧ y = 1 then 1 else 0) ∧ bitF "OR" x y = x + y - (if x = 1 ∧ y = 1 then 1 else 0) ∧ bitF "XOR" x y = x + y - 2 * (if x = 1 ∧ y = 1 then 1 else 0) ∧ bitF "EQV" x y = 1 - x - y + 2 * (if x = 1 ∧ y = 1 then 1 else 0) ∧ bitF "IMP" x y = 1 - x + (if x = 1 ∧ y = 1 then 1 else 0) := by
  rcases hx with rfl | rfl <;> rcases hy with rfl | rfl <;> decide +kernel
theorem opW_step {op : Str} (h : op ∈ fiveOps) (n m : Int) : opW op n m = 2 * opW op (n / 2) (m / 2) + bitF op (n % 2) (m % 2) := by
  have hb := bit_step n m
  have hn : n = 2 * (n / 2) + n % 2 := (Int.mul_ediv_add_emod n 2).symm
  have hm : m = 2 * (m / 2) + m % 2 := (Int.mul_ediv_add_emod m 2).symm
  obtain ⟨f1, f2, f3, f4, f5⟩ := bitF_lin (Int.emod_two_eq n) (Int.emod_two_eq m)
  simp only [fiveOps, List.mem_cons, List.not_mem_nil, or_false] at h
  rcases h with rfl | rfl | rfl | rfl | rfl <;> simp only [opW_AND, opW_OR, opW_XOR, opW_EQV, opW_IMP, f1, f2, f3, f4, f5] <;> rw [hb] <;> clear hb f1 f2 f3 f4 f5 <;> generalize Builtin.bitAnd (n / 2) (m / 2) = A <;> generalize (if n % 2 = 1 ∧ m % 2 = 1 then (1 : Int) else 0) = c <;> generalize n / 2 = n', n % 2 = x at * <;> generalize m / 2 = m', m % 2 = y at * <;> first | rfl | omega
theorem fdiv_pow (n : Int) (k : Nat) : n.fdiv (2 ^ ((k : Int)).toNat) = n / 2 ^ k := by
  rw [Int.toNat_natCast, Int.fdiv_eq_ediv_of_nonneg _ (Int.le_of_lt (Int.pow_pos (by decide)))]
theorem bitOf_eq (n : Int) (k : Nat) : bitOf n k = n / 2 ^ k % 2 := by
  unfold bitOf
  rw [fdiv_pow, Int.fmod_eq_emod_of_nonneg _ (by decide)]
theorem opW_acc {op : Str} (h : op ∈ fiveOps) (n m : Int) : ∀ k, opW op n m = accB op n m k + 2 ^ k * opW op (n / 2 ^ k) (m / 2 ^ k)
  | 0 => by simp [accB]
  | k + 1 => by
    have e := opW_acc h n m k
    have s := opW_step h (n / 2 ^ k) (m / 2 ^ k)
    rw [Int.ediv_ediv_of_nonneg (Int.le_of_lt (Int.pow_pos (by decide))), Int.ediv_ediv_of_nonneg (Int.le_of_lt (Int.pow_pos (by decide))), ← Int.pow_succ] at s
    rw [accB, bitOf_eq, bitOf_eq, e, s, Int.pow_succ, Int.mul_add]
    generalize opW op (n / (2 ^ k * 2)) (m / (2 ^ k * 2)) = A
    generalize bitF op (n / 2 ^ k % 2) (m / 2 ^ k % 2) = B
    generalize (2 : Int) ^ k = C
    rw [show C * (2 * A) = C * 2 * A by rw [Int.mul_assoc], Int.mul_comm C B]
    omega
theorem opW_ends {op : Str} (h : op ∈ fiveOps) {x y : Int} (hx : x = 0 ∨ x = -1) (hy : y = 0 ∨ y = -1) : opW op x y = 0 ∨ opW op x y = -1 := by
  simp only [fiveOps, List.mem_cons, List.not_mem_nil, or_false] at h
  rcases h with rfl | rfl | rfl | rfl | rfl <;> rcases hx with rfl | rfl <;> rcases hy with rfl | rfl <;> decide +kernel
theorem fit_div {n b : Int} (h : fitsB n b = true) (hb : 1 ≤ b) : (n / 2 ^ (b - 1).toNat = 0 ∨ n / 2 ^ (b - 1).toNat = -1) ∧ n / 2 ^ b.toNat = n / 2 ^ (b - 1).toNat := by
  unfold fitsB at h
  obtain ⟨h1, h2⟩ := of_decide_eq_true h
  have e : (2 : Int) ^ b.toNat = 2 ^ (b - 1).toNat * 2 := by rw [← Int.pow_succ]; congr 1; omega
  have p : (0 : Int) < 2 ^ (b - 1).toNat := Int.pow_pos (by decide)
  have c : n / 2 ^ (b - 1).toNat = 0 ∨ n / 2 ^ (b - 1).toNat = -1 := by
    have a1 : -1 ≤ n / 2 ^ (b - 1).toNat := Int.le_ediv_of_mul_le p (by omega)
    have a2 : n / 2 ^ (b - 1).toNat < 1 := Int.ediv_lt_of_lt_mul p (by omega)
    omega
  refine ⟨c, ?_⟩
  rw [e, ← Int.ediv_ediv_of_nonneg (Int.le_of_lt p)]
  omega
theorem bits_law {op : Str} (h : op ∈ fiveOps) {n m b : Int} (hn : fitsB n b = true) (hm : fitsB m b = true) (hb : 1 ≤ b) : bitsV op n m b = opW op n m := by
  obtain ⟨n1, n2⟩ := fit_div hn hb
  obtain ⟨m1, m2⟩ := fit_div hm hb
  have e1 := opW_acc h n m (b - 1).toNat
  have e2 := opW_acc h n m b.toNat
  rw [n2, m2] at e2
  obtain ⟨a1, a2⟩ := accB_lt h n m (b - 1).toNat
  have e : (2 : Int) ^ b.toNat = 2 * 2 ^ (b - 1).toNat := by rw [Int.mul_comm, ← Int.pow_succ]; congr 1; omega
  unfold bitsV
  rcases opW_ends h n1 m1 with z | z <;> rw [z] at e1 e2 <;> split <;> rename_i q <;> omega
end
section
section
set_option maxHeartbeats 8000000
section
variable {w : World} {mean : ExcName → Option Value} {mg mb : Str → Option Value} {h₀ : Heap} {L lw : Addr} {outer : List Env} {n m bits : Int} {ta tb tn te : Tok} {op : Str} {to : Tok} {M : Str → Option Value} {hs : Heap} {oo ob : Obj} {tl : List (Addr × Obj)} {s : Shared} {dp un : Nat} {gd : Option (List Code)}
theorem turnA_in {body : List Stmt} {scope : Scope} {Q : Flow → Shared → Prop} (hb : forB ((sBody (stm 45)).getD 1 (.Pass default)) = body) (hs : sScope (stm 45) = scope) (FF : s.heap.FunFrames h₀ (prEnv L :: outer))
    (h : s.heap.FunFrames h₀ (envOfC "_law_pair_right" scope L 302 (.ref 301) :: outer) → wpAny (model Pg w) (AA dp un (some (envOfC "_law_pair_right" scope L 302 (.ref 301) :: outer)) gd) (execs body (envOfC "_law_pair_right" scope L 302 (.ref 301))) Q (fun _ _ => False) s) :
    wpAny (model Pg w) (AA dp un (some (prEnv L :: outer)) gd) (execs (forB ((sBody (stm 45)).getD 1 (.Pass default))) (prEnv L)) Q (fun _ _ => False) s := by
  subst hb hs; exact h FF
theorem pt_o {p : Int × Int} {h : Heap} (h₁ h' : Heap) (v : Value) (k : ∀ b, h.get? b ≠ none → h₁.get? b ≠ none) (x : isPf true h₁ h' p v) : PT h p h' v := by
  obtain ⟨a, t, u, e, i, f⟩ := x
  refine ⟨a, t, u, e, i, fun _ => ?_⟩
  cases z : h.get? a with
  | none => rfl
  | some o => exact absurd (f rfl) (k a (by rw [z]; exact fun q => nomatch q))
theorem news_tl {h : Heap} {x : Addr × Obj} {l : List (Addr × Obj)} (N : News h₀ L h (x :: l)) : News h₀ L h l := fun p hp => N p (.tail _ hp)
theorem turn_end {h' : Heap} {tk' : Nat} {M' : Str → Option Value} {tl' fe : List (Addr × Obj)} {opv : Value} {s' : Shared} (hse : s' = { s with heap := h', toks := tk' }) (F : Fr h₀ L h' M') (m1 : M' "a" = some (.int n ta)) (m2 : M' "b" = some (.int m tb)) (m3 : M' "ways" = some (.ref lw)) (m4 : M' "end" = some (.int (2 ^ (bits - 1).toNat) te))
    (N : News h₀ L h' ((L + 2, oo) :: (L + 1, ob) :: (tl' ++ fe))) (hoo : oo.data = .cell (some opv)) (hob : ob.data = .cell (some (.int bits tn))) (tabl : TabL h₀ 299 prQ tl') (apart : Apart outer ((L + 2, oo) :: (L + 1, ob) :: tl')) (kinds : Kinds tl' lw n m) (kt : ∀ p ∈ tl, p.1 ≠ 299 → p ∈ tl')
    (kf : ∀ h'', News h₀ L h'' (tl' ++ fe) → h''.FunFrames h₀ outer ∧ FrmUp outer s.heap h'') (fk : FrmUp outer hs s.heap) (hout : L ∉ frm outer) : TurnEnd w mean mg mb h₀ L outer n m bits ta tb tn te lw opv hs tl s .next s' := by
  refine ⟨rfl, h', tk', M', oo, ob, tl', hse, ⟨F, m1, m2, m3, m4, fun p hp => ?_, hoo, hob, tabl, apart, kinds, ⟨?_, ?_, (kf h' (news_tl (news_tl N))).1⟩, fk.trans (kf h' (news_tl (news_tl N))).2, hout⟩, kt⟩
  · rcases List.mem_cons.mp hp with rfl | hp
    · exact N _ (.head _)
    · rcases List.mem_cons.mp hp with rfl | hp
      · exact N _ (.tail _ (.head _))
      · exact N _ (.tail _ (.tail _ (List.mem_append_left _ hp)))
  · exact fun z => nomatch (show NameKind.local = NameKind.local → False from fun _ => by
      have : (prEnv L).scope.kind = .function := by rfl
      rw [this] at z; cases z) rfl
  · obtain ⟨o, es, ep, g, d, _⟩ := F.ns
    exact ⟨L, o, rfl, by
      cases z : h₀.get? L with
      | none => rfl
      | some o' => exact absurd (Heap.lt_size z) (Nat.not_lt.mpr F.above), g, fun vs q => by rw [d] at q; cases q⟩
theorem words9 : True := by
  (k_with "my k_steps" => repeat' (first | (k_unfold; (try dsimp only)) | ((with_reducible show wpAny _ _ (exec _ _) _ _ _); k_whole; k_fold) | ((with_reducible show (_ : Flow → Shared → Prop) _ _); k_unfold; (try dsimp only)) | ((with_reducible show (_ : Value → Shared → Prop) _ _); k_unfold; (try dsimp only)) | ((fail_if_success (with_reducible show wpAny _ _ (exec (Stmt.For _ _ _ _ _) _) _ _ _)); (fail_if_success (with_reducible show wpAny _ _ (eval (Expr.ListComp _ _ _ _) _) _ _ _)); (fail_if_success (with_reducible show wpAny _ _ (exec (Stmt.Assign _ (Expr.ListComp _ _ _ _) _) _) _ _ _)); walk1) | (dsimp only; k_unfold; (try dsimp only)) | (dsimp only; (fail_if_success (with_reducible show wpAny _ _ (exec (Stmt.For _ _ _ _ _) _) _ _ _)); (fail_if_success (with_reducible show wpAny _ _ (eval (Expr.ListComp _ _ _ _) _) _ _ _)); (fail_if_success (with_reducible show wpAny _ _ (exec (Stmt.Assign _ (Expr.ListComp _ _ _ _) _) _) _ _ _)); walk1) | fail "no step"))
  (k_with "call ref" => (k_here; k_dflt (refine' Con.useI ?zC_k9 ?zF ?zN ?zX ?zT ?zp ?zd ?zu ?_; (case zC_k9 => first | exact hDue _ _ _ | exact hVal _ _ _ _ _); k_extra "my cz"; (case zp => trivial); (case zd => k_extra "my ktr_room"); (case zu => k_extra "my ktr_room")); intro t9 h9 tk9 F9 N9))
  (k_with "call ref" => (k_here; k_dflt (refine' Con.useT ?zC_k9 ?zF ?zN ?zX ?zT ?zp ?zd ?zu ?_; (case zC_k9 => first | exact hDue _ _ _ | exact hVal _ _ _ _ _); k_extra "my cz"; (case zp => trivial); (case zd => k_extra "my ktr_room"); (case zu => k_extra "my ktr_room")); intro a9 t9 v9 h9 tk9 F9 N9))
  (k_with "binaryOp Mult ref int" => (k_here; k_dflt (refine' KMa.mul ?F_k9 ?N_k9 ?l_k9 ?lo_k9 ?hi_k9 ?z_k9 ?e_k9 ?_; (case F_k9 => k_asm); (case N_k9 => k_asm); (case l_k9 => exact News.isList (by k_asm) (by k_mem)); (case lo_k9 => decide); (case hi_k9 => decide); (case z_k9 => (simp only [List.length_cons, List.length_nil]; decide)); (case e_k9 => exact rfl)); intro _ _ _ _ l8; (try k_lt l8)))
  (k_with "compareOp NotEq ref str" => (k_here; k_dflt (refine' ne_dataH ?ra_k9 ?rb_k9 ?ha_k9 ?hb_k9 ?hu_k9 ?_; (case ra_k9 => ked_read); (case rb_k9 => exact Reads.str _ _); (case ha_k9 => ked_shaped); (case hb_k9 => decide +kernel); (case hu_k9 => ke_room)); ked_norm))
  (k_with "my nw" => first | exact (by assumption) | exact (news_tl (by assumption)) | exact (news_tl (news_tl (by assumption))) | exact (news_tl (news_tl (news_tl (by assumption)))) | exact (news_tl (news_tl (news_tl (news_tl (by assumption))))) | exact (news_tl (news_tl (news_tl (news_tl (news_tl (by assumption)))))) | exact (news_tl (news_tl (news_tl (news_tl (news_tl (news_tl (by assumption))))))) | exact (news_tl (news_tl (news_tl (news_tl (news_tl (news_tl (news_tl (by assumption)))))))) | exact (news_tl (news_tl (news_tl (news_tl (news_tl (news_tl (news_tl (news_tl (by assumption))))))))) | exact (news_tl (news_tl (news_tl (news_tl (news_tl (news_tl (news_tl (news_tl (news_tl (by assumption)))))))))) | exact (news_tl (news_tl (news_tl (news_tl (news_tl (news_tl (news_tl (news_tl (news_tl (news_tl (by assumption))))))))))) | exact (news_tl (news_tl (news_tl (news_tl (news_tl (news_tl (news_tl (news_tl (news_tl (news_tl (news_tl (by assumption)))))))))))) | exact (news_tl (news_tl (news_tl (news_tl (news_tl (news_tl (news_tl (news_tl (news_tl (news_tl (news_tl (news_tl (by assumption))))))))))))) | exact (news_tl (news_tl (news_tl (news_tl (news_tl (news_tl (news_tl (news_tl (news_tl (news_tl (news_tl (news_tl (news_tl (by assumption)))))))))))))) | exact (news_tl (news_tl (news_tl (news_tl (news_tl (news_tl (news_tl (news_tl (news_tl (news_tl (news_tl (news_tl (news_tl (news_tl (by assumption))))))))))))))) | exact (news_tl (news_tl (news_tl (news_tl (news_tl (news_tl (news_tl (news_tl (news_tl (news_tl (news_tl (news_tl (news_tl (news_tl (news_tl (by assumption)))))))))))))))))
  (k_with "my turn_no" => (exfalso; first | (rename (true == decide _) = true => hx; have hy := of_decide_eq_true (eq_of_beq hx).symm; omega) | (rename (false == decide _) = true => hx; have hy := of_decide_eq_false (eq_of_beq hx).symm; omega)))
  (k_with "my turn_fin" => exact turn_end rfl (by k_asm) rfl rfl rfl rfl (by k_extra "my nw") oo' ob' tabl1 apart1 kinds1 kt kf fk hout)
  trivial
theorem turnA_i {p : Int × Int} {nv : Int} (hp0 : 0 ≤ p.2) (hp1 : p.2 < 400) (hps : Sm p.1) (hpw : p.1 * 10 ^ p.2.toNat = nv) (hk1 : 0 - 2 ^ (bits - 1).toNat ≤ nv) (hk2 : nv < 2 ^ (bits - 1).toNat) (x : Turn w mean mg mb h₀ L outer n m bits ta tb tn te lw (.str op to) hs s.heap M oo ob tl) (X : (K w.params).In h₀) (T : TopM mean mg mb h₀) (ht : h₀.get? 299 = none)
    (hC : ∀ (k k' : Bool) (vx vy : Value) (t3 : Tok), Con w mean mg mb 220 [.str op to, vx, vy, .int bits tn, .int 30 t3] 8 128 (fun h => isV h k n vx ∧ isV h k' m vy) (fun h h' r => isW true h h' p r))
    (hDue : ∀ t1 t2 t3, Con w mean mg mb 290 [.str op t1, .int n t2, .int m t3] 3 48 (fun _ => True) (OutT p))
    (hVal : ∀ t1 t2 t3 t4 t5, Con w mean mg mb 220 [.str op t1, .int n t2, .int m t3, .int bits t4, .int 30 t5] 8 128 (fun _ => True) (OutI nv))
    (hop : (op == "/") = false) (hd : dp + 20 < recursionLimit) (hu : un + 300 < cLine) :
    wpAny (model Pg w) (AA dp un (some (prEnv L :: outer)) gd) (execs (forB ((sBody (stm 45)).getD 1 (.Pass default))) (prEnv L)) (TurnEnd w mean mg mb h₀ L outer n m bits ta tb tn te lw (.str op to) hs tl s) (fun _ _ => False) s := by
  obtain ⟨F0, m1, m2, m3, m4, N0, oo', ob', tabl, apart, kinds, frames, fk, hout⟩ := x
  refine' turnA_in ?hb ?hs frames ?_
  (case hb => (conv => lhs; whnf))
  (case hs => (conv => lhs; whnf))
  intro frames
  replace F0 := fr_pin4 F0 m1 m2 m3 m4
  try k_fold
  k_extra "my k_steps"
  refine comp_eval (L := L) (h₀ := h₀) (tab := 299) (P := PT s.heap p) (m := ?zm) (mean := mean) (mg := mg) (mb := mb) rfl rfl ?zn ?main
  case zn => decide
  case main =>
    refine wpAny_Name (wpAny_loadName_local (v := .ref lw) rfl rfl F0.ns rfl ?_)
    have tabl' : TabL h₀ 299 prQ ((L + 2, oo) :: (L + 1, ob) :: tl) := tabl.more fun p hp => .tail _ (.tail _ hp)
    have n2 : L + 2 ≠ 299 := tabl'.but N0 (.head _) fun vs z => by rw [oo'] at z; cases z
    have n1 : L + 1 ≠ 299 := tabl'.but N0 (.tail _ (.head _)) fun vs z => by rw [ob'] at z; cases z
    have kinds' : Kinds ((L + 2, oo) :: (L + 1, ob) :: tl) lw n m := kinds.more fun p hp _ => .tail _ (.tail _ hp)
    obtain ⟨items, hz, hl, hit⟩ := kinds'.its
    refine ⟨301, 15, 227, fun h h' r => isPf true h h' p r, KIt ((L + 2, oo) :: (L + 1, ob) :: tl) n m, clos4 L, items, lw, (L + 2, oo) :: (L + 1, ob) :: tl, rfl, ?ci, by omega, by omega, ?_⟩
    case ci =>
      refine' { hf := rfl, fr := F0, news := N0, apart := apart, tabl := tabl', frames := frames, k := X, top := T, tab0 := ht, head := head_at X, e1 := rfl, e2 := rfl, ck := rfl, e4 := fun _ => rfl, e6 := fun _ => rfl, e7 := fun _ => rfl, e5 := fun _ => rfl, hcs := fun _ => rfl, hpc := fun _ => rfl, lst := hl, its := hit, work := ?wk9, hO := pt_o, hP := fun _ _ _ t x => x.tups t, hz := ?z }
      case z => omega
      case wk9 =>
        intro base hb x y C f hxy
        refine work5 hC ?S oo' ob' (hb _ (.head _) n2) (hb _ (.tail _ (.head _)) n1) ?xy
        case S => exact ⟨rfl, rfl, rfl, by decide, rfl, fun _ => rfl, rfl, rfl, rfl⟩
        case xy =>
          obtain ⟨k, k', hx, hy⟩ := hxy
          exact ⟨k, k', hx.at fun a t u hm => hb _ hm (tabl'.but N0 hm fun vs z => nomatch z), hy.at fun a t u hm => hb _ hm (tabl'.but N0 hm fun vs z => nomatch z)⟩
    intro D h' tk' hD
    rw [hz] at hD
    refine comp_told hD F0 hout n1 n2 fun tl' fe v1 v2 v3 v4 nD F1 N1 tabl1 apart1 kt kf x1 x2 x3 x4 => ?_
    refine told_news F1 F0 N1 x1 x2 x3 x4 fun a1 a2 a3 a4 t1 t2 t3 t4 u1 u2 u3 u4 e1 e2 e3 e4 k1 k2 k3 k4 s1 s2 s3 s4 N2 => ?_
    have kinds1 : Kinds tl' lw n m := kinds.more fun q hq nd => kt q hq (tabl'.but N0 (.tail _ (.tail _ hq)) nd)
    clear N0 F0 N1 hD
    k_extra "my k_steps"
    all_goals first | (k_dflt k_extra "my turn_fin") | (k_dflt k_extra "my turn_no")
theorem turnA_t {p : Int × Int} {nv : Int} (hp0 : 0 ≤ p.2) (hp1 : p.2 < 400) (hps : Sm p.1) (hpw : p.1 * 10 ^ p.2.toNat = nv) (hk : ¬ (0 - 2 ^ (bits - 1).toNat ≤ nv ∧ nv < 2 ^ (bits - 1).toNat)) (x : Turn w mean mg mb h₀ L outer n m bits ta tb tn te lw (.str op to) hs s.heap M oo ob tl) (X : (K w.params).In h₀) (T : TopM mean mg mb h₀) (ht : h₀.get? 299 = none)
    (hC : ∀ (k k' : Bool) (vx vy : Value) (t3 : Tok), Con w mean mg mb 220 [.str op to, vx, vy, .int bits tn, .int 30 t3] 8 128 (fun h => isV h k n vx ∧ isV h k' m vy) (fun h h' r => isW true h h' p r))
    (hDue : ∀ t1 t2 t3, Con w mean mg mb 290 [.str op t1, .int n t2, .int m t3] 3 48 (fun _ => True) (OutT p))
    (hVal : ∀ t1 t2 t3 t4 t5, Con w mean mg mb 220 [.str op t1, .int n t2, .int m t3, .int bits t4, .int 30 t5] 8 128 (fun _ => True) (OutT (lawDec nv)))
    (hop : (op == "/") = false) (hd : dp + 20 < recursionLimit) (hu : un + 300 < cLine) :
    wpAny (model Pg w) (AA dp un (some (prEnv L :: outer)) gd) (execs (forB ((sBody (stm 45)).getD 1 (.Pass default))) (prEnv L)) (TurnEnd w mean mg mb h₀ L outer n m bits ta tb tn te lw (.str op to) hs tl s) (fun _ _ => False) s := by
  obtain ⟨F0, m1, m2, m3, m4, N0, oo', ob', tabl, apart, kinds, frames, fk, hout⟩ := x
  refine' turnA_in ?hb ?hs frames ?_
  (case hb => (conv => lhs; whnf))
  (case hs => (conv => lhs; whnf))
  intro frames
  replace F0 := fr_pin4 F0 m1 m2 m3 m4
  try k_fold
  k_extra "my k_steps"
  refine comp_eval (L := L) (h₀ := h₀) (tab := 299) (P := PT s.heap p) (m := ?zm) (mean := mean) (mg := mg) (mb := mb) rfl rfl ?zn ?main
  case zn => decide
  case main =>
    refine wpAny_Name (wpAny_loadName_local (v := .ref lw) rfl rfl F0.ns rfl ?_)
    have tabl' : TabL h₀ 299 prQ ((L + 2, oo) :: (L + 1, ob) :: tl) := tabl.more fun p hp => .tail _ (.tail _ hp)
    have n2 : L + 2 ≠ 299 := tabl'.but N0 (.head _) fun vs z => by rw [oo'] at z; cases z
    have n1 : L + 1 ≠ 299 := tabl'.but N0 (.tail _ (.head _)) fun vs z => by rw [ob'] at z; cases z
    have kinds' : Kinds ((L + 2, oo) :: (L + 1, ob) :: tl) lw n m := kinds.more fun p hp _ => .tail _ (.tail _ hp)
    obtain ⟨items, hz, hl, hit⟩ := kinds'.its
    refine ⟨301, 15, 227, fun h h' r => isPf true h h' p r, KIt ((L + 2, oo) :: (L + 1, ob) :: tl) n m, clos4 L, items, lw, (L + 2, oo) :: (L + 1, ob) :: tl, rfl, ?ci, by omega, by omega, ?_⟩
    case ci =>
      refine' { hf := rfl, fr := F0, news := N0, apart := apart, tabl := tabl', frames := frames, k := X, top := T, tab0 := ht, head := head_at X, e1 := rfl, e2 := rfl, ck := rfl, e4 := fun _ => rfl, e6 := fun _ => rfl, e7 := fun _ => rfl, e5 := fun _ => rfl, hcs := fun _ => rfl, hpc := fun _ => rfl, lst := hl, its := hit, work := ?wk9, hO := pt_o, hP := fun _ _ _ t x => x.tups t, hz := ?z }
      case z => omega
      case wk9 =>
        intro base hb x y C f hxy
        refine work5 hC ?S oo' ob' (hb _ (.head _) n2) (hb _ (.tail _ (.head _)) n1) ?xy
        case S => exact ⟨rfl, rfl, rfl, by decide, rfl, fun _ => rfl, rfl, rfl, rfl⟩
        case xy =>
          obtain ⟨k, k', hx, hy⟩ := hxy
          exact ⟨k, k', hx.at fun a t u hm => hb _ hm (tabl'.but N0 hm fun vs z => nomatch z), hy.at fun a t u hm => hb _ hm (tabl'.but N0 hm fun vs z => nomatch z)⟩
    intro D h' tk' hD
    rw [hz] at hD
    refine comp_told hD F0 hout n1 n2 fun tl' fe v1 v2 v3 v4 nD F1 N1 tabl1 apart1 kt kf x1 x2 x3 x4 => ?_
    refine told_news F1 F0 N1 x1 x2 x3 x4 fun a1 a2 a3 a4 t1 t2 t3 t4 u1 u2 u3 u4 e1 e2 e3 e4 k1 k2 k3 k4 s1 s2 s3 s4 N2 => ?_
    have kinds1 : Kinds tl' lw n m := kinds.more fun q hq nd => kt q hq (tabl'.but N0 (.tail _ (.tail _ hq)) nd)
    clear N0 F0 N1 hD
    k_extra "my k_steps"
    all_goals first | (k_dflt k_extra "my turn_fin") | (k_dflt k_extra "my turn_no")
end
end
section
set_option maxHeartbeats 8000000
section
variable {w : World} {mean : ExcName → Option Value} {mg mb : Str → Option Value} {s : Shared} {Q E : Value → Shared → Prop} {f : Addr} {vs : List Value} {d u : Nat} {pre : Heap → Prop} {h₀ : Heap} {L : Addr} {m : Str → Option Value} {news : List (Addr × Obj)} {dp un : Nat} {fr : Option (List Env)} {gd : Option (List Code)}
theorem Con.useS {x : Str} (C : Con w mean mg mb f vs d u pre (OutS x)) (F : Fr h₀ L s.heap m) (N : News h₀ L s.heap news) (X : (K w.params).In h₀) (T : TopM mean mg mb h₀) (hp : pre s.heap) (hd : dp + d < recursionLimit) (hu : un + u < cLine)
    (k : ∀ t h' tk', Fr h₀ L h' m → News h₀ L h' news → Q (.str x t) { s with heap := h', toks := tk' }) : wpAny (model Pg w) (AA dp un fr gd) (call (.ref f) vs) Q E s :=
  C.use F N X T hp hd hu fun _ h' tk' F' N' _ ⟨t, e⟩ => e ▸ k t h' tk' F' N'
theorem Con.useO (C : Con w mean mg mb f vs d u pre (fun _ _ r => r = .none)) (F : Fr h₀ L s.heap m) (N : News h₀ L s.heap news) (X : (K w.params).In h₀) (T : TopM mean mg mb h₀) (hp : pre s.heap) (hd : dp + d < recursionLimit) (hu : un + u < cLine)
    (k : ∀ h' tk', Fr h₀ L h' m → News h₀ L h' news → Q .none { s with heap := h', toks := tk' }) : wpAny (model Pg w) (AA dp un fr gd) (call (.ref f) vs) Q E s :=
  C.use F N X T hp hd hu fun _ h' tk' F' N' _ e => e ▸ k h' tk' F' N'
/-- what a comprehension of worths hands on, refused each -/
noncomputable def PZ (_ : Heap) (v : Value) : Prop := ∃ t, v = .str "DZ" t
end
section
variable {w : World} {mean : ExcName → Option Value} {mg mb : Str → Option Value} {h₀ : Heap} {L lw : Addr} {outer : List Env} {n m bits : Int} {ta tb tn te : Tok} {op : Str} {to : Tok} {M : Str → Option Value} {hs : Heap} {oo ob : Obj} {tl : List (Addr × Obj)} {s : Shared} {dp un : Nat} {gd : Option (List Code)}
theorem words10 : True := by
  (k_with "call ref" => (k_here; k_dflt (refine' Con.useS ?zC_k9 ?zF ?zN ?zX ?zT ?zp ?zd ?zu ?_; (case zC_k9 => first | exact hDue _ _ _ | exact hVal _ _ _ _ _); k_extra "my cz"; (case zp => trivial); (case zd => k_extra "my ktr_room"); (case zu => k_extra "my ktr_room")); intro t9 h9 tk9 F9 N9))
  (k_with "call ref" => (k_here; k_dflt (refine' Con.useO ?zC_k9 ?zF ?zN ?zX ?zT ?zp ?zd ?zu ?_; (case zC_k9 => first | exact hDue _ _ _ | exact hVal _ _ _ _ _); k_extra "my cz"; (case zp => trivial); (case zd => k_extra "my ktr_room"); (case zu => k_extra "my ktr_room")); intro h9 tk9 F9 N9))
  trivial
theorem turnC_t {p : Int × Int} (x : Turn w mean mg mb h₀ L outer n m bits ta tb tn te lw (.str "/" to) hs s.heap M oo ob tl) (X : (K w.params).In h₀) (T : TopM mean mg mb h₀) (ht : h₀.get? 299 = none)
    (hC : ∀ (k k' : Bool) (vx vy : Value) (t3 : Tok), Con w mean mg mb 220 [.str "/" to, vx, vy, .int bits tn, .int 30 t3] 8 128 (fun h => isV h k n vx ∧ isV h k' m vy) (fun h h' r => isW true h h' p r))
    (hDue : ∀ t1 t2 t3, Con w mean mg mb 290 [.str "/" t1, .int n t2, .int m t3] 3 48 (fun _ => True) (OutT p))
    (hd : dp + 20 < recursionLimit) (hu : un + 300 < cLine) :
    wpAny (model Pg w) (AA dp un (some (prEnv L :: outer)) gd) (execs (forB ((sBody (stm 45)).getD 1 (.Pass default))) (prEnv L)) (TurnEnd w mean mg mb h₀ L outer n m bits ta tb tn te lw (.str "/" to) hs tl s) (fun _ _ => False) s := by
  obtain ⟨F0, m1, m2, m3, m4, N0, oo', ob', tabl, apart, kinds, frames, fk, hout⟩ := x
  refine' turnA_in ?hb ?hs frames ?_
  (case hb => (conv => lhs; whnf))
  (case hs => (conv => lhs; whnf))
  intro frames
  replace F0 := fr_pin4 F0 m1 m2 m3 m4
  try k_fold
  k_extra "my k_steps"
  refine comp_eval (L := L) (h₀ := h₀) (tab := 299) (P := PT s.heap p) (m := ?zm) (mean := mean) (mg := mg) (mb := mb) rfl rfl ?zn ?main
  case zn => decide
  case main =>
    refine wpAny_Name (wpAny_loadName_local (v := .ref lw) rfl rfl F0.ns rfl ?_)
    have tabl' : TabL h₀ 299 prQ ((L + 2, oo) :: (L + 1, ob) :: tl) := tabl.more fun p hp => .tail _ (.tail _ hp)
    have n2 : L + 2 ≠ 299 := tabl'.but N0 (.head _) fun vs z => by rw [oo'] at z; cases z
    have n1 : L + 1 ≠ 299 := tabl'.but N0 (.tail _ (.head _)) fun vs z => by rw [ob'] at z; cases z
    have kinds' : Kinds ((L + 2, oo) :: (L + 1, ob) :: tl) lw n m := kinds.more fun p hp _ => .tail _ (.tail _ hp)
    obtain ⟨items, hz, hl, hit⟩ := kinds'.its
    refine ⟨301, 15, 227, fun h h' r => isPf true h h' p r, KIt ((L + 2, oo) :: (L + 1, ob) :: tl) n m, clos4 L, items, lw, (L + 2, oo) :: (L + 1, ob) :: tl, rfl, ?ci, by omega, by omega, ?_⟩
    case ci =>
      refine' { hf := rfl, fr := F0, news := N0, apart := apart, tabl := tabl', frames := frames, k := X, top := T, tab0 := ht, head := head_at X, e1 := rfl, e2 := rfl, ck := rfl, e4 := fun _ => rfl, e6 := fun _ => rfl, e7 := fun _ => rfl, e5 := fun _ => rfl, hcs := fun _ => rfl, hpc := fun _ => rfl, lst := hl, its := hit, work := ?wk9, hO := pt_o, hP := fun _ _ _ t x => x.tups t, hz := ?z }
      case z => omega
      case wk9 =>
        intro base hb x y C f hxy
        refine work5 hC ?S oo' ob' (hb _ (.head _) n2) (hb _ (.tail _ (.head _)) n1) ?xy
        case S => exact ⟨rfl, rfl, rfl, by decide, rfl, fun _ => rfl, rfl, rfl, rfl⟩
        case xy =>
          obtain ⟨k, k', hx, hy⟩ := hxy
          exact ⟨k, k', hx.at fun a t u hm => hb _ hm (tabl'.but N0 hm fun vs z => nomatch z), hy.at fun a t u hm => hb _ hm (tabl'.but N0 hm fun vs z => nomatch z)⟩
    intro D h' tk' hD
    rw [hz] at hD
    refine comp_told hD F0 hout n1 n2 fun tl' fe v1 v2 v3 v4 nD F1 N1 tabl1 apart1 kt kf x1 x2 x3 x4 => ?_
    refine told_news F1 F0 N1 x1 x2 x3 x4 fun a1 a2 a3 a4 t1 t2 t3 t4 u1 u2 u3 u4 e1 e2 e3 e4 k1 k2 k3 k4 s1 s2 s3 s4 N2 => ?_
    have kinds1 : Kinds tl' lw n m := kinds.more fun q hq nd => kt q hq (tabl'.but N0 (.tail _ (.tail _ hq)) nd)
    clear N0 F0 N1 hD
    k_extra "my k_steps"
    all_goals first | (k_dflt k_extra "my turn_fin")
theorem turnC_n {p : Int × Int} (x : Turn w mean mg mb h₀ L outer n m bits ta tb tn te lw (.str "/" to) hs s.heap M oo ob tl) (X : (K w.params).In h₀) (T : TopM mean mg mb h₀) (ht : h₀.get? 299 = none)
    (hC : ∀ (k k' : Bool) (vx vy : Value) (t3 : Tok), Con w mean mg mb 220 [.str "/" to, vx, vy, .int bits tn, .int 30 t3] 8 128 (fun h => isV h k n vx ∧ isV h k' m vy) (fun h h' r => isW true h h' p r))
    (hDue : ∀ t1 t2 t3, Con w mean mg mb 290 [.str "/" t1, .int n t2, .int m t3] 3 48 (fun _ => True) (fun _ _ r => r = .none))
    (hd : dp + 20 < recursionLimit) (hu : un + 300 < cLine) :
    wpAny (model Pg w) (AA dp un (some (prEnv L :: outer)) gd) (execs (forB ((sBody (stm 45)).getD 1 (.Pass default))) (prEnv L)) (TurnEnd w mean mg mb h₀ L outer n m bits ta tb tn te lw (.str "/" to) hs tl s) (fun _ _ => False) s := by
  obtain ⟨F0, m1, m2, m3, m4, N0, oo', ob', tabl, apart, kinds, frames, fk, hout⟩ := x
  refine' turnA_in ?hb ?hs frames ?_
  (case hb => (conv => lhs; whnf))
  (case hs => (conv => lhs; whnf))
  intro frames
  replace F0 := fr_pin4 F0 m1 m2 m3 m4
  try k_fold
  k_extra "my k_steps"
  refine comp_eval (L := L) (h₀ := h₀) (tab := 299) (P := PT s.heap p) (m := ?zm) (mean := mean) (mg := mg) (mb := mb) rfl rfl ?zn ?main
  case zn => decide
  case main =>
    refine wpAny_Name (wpAny_loadName_local (v := .ref lw) rfl rfl F0.ns rfl ?_)
    have tabl' : TabL h₀ 299 prQ ((L + 2, oo) :: (L + 1, ob) :: tl) := tabl.more fun p hp => .tail _ (.tail _ hp)
    have n2 : L + 2 ≠ 299 := tabl'.but N0 (.head _) fun vs z => by rw [oo'] at z; cases z
    have n1 : L + 1 ≠ 299 := tabl'.but N0 (.tail _ (.head _)) fun vs z => by rw [ob'] at z; cases z
    have kinds' : Kinds ((L + 2, oo) :: (L + 1, ob) :: tl) lw n m := kinds.more fun p hp _ => .tail _ (.tail _ hp)
    obtain ⟨items, hz, hl, hit⟩ := kinds'.its
    refine ⟨301, 15, 227, fun h h' r => isPf true h h' p r, KIt ((L + 2, oo) :: (L + 1, ob) :: tl) n m, clos4 L, items, lw, (L + 2, oo) :: (L + 1, ob) :: tl, rfl, ?ci, by omega, by omega, ?_⟩
    case ci =>
      refine' { hf := rfl, fr := F0, news := N0, apart := apart, tabl := tabl', frames := frames, k := X, top := T, tab0 := ht, head := head_at X, e1 := rfl, e2 := rfl, ck := rfl, e4 := fun _ => rfl, e6 := fun _ => rfl, e7 := fun _ => rfl, e5 := fun _ => rfl, hcs := fun _ => rfl, hpc := fun _ => rfl, lst := hl, its := hit, work := ?wk9, hO := pt_o, hP := fun _ _ _ t x => x.tups t, hz := ?z }
      case z => omega
      case wk9 =>
        intro base hb x y C f hxy
        refine work5 hC ?S oo' ob' (hb _ (.head _) n2) (hb _ (.tail _ (.head _)) n1) ?xy
        case S => exact ⟨rfl, rfl, rfl, by decide, rfl, fun _ => rfl, rfl, rfl, rfl⟩
        case xy =>
          obtain ⟨k, k', hx, hy⟩ := hxy
          exact ⟨k, k', hx.at fun a t u hm => hb _ hm (tabl'.but N0 hm fun vs z => nomatch z), hy.at fun a t u hm => hb _ hm (tabl'.but N0 hm fun vs z => nomatch z)⟩
    intro D h' tk' hD
    rw [hz] at hD
    refine comp_told hD F0 hout n1 n2 fun tl' fe v1 v2 v3 v4 nD F1 N1 tabl1 apart1 kt kf x1 x2 x3 x4 => ?_
    refine told_news F1 F0 N1 x1 x2 x3 x4 fun a1 a2 a3 a4 t1 t2 t3 t4 u1 u2 u3 u4 e1 e2 e3 e4 k1 k2 k3 k4 s1 s2 s3 s4 N2 => ?_
    have kinds1 : Kinds tl' lw n m := kinds.more fun q hq nd => kt q hq (tabl'.but N0 (.tail _ (.tail _ hq)) nd)
    clear N0 F0 N1 hD
    k_extra "my k_steps"
    all_goals first | (k_dflt k_extra "my turn_fin")
theorem turnB (x : Turn w mean mg mb h₀ L outer n m bits ta tb tn te lw (.str op to) hs s.heap M oo ob tl) (X : (K w.params).In h₀) (T : TopM mean mg mb h₀) (ht : h₀.get? 299 = none)
    (hC : ∀ (k k' : Bool) (vx vy : Value) (t3 : Tok), ConE w mean mg mb 220 [.str op to, vx, vy, .int bits tn, .int 30 t3] 9 144 (fun h => isV h k n vx ∧ isV h k' m vy))
    (hDue : ∀ t1 t2 t3, Con w mean mg mb 290 [.str op t1, .int n t2, .int m t3] 3 48 (fun _ => True) (OutS "DZ"))
    (hd : dp + 20 < recursionLimit) (hu : un + 300 < cLine) :
    wpAny (model Pg w) (AA dp un (some (prEnv L :: outer)) gd) (execs (forB ((sBody (stm 45)).getD 1 (.Pass default))) (prEnv L)) (TurnEnd w mean mg mb h₀ L outer n m bits ta tb tn te lw (.str op to) hs tl s) (fun _ _ => False) s := by
  obtain ⟨F0, m1, m2, m3, m4, N0, oo', ob', tabl, apart, kinds, frames, fk, hout⟩ := x
  refine' turnA_in ?hb ?hs frames ?_
  (case hb => (conv => lhs; whnf))
  (case hs => (conv => lhs; whnf))
  intro frames
  replace F0 := fr_pin4 F0 m1 m2 m3 m4
  try k_fold
  k_extra "my k_steps"
  refine comp_eval (L := L) (h₀ := h₀) (tab := 299) (P := PZ) (m := ?zm) (mean := mean) (mg := mg) (mb := mb) rfl rfl ?zn ?main
  case zn => decide
  case main =>
    refine wpAny_Name (wpAny_loadName_local (v := .ref lw) rfl rfl F0.ns rfl ?_)
    have tabl' : TabL h₀ 299 prQ ((L + 2, oo) :: (L + 1, ob) :: tl) := tabl.more fun p hp => .tail _ (.tail _ hp)
    have n2 : L + 2 ≠ 299 := tabl'.but N0 (.head _) fun vs z => by rw [oo'] at z; cases z
    have n1 : L + 1 ≠ 299 := tabl'.but N0 (.tail _ (.head _)) fun vs z => by rw [ob'] at z; cases z
    have kinds' : Kinds ((L + 2, oo) :: (L + 1, ob) :: tl) lw n m := kinds.more fun p hp _ => .tail _ (.tail _ hp)
    obtain ⟨items, hz, hl, hit⟩ := kinds'.its
    refine ⟨301, 16, 243, fun _ _ r => ∃ t, r = .str "DZ" t, KIt ((L + 2, oo) :: (L + 1, ob) :: tl) n m, clos4 L, items, lw, (L + 2, oo) :: (L + 1, ob) :: tl, rfl, ?ci, by omega, by omega, ?_⟩
    case ci =>
      refine' { hf := rfl, fr := F0, news := N0, apart := apart, tabl := tabl', frames := frames, k := X, top := T, tab0 := ht, head := head_at X, e1 := rfl, e2 := rfl, ck := rfl, e4 := fun _ => rfl, e6 := fun _ => rfl, e7 := fun _ => rfl, e5 := fun _ => rfl, hcs := fun _ => rfl, hpc := fun _ => rfl, lst := hl, its := hit, work := ?wk9, hO := fun _ _ _ _ x => x, hP := fun _ _ _ _ x => x, hz := ?z }
      case z => omega
      case wk9 =>
        intro base hb x y C f hxy
        refine work5z hC ?S oo' ob' (hb _ (.head _) n2) (hb _ (.tail _ (.head _)) n1) ?xy
        case S => exact ⟨rfl, rfl, rfl, by decide, rfl, fun _ => rfl, rfl, rfl, rfl⟩
        case xy =>
          obtain ⟨k, k', hx, hy⟩ := hxy
          exact ⟨k, k', hx.at fun a t u hm => hb _ hm (tabl'.but N0 hm fun vs z => nomatch z), hy.at fun a t u hm => hb _ hm (tabl'.but N0 hm fun vs z => nomatch z)⟩
    intro D h' tk' hD
    rw [hz] at hD
    refine comp_told hD F0 hout n1 n2 fun tl' fe v1 v2 v3 v4 nD F1 N1 tabl1 apart1 kt kf x1 x2 x3 x4 => ?_
    obtain ⟨t1, rfl⟩ := x1
    obtain ⟨t2, rfl⟩ := x2
    obtain ⟨t3, rfl⟩ := x3
    obtain ⟨t4, rfl⟩ := x4
    have kinds1 : Kinds tl' lw n m := kinds.more fun q hq nd => kt q hq (tabl'.but N0 (.tail _ (.tail _ hq)) nd)
    clear N0 F0 hD
    k_extra "my k_steps"
    all_goals first | (k_dflt k_extra "my turn_fin")
end
end
section
set_option maxHeartbeats 8000000
section
variable {w : World} {mean : ExcName → Option Value} {mg mb : Str → Option Value} {h₀ : Heap} {L lw : Addr} {outer : List Env} {n m bits : Int} {ta tb tn te : Tok} {op : Str} {to : Tok} {M : Str → Option Value} {hs : Heap} {oo ob : Obj} {tl : List (Addr × Obj)} {s : Shared} {dp un : Nat} {gd : Option (List Code)}
theorem turnD_in {body : List Stmt} {scope : Scope} {Q : Flow → Shared → Prop} (hb : forB ((sBody (stm 45)).getD 2 (.Pass default)) = body) (hs : sScope (stm 45) = scope) (FF : s.heap.FunFrames h₀ (prEnv L :: outer))
    (h : s.heap.FunFrames h₀ (envOfC "_law_pair_right" scope L 302 (.ref 301) :: outer) → wpAny (model Pg w) (AA dp un (some (envOfC "_law_pair_right" scope L 302 (.ref 301) :: outer)) gd) (execs body (envOfC "_law_pair_right" scope L 302 (.ref 301))) Q (fun _ _ => False) s) :
    wpAny (model Pg w) (AA dp un (some (prEnv L :: outer)) gd) (execs (forB ((sBody (stm 45)).getD 2 (.Pass default))) (prEnv L)) Q (fun _ _ => False) s := by
  subst hb hs; exact h FF
theorem words11 : True := by
  (k_with "call ref" => (k_here; k_dflt (refine' Con.useT ?zC_k9 ?zF ?zN ?zX ?zT ?zp ?zd ?zu ?_; (case zC_k9 => exact hBits _ _ _ _); k_extra "my cz"; (case zp => trivial); (case zd => k_extra "my ktr_room"); (case zu => k_extra "my ktr_room")); intro a9 t9 v9 h9 tk9 F9 N9))
  trivial
theorem turnD {p : Int × Int} (x : Turn w mean mg mb h₀ L outer n m bits ta tb tn te lw (.str op to) hs s.heap M oo ob tl) (X : (K w.params).In h₀) (T : TopM mean mg mb h₀) (ht : h₀.get? 299 = none)
    (hC : ∀ (k k' : Bool) (vx vy : Value), Con w mean mg mb 255 [.str op to, vx, vy, .int bits tn] 6 96 (fun h => isV h k n vx ∧ isV h k' m vy) (fun h h' r => isW true h h' p r))
    (hBits : ∀ t1 t2 t3 t4, Con w mean mg mb 297 [.str op t1, .int n t2, .int m t3, .int bits t4] 4 64 (fun _ => True) (OutT p))
    (hd : dp + 20 < recursionLimit) (hu : un + 300 < cLine) :
    wpAny (model Pg w) (AA dp un (some (prEnv L :: outer)) gd) (execs (forB ((sBody (stm 45)).getD 2 (.Pass default))) (prEnv L)) (TurnEnd w mean mg mb h₀ L outer n m bits ta tb tn te lw (.str op to) hs tl s) (fun _ _ => False) s := by
  obtain ⟨F0, m1, m2, m3, m4, N0, oo', ob', tabl, apart, kinds, frames, fk, hout⟩ := x
  refine' turnD_in ?hb ?hs frames ?_
  (case hb => (conv => lhs; whnf))
  (case hs => (conv => lhs; whnf))
  intro frames
  replace F0 := fr_pin4 F0 m1 m2 m3 m4
  try k_fold
  k_extra "my k_steps"
  refine comp_assign (L := L) (h₀ := h₀) (tab := 299) (P := PT s.heap p) (m := ?zm) (mean := mean) (mg := mg) (mb := mb) rfl rfl rfl ?zn hout rfl rfl rfl ?main
  case zn => decide
  case main =>
    refine wpAny_Name (wpAny_loadName_local (v := .ref lw) rfl rfl F0.ns rfl ?_)
    have tabl' : TabL h₀ 299 prQ ((L + 2, oo) :: (L + 1, ob) :: tl) := tabl.more fun p hp => .tail _ (.tail _ hp)
    have n2 : L + 2 ≠ 299 := tabl'.but N0 (.head _) fun vs z => by rw [oo'] at z; cases z
    have n1 : L + 1 ≠ 299 := tabl'.but N0 (.tail _ (.head _)) fun vs z => by rw [ob'] at z; cases z
    have kinds' : Kinds ((L + 2, oo) :: (L + 1, ob) :: tl) lw n m := kinds.more fun p hp _ => .tail _ (.tail _ hp)
    obtain ⟨items, hz, hl, hit⟩ := kinds'.its
    refine ⟨301, 13, 195, fun h h' r => isPf true h h' p r, KIt ((L + 2, oo) :: (L + 1, ob) :: tl) n m, clos4 L, items, lw, (L + 2, oo) :: (L + 1, ob) :: tl, rfl, ?ci, by omega, by omega, ?_⟩
    case ci =>
      refine' { hf := rfl, fr := F0, news := N0, apart := apart, tabl := tabl', frames := frames, k := X, top := T, tab0 := ht, head := head_at X, e1 := rfl, e2 := rfl, ck := rfl, e4 := fun _ => rfl, e6 := fun _ => rfl, e7 := fun _ => rfl, e5 := fun _ => rfl, hcs := fun _ => rfl, hpc := fun _ => rfl, lst := hl, its := hit, work := ?wk9, hO := pt_o, hP := fun _ _ _ t x => x.tups t, hz := ?z }
      case z => omega
      case wk9 =>
        intro base hb x y C f hxy
        refine work4 hC ?S oo' ob' (hb _ (.head _) n2) (hb _ (.tail _ (.head _)) n1) ?xy
        case S => exact ⟨rfl, rfl, rfl, by decide, rfl, fun _ => rfl, rfl, rfl, rfl⟩
        case xy =>
          obtain ⟨k, k', hx, hy⟩ := hxy
          exact ⟨k, k', hx.at fun a t u hm => hb _ hm (tabl'.but N0 hm fun vs z => nomatch z), hy.at fun a t u hm => hb _ hm (tabl'.but N0 hm fun vs z => nomatch z)⟩
    intro D h' tk' hD
    rw [hz] at hD
    refine comp_told hD F0 hout n1 n2 fun tl' fe v1 v2 v3 v4 nD F1 N1 tabl1 apart1 kt kf x1 x2 x3 x4 => ?_
    refine told_news F1 F0 N1 x1 x2 x3 x4 fun a1 a2 a3 a4 t1 t2 t3 t4 u1 u2 u3 u4 e1 e2 e3 e4 k1 k2 k3 k4 s1 s2 s3 s4 N2 => ?_
    have kinds1 : Kinds tl' lw n m := kinds.more fun q hq nd => kt q hq (tabl'.but N0 (.tail _ (.tail _ hq)) nd)
    clear N0 F0 N1 hD
    k_extra "my k_steps"
    all_goals first | (k_dflt k_extra "my turn_fin")
end
end
end
section
set_option maxHeartbeats 2000000
noncomputable def sixOps : List Str := ["+", "-", "*", "/", "\\", "MOD"]
section
variable {w : World} {mean : ExcName → Option Value} {mg mb : Str → Option Value} {h₀ : Heap} {L lw : Addr} {outer : List Env} {n m bits : Int} {ta tb tn te : Tok} {op : Str} {to : Tok} {M : Str → Option Value} {hs : Heap} {oo ob : Obj} {tl : List (Addr × Obj)} {s : Shared} {dp un : Nat} {gd : Option (List Code)}
theorem decFacts {v : Int} (hv : v.natAbs < 10 ^ 11) : 0 ≤ (lawDec v).2 ∧ (lawDec v).2 < 400 ∧ Sm (lawDec v).1 ∧ (lawDec v).1 * 10 ^ (lawDec v).2.toNat = v := by
  obtain ⟨t, e1, e2⟩ := lawDec_worth v
  have hs : Sm (lawDec v).1 := Sm.le (k := 11) (Nat.le_of_lt (Nat.lt_of_le_of_lt (lawDec_le v) hv)) (by decide)
  refine ⟨by omega, ?_, hs, by rw [e1, Int.toNat_natCast, e2]⟩
  by_cases h0 : v = 0
  · subst h0; decide +kernel
  · have : 10 ^ t ≤ v.natAbs := by
      rw [← e2, Int.natAbs_mul, Int.natAbs_pow]
      have : (lawDec v).1 ≠ 0 := fun z => h0 (by rw [← e2, z, Int.zero_mul])
      exact Nat.le_mul_of_pos_left _ (by omega)
    have h2 : (10 : Nat) ^ t < 10 ^ 11 := Nat.lt_of_le_of_lt this hv
    have := (Nat.pow_lt_pow_iff_right (by decide)).mp h2
    omega
/-- a turn whose worth is a whole number of its own -/
theorem turnA {v : Int} (hv : v.natAbs < 10 ^ 11) (x : Turn w mean mg mb h₀ L outer n m bits ta tb tn te lw (.str op to) hs s.heap M oo ob tl) (X : (K w.params).In h₀) (T : TopM mean mg mb h₀) (ht : h₀.get? 299 = none)
    (hC : ∀ (k k' : Bool) (vx vy : Value) (t3 : Tok), ∃ kk, Con w mean mg mb 220 [.str op to, vx, vy, .int bits tn, .int 30 t3] 8 128 (fun h => isV h k n vx ∧ isV h k' m vy) (OutV kk v))
    (hDue : ∀ t1 t2 t3, Con w mean mg mb 290 [.str op t1, .int n t2, .int m t3] 3 48 (fun _ => True) (OutT (lawDec v)))
    (hVal : ∀ t1 t2 t3 t4 t5, Con w mean mg mb 220 [.str op t1, .int n t2, .int m t3, .int bits t4, .int 30 t5] 8 128 (fun _ => True) (OutV (!fitsB v bits) v))
    (hop : (op == "/") = false) (hd : dp + 20 < recursionLimit) (hu : un + 300 < cLine) :
    wpAny (model Pg w) (AA dp un (some (prEnv L :: outer)) gd) (execs (forB ((sBody (stm 45)).getD 1 (.Pass default))) (prEnv L)) (TurnEnd w mean mg mb h₀ L outer n m bits ta tb tn te lw (.str op to) hs tl s) (fun _ _ => False) s := by
  obtain ⟨p0, p1, p2, p3⟩ := decFacts hv
  have sv : Sm v := Sm.le (k := 11) (Nat.le_of_lt hv) (by decide)
  have hC' : ∀ (k k' : Bool) (vx vy : Value) (t3 : Tok), Con w mean mg mb 220 [.str op to, vx, vy, .int bits tn, .int 30 t3] 8 128 (fun h => isV h k n vx ∧ isV h k' m vy) (fun h h' r => isW true h h' (lawDec v) r) := fun k k' vx vy t3 => by
    obtain ⟨kk, C⟩ := hC k k' vx vy t3
    exact C.mono (fun _ y => y) (fun _ _ _ o => isW_V o sv) (Nat.le_refl _) (Nat.le_refl _)
  cases hf : fitsB v bits with
  | true =>
    rw [hf] at hVal
    obtain ⟨f1, f2⟩ := of_decide_eq_true (show decide _ = true from hf)
    exact turnA_i (nv := v) p0 p1 p2 p3 (by omega) f2 x X T ht hC' hDue hVal hop hd hu
  | false =>
    rw [hf] at hVal
    have f1 := of_decide_eq_false (show decide _ = false from hf)
    exact turnA_t (nv := v) p0 p1 p2 p3 (fun z => f1 ⟨by omega, z.2⟩) x X T ht hC' hDue hVal hop hd hu
theorem mul_lt11 (hn : n.natAbs < 10 ^ 5) (hm : m.natAbs < 10 ^ 5) : (n * m).natAbs < 10 ^ 11 := Nat.lt_of_lt_of_le (natAbs_mul_lt (a := 10 ^ 5) (b := 10 ^ 5) hn hm) (by decide)
/-- a turn of the first loop -/
theorem turn6 (hop : op ∈ sixOps) (hn : n.natAbs < 10 ^ 5) (hm : m.natAbs < 10 ^ 5) (fn : fitsB n bits = true) (fm : fitsB m bits = true) (b1 : 4 ≤ bits) (b2 : bits ≤ 16) (x : Turn w mean mg mb h₀ L outer n m bits ta tb tn te lw (.str op to) hs s.heap M oo ob tl) (X : (K w.params).In h₀) (T : TopM mean mg mb h₀) (ht : h₀.get? 299 = none)
    (hd : dp + 20 < recursionLimit) (hu : un + 300 < cLine) :
    wpAny (model Pg w) (AA dp un (some (prEnv L :: outer)) gd) (execs (forB ((sBody (stm 45)).getD 1 (.Pass default))) (prEnv L)) (TurnEnd w mean mg mb h₀ L outer n m bits ta tb tn te lw (.str op to) hs tl s) (fun _ _ => False) s := by
  simp only [sixOps, List.mem_cons, List.not_mem_nil, or_false] at hop
  rcases hop with rfl | rfl | rfl | rfl | rfl | rfl
  · exact turnA (v := n + m) (by omega) x X T ht (fun k k' vx vy t3 => ⟨_, reck_add.mono (fun h y => ⟨y.1, y.2, b1, b2, hn, hm, fn, fm, by decide⟩) (fun _ _ _ o => o) (Nat.le_refl _) (Nat.le_refl _)⟩)
      (fun _ _ _ => due_add.mono (fun _ _ => ⟨hn, hm⟩) (fun _ _ _ o => o) (Nat.le_refl _) (Nat.le_refl _))
      (fun _ _ _ _ _ => (reck_add (k := false) (k' := false)).mono (fun h _ => ⟨⟨_, rfl⟩, ⟨_, rfl⟩, b1, b2, hn, hm, fn, fm, by decide⟩) (fun _ _ _ o => o) (Nat.le_refl _) (Nat.le_refl _)) (by decide) hd hu
  · exact turnA (v := n - m) (by omega) x X T ht (fun k k' vx vy t3 => ⟨_, reck_sub.mono (fun h y => ⟨y.1, y.2, b1, b2, hn, hm, fn, fm, by decide⟩) (fun _ _ _ o => o) (Nat.le_refl _) (Nat.le_refl _)⟩)
      (fun _ _ _ => due_sub.mono (fun _ _ => ⟨hn, hm⟩) (fun _ _ _ o => o) (Nat.le_refl _) (Nat.le_refl _))
      (fun _ _ _ _ _ => (reck_sub (k := false) (k' := false)).mono (fun h _ => ⟨⟨_, rfl⟩, ⟨_, rfl⟩, b1, b2, hn, hm, fn, fm, by decide⟩) (fun _ _ _ o => o) (Nat.le_refl _) (Nat.le_refl _)) (by decide) hd hu
  · exact turnA (v := n * m) (mul_lt11 hn hm) x X T ht (fun k k' vx vy t3 => ⟨_, reck_mul.mono (fun h y => ⟨y.1, y.2, b1, b2, hn, hm, fn, fm, by decide⟩) (fun _ _ _ o => o) (Nat.le_refl _) (Nat.le_refl _)⟩)
      (fun _ _ _ => due_mul.mono (fun _ _ => ⟨hn, hm⟩) (fun _ _ _ o => o) (Nat.le_refl _) (Nat.le_refl _))
      (fun _ _ _ _ _ => (reck_mul (k := false) (k' := false)).mono (fun h _ => ⟨⟨_, rfl⟩, ⟨_, rfl⟩, b1, b2, hn, hm, fn, fm, by decide⟩) (fun _ _ _ o => o) (Nat.le_refl _) (Nat.le_refl _)) (by decide) hd hu
  · by_cases h0 : m = 0
    · subst h0
      exact turnB x X T ht (fun k k' vx vy t3 => reck_div_e.mono (fun h y => ⟨y.1, y.2, b1, b2, hn, fn⟩) (Nat.le_refl _) (Nat.le_refl _)) (fun _ _ _ => due_div0.mono (fun _ _ => ⟨hn, hm, rfl⟩) (fun _ _ _ o => o) (Nat.le_refl _) (Nat.le_refl _)) hd hu
    · have hC : ∀ (k k' : Bool) (vx vy : Value) (t3 : Tok), Con w mean mg mb 220 [.str "/" to, vx, vy, .int bits tn, .int 30 t3] 8 128 (fun h => isV h k n vx ∧ isV h k' m vy) (fun h h' r => isW true h h' (divP n m) r) := fun k k' vx vy t3 =>
        reck_div.mono (fun h y => ⟨y.1, y.2, b1, b2, hn, hm, fn, fm, h0⟩) (fun _ _ _ o => isW_T o) (Nat.le_refl _) (Nat.le_refl _)
      by_cases hq : cutQ n m * m = n
      · rw [divP_exact (q := cutQ n m) (by omega) (by omega) h0 hq.symm] at hC
        exact turnC_t x X T ht hC (fun _ _ _ => due_div.mono (fun _ _ => ⟨hn, hm, h0⟩) (fun _ _ _ o => o.elim (fun y => y.2) fun y => absurd hq y.1) (Nat.le_refl _) (Nat.le_refl _)) hd hu
      · exact turnC_n x X T ht hC (fun _ _ _ => due_div.mono (fun _ _ => ⟨hn, hm, h0⟩) (fun _ _ _ o => o.elim (fun y => absurd y.1 hq) fun y => y.2) (Nat.le_refl _) (Nat.le_refl _)) hd hu
  · by_cases h0 : m = 0
    · subst h0
      exact turnB x X T ht (fun k k' vx vy t3 => reck_cut_e.mono (fun h y => ⟨y.1, y.2, b1, b2, hn, fn⟩) (Nat.le_refl _) (Nat.le_refl _)) (fun _ _ _ => due_cut0.mono (fun _ _ => ⟨hn, hm, rfl⟩) (fun _ _ _ o => o) (Nat.le_refl _) (Nat.le_refl _)) hd hu
    · exact turnA (v := cutQ n m) (by have := cutQ_le (n := n) h0; omega) x X T ht (fun k k' vx vy t3 => ⟨_, reck_cut.mono (fun h y => ⟨y.1, y.2, b1, b2, hn, hm, fn, fm, h0, by decide⟩) (fun _ _ _ o => o) (Nat.le_refl _) (Nat.le_refl _)⟩)
        (fun _ _ _ => due_cut.mono (fun _ _ => ⟨hn, hm, h0⟩) (fun _ _ _ o => o) (Nat.le_refl _) (Nat.le_refl _))
        (fun _ _ _ _ _ => (reck_cut (k := false) (k' := false)).mono (fun h _ => ⟨⟨_, rfl⟩, ⟨_, rfl⟩, b1, b2, hn, hm, fn, fm, h0, by decide⟩) (fun _ _ _ o => o) (Nat.le_refl _) (Nat.le_refl _)) (by decide) hd hu
  · by_cases h0 : m = 0
    · subst h0
      exact turnB x X T ht (fun k k' vx vy t3 => reck_mod_e.mono (fun h y => ⟨y.1, y.2, b1, b2, hn, fn⟩) (Nat.le_refl _) (Nat.le_refl _)) (fun _ _ _ => due_mod0.mono (fun _ _ => ⟨hn, hm, rfl⟩) (fun _ _ _ o => o) (Nat.le_refl _) (Nat.le_refl _)) hd hu
    · exact turnA (v := n - m * cutQ n m) (by
        have q1 := cutQ_le (n := n) h0
        have q2 := natAbs_mul_lt (a := 10 ^ 5) (b := 10 ^ 5) hm (show (cutQ n m).natAbs < 10 ^ 5 by omega)
        omega) x X T ht (fun k k' vx vy t3 => ⟨_, reck_mod.mono (fun h y => ⟨y.1, y.2, b1, b2, hn, hm, fn, fm, h0, by decide⟩) (fun _ _ _ o => o) (Nat.le_refl _) (Nat.le_refl _)⟩)
        (fun _ _ _ => due_mod.mono (fun _ _ => ⟨hn, hm, h0⟩) (fun _ _ _ o => o) (Nat.le_refl _) (Nat.le_refl _))
        (fun _ _ _ _ _ => (reck_mod (k := false) (k' := false)).mono (fun h _ => ⟨⟨_, rfl⟩, ⟨_, rfl⟩, b1, b2, hn, hm, fn, fm, h0, by decide⟩) (fun _ _ _ o => o) (Nat.le_refl _) (Nat.le_refl _)) (by decide) hd hu
theorem bitsV_lt (hop : op ∈ fiveOps) (b1 : 4 ≤ bits) (b2 : bits ≤ 16) : (bitsV op n m bits).natAbs < 10 ^ 6 := by
  obtain ⟨a1, a2⟩ := accB_lt hop n m bits.toNat
  have b3 : (2 : Int) ^ bits.toNat ≤ 2 ^ 16 := by
    have : (2 : Nat) ^ bits.toNat ≤ 2 ^ 16 := Nat.pow_le_pow_right (by decide) (by omega)
    exact_mod_cast this
  have b4 : (0 : Int) < 2 ^ bits.toNat := Int.pow_pos (by decide)
  unfold bitsV
  split <;> omega
/-- a turn of the second loop -/
theorem turn5 (hop : op ∈ fiveOps) (hn : n.natAbs < 10 ^ 5) (hm : m.natAbs < 10 ^ 5) (fn : fitsB n bits = true) (fm : fitsB m bits = true) (b1 : 4 ≤ bits) (b2 : bits ≤ 16) (x : Turn w mean mg mb h₀ L outer n m bits ta tb tn te lw (.str op to) hs s.heap M oo ob tl) (X : (K w.params).In h₀) (T : TopM mean mg mb h₀) (ht : h₀.get? 299 = none)
    (hd : dp + 20 < recursionLimit) (hu : un + 300 < cLine) :
    wpAny (model Pg w) (AA dp un (some (prEnv L :: outer)) gd) (execs (forB ((sBody (stm 45)).getD 2 (.Pass default))) (prEnv L)) (TurnEnd w mean mg mb h₀ L outer n m bits ta tb tn te lw (.str op to) hs tl s) (fun _ _ => False) s := by
  have e := bits_law hop fn fm (by omega)
  have sv : Sm (opW op n m) := Sm.le (k := 6) (Nat.le_of_lt (e ▸ bitsV_lt hop b1 b2)) (by decide)
  refine turnD (p := lawDec (opW op n m)) x X T ht (fun k k' vx vy => ?_) (fun t1 t2 t3 t4 => ?_) hd hu
  · exact logic_c.mono (fun h y => ⟨y.1, y.2, by omega, by omega, by omega, by omega, fn, fm⟩) (fun _ _ _ o => isW_I o sv) (Nat.le_refl _) (Nat.le_refl _)
  · rw [← e]
    exact (bits_c hop).mono (fun _ _ => ⟨hn, hm, b1, b2⟩) (fun _ _ _ o => o) (Nat.le_refl _) (Nat.le_refl _)
end
end
section
set_option maxHeartbeats 8000000
noncomputable def forI : Stmt → Expr
  | .For _ i _ _ _ => i
  | _ => .Constant .none 0 default
noncomputable def forP : Stmt → Pos
  | .For (.Name _ p) _ _ _ _ => p
  | _ => default
noncomputable def forQ : Stmt → Pos
  | .For _ _ _ _ q => q
  | _ => default
theorem for1 : (sBody (stm 45)).getD 1 (.Pass default) = .For (.Name "op" (forP ((sBody (stm 45)).getD 1 (.Pass default)))) (forI ((sBody (stm 45)).getD 1 (.Pass default))) (forB ((sBody (stm 45)).getD 1 (.Pass default))) [] (forQ ((sBody (stm 45)).getD 1 (.Pass default))) := by kernel_rfl
theorem for2 : (sBody (stm 45)).getD 2 (.Pass default) = .For (.Name "op" (forP ((sBody (stm 45)).getD 2 (.Pass default)))) (forI ((sBody (stm 45)).getD 2 (.Pass default))) (forB ((sBody (stm 45)).getD 2 (.Pass default))) [] (forQ ((sBody (stm 45)).getD 2 (.Pass default))) := by kernel_rfl
section
variable {w : World} {mean : ExcName → Option Value} {mg mb : Str → Option Value} {h₀ : Heap} {L lw : Addr} {outer : List Env} {n m bits : Int} {ta tb tn te : Tok} {op : Str} {to : Tok} {M : Str → Option Value} {hs : Heap} {oo ob : Obj} {tl news : List (Addr × Obj)} {s : Shared} {dp un : Nat} {fr : Option (List Env)} {gd : Option (List Code)} {Q : Value → Shared → Prop}
theorem ev_in {st : Stmt} {iter : Expr} {scope : Scope} (hb : forI st = iter) (hs : prS = scope) (h : wpAny (model Pg w) (AA dp un fr gd) (eval iter (envOfC "_law_pair_right" scope L 302 (.ref 301))) Q (fun _ _ => False) s) : wpAny (model Pg w) (AA dp un fr gd) (eval (forI st) (prEnv L)) Q (fun _ _ => False) s := by
  subst hb hs; exact h
theorem Heap.get?_none_size {h : Heap} : h.get? h.objs.size = none := by
  cases z : h.get? h.objs.size with
  | none => rfl
  | some o => exact absurd (Heap.lt_size z) (Nat.lt_irrefl _)
theorem words12 : True := by
  k_with_none
  (k_with "my cz" => ((case zF => k_asm); (case zN => k_asm); (case zX => k_asm); (case zT => k_asm)))
  (k_with "my cy" => ((case zp => first | trivial | ((try dsimp only); (repeat' (with_reducible refine And.intro ?_ ?_)) <;> k_extra "my ktr_rel")); (case zd => k_extra "my ktr_room"); (case zu => k_extra "my ktr_room")))
  (k_with "my ee" => ((case ep => k_extra "my evp"); (case ed => k_extra "my ktr_room"); (case eu => k_extra "my ktr_room")))
  (k_with "my ktr_room" => ((try dsimp only [AA]); first | exact room1 hd rfl | exact room hu rfl | exact room hd rfl | omega))
  (k_with "my ktr_rel" => first | trivial | assumption | omega | rfl | (with_reducible exact ⟨_, rfl⟩))
  (k_with "my ktr_rel" => first | exact isV.keeps (by assumption) (Fr.keep (by assumption)) | trivial | k_extra "my is_list" | assumption | k_extra "my ktn_ord" | omega | rfl | (with_reducible exact ⟨_, rfl⟩))
  (k_with "my evp" => first | trivial | ((try dsimp only); (repeat' (with_reducible refine And.intro ?_ ?_)) <;> first | exact isV.keeps (isV.keeps (by assumption) (Cx.F C9).keep) st9 | k_extra "my ktr_rel"))
  (k_with "my ev" => first
    | exact Ev.lit
    | exact Ev.nmI C9 rfl
    | (apply Ev.add; k_extra "my ev"; k_extra "my ev")
    | (apply Ev.sub; k_extra "my ev"; k_extra "my ev")
    | (apply Ev.mul; k_extra "my ev"; k_extra "my ev"; first | exact Sm.mulOk (by k_extra "my ktn_ord") (by k_extra "my ktn_ord") | mul_fits)
    | (apply Ev.fdiv; k_extra "my ev"; k_extra "my ev"; k_extra "my km_fact"; k_extra "my kbt_ne")
    | (apply Ev.mod; k_extra "my ev"; k_extra "my ev"; k_extra "my km_fact")
    | (apply Ev.pow; k_extra "my ev"; k_extra "my ev"; omega; omega; first | decide | omega)
    | (apply Ev.neg; k_extra "my ev")
    | (apply Ev.cmpI; k_extra "my ev"; k_extra "my ev"; k_extra "my cmp"; rfl)
    | (apply Ev.item0; k_extra "my evt")
    | (apply Ev.item1; k_extra "my evt")
    | (apply Ev.call C9; rfl; rfl; rfl; rfl; k_is; k_is; k_extra "my evl"; (intro hh9 st9; (repeat (intro _)); k_extra "my evk"))
    | (apply Ev.abs C9; rfl; k_is; rfl; k_extra "my ev")
    | (apply Ev.isi C9; rfl; k_is; rfl; rfl; k_extra "my evl"; k_extra "my isi")
    | ((rename EvIf => if9); apply Ev.iteI; k_extra "my ec"; (intro hc9; k_extra "my ev"); (intro hc9; k_extra "my ev"))
    | exact Ev.text
    | exact Ev.nmS C9 rfl
    | exact Ev.nmB C9 rfl
    | (refine' Ev.nmT C9 rfl ?i; (case i => is_list))
    | exact Ev.nmV C9 rfl
    | (apply Ev.nmBT C9; rfl; rfl; boot_fast; decide; k_is))
  (k_with "my isi" => first | exact IsiIs.tt | exact IsiIs.ts | exact IsiIs.it | exact IsiIs.is)
  (k_with "my evt" => (refine' Ev.nmT C9 rfl ?i; (case i => is_list)))
  (k_with "my evl" => first | exact EvL.nil | (apply EvL.cons; k_extra "my ev"; k_extra "my evl"; rfl))
  (k_with "my cmp" => first | exact CmpIs.eq | exact CmpIs.lt | exact CmpIs.ne | exact CmpIs.le | exact CmpIs.gt | exact CmpIs.ge | exact CmpIs.eqs | exact CmpIs.nes | exact CmpIs.eqb)
  (k_with "my ec" => first | (apply Ec.cmpI; k_extra "my ev"; k_extra "my ev"; k_extra "my cmp"; rfl) | (apply Ec.plain; k_extra "my ev"; (intro _; rfl)) | (apply Ec.not; k_extra "my ec"))
  (k_with "my cx" => (refine' Cx.mk ?cxX ?cxT ?cxF ?cxl ?cxg ?cxk ?cxb; (case cxF => k_asm); (case cxX => k_asm); (case cxT => k_asm); (case cxl => rfl); (case cxg => rfl); (case cxk => rfl); (case cxb => rfl)))
  (k_with "my evline" => (k_here; k_whole; (fail_if_success (rename EvOff => off9)); k_dflt (refine' Ev.use0 ?C ?N ?ev ?_; (case C => k_extra "my cx"); (case N => k_asm); (case ev => (intro C9; k_extra "my ev")); first | (refine giveI ?_; intro t9 h9 tk9 F9 N9) | (refine giveT ?_; intro a9 t9 v9 h9 tk9 F9 N9) | (refine giveB ?_; intro h9 tk9 F9 N9) | (refine giveV ?_; intro r9 h9 tk9 F9 N9 O9) | (refine giveT3 ?_; intro a9 t9 v9 x9 h9 tk9 F9 N9))))
  (k_with "eval Call" => k_extra "my evline")
  (k_with "eval BinOp" => k_extra "my evline")
  (k_with "eval UnaryOp" => k_extra "my evline")
  (k_with "eval Compare" => k_extra "my evline")
  (k_with "eval Subscript" => k_extra "my evline")
  (k_with "my ecline" => (k_here; k_whole; (fail_if_success (rename EvOff => off9)); k_dflt (refine' Ec.use0 ?C ?N ?ev ?_; (case C => k_extra "my cx"); (case N => k_asm); (case ev => (intro C9; k_extra "my ec")); intro h9 tk9 F9 N9)))
  (k_with "isTrue Compare" => k_extra "my ecline")
  (k_with "isTrue Call" => k_extra "my ecline")
  (k_with "isTrue UnaryOp" => k_extra "my ecline")
  (k_with "my ktr_enter" => (
  refine' enter ?eX_k9 ?eT_k9 ?eo_k9 ?ec_k9 ?er_k9 ?ep ?eb_k9 ?es_k9 ?ez_k9 ?eR_k9 ?ek_k9 ?el_k9 ?_ ?ee_k9 ?e1_k9 ?e2_k9 ?e3_k9
  (case eX_k9 => assumption)
  (case eT_k9 => assumption)
  (case eo_k9 => k_is)
  (case ec_k9 => k_is)
  (case er_k9 => (show (_ : Nat) < _; (try dsimp only [AA]); omega))
  (case ep => (conv => lhs; whnf))
  (case eb_k9 => (conv => lhs; whnf))
  (case es_k9 => (conv => lhs; whnf))
  (case ez_k9 => (conv => lhs; simp only [List.map_cons, List.map_nil, List.zip_cons_cons, List.zip_nil_right, List.zip_nil_left]))
  (case eR_k9 => (conv => lhs; simp only [List.reverse_cons, List.reverse_nil, List.nil_append, List.cons_append]))
  (case ek_k9 => exact rfl)
  (case el_k9 => exact rfl)
  (case ee_k9 => exact rfl)
  (case e1_k9 => exact rfl)
  (case e2_k9 => exact rfl)
  (case e3_k9 => exact rfl)
  intro _ _ _ _ _
  try dsimp only
  try k_fold))
  (k_with "my k_steps" => repeat' (first | (k_unfold; (try dsimp only)) | ((with_reducible show wpAny _ _ (exec _ _) _ _ _); k_whole; k_fold) | ((with_reducible show (_ : Flow → Shared → Prop) _ _); k_unfold; (try dsimp only)) | ((with_reducible show (_ : Value → Shared → Prop) _ _); k_unfold; (try dsimp only)) | walk1 | (dsimp only; k_unfold; (try dsimp only)) | (dsimp only; walk1) | fail "no step"))
  (k_with "my k_steps" => repeat' (first | (k_unfold; (try dsimp only)) | ((with_reducible show wpAny _ _ (exec _ _) _ _ _); k_whole; k_fold) | ((with_reducible show (_ : Flow → Shared → Prop) _ _); k_unfold; (try dsimp only)) | ((with_reducible show (_ : Value → Shared → Prop) _ _); k_unfold; (try dsimp only)) | ((fail_if_success (with_reducible show wpAny _ _ (exec (Stmt.While _ _ _ _) _) _ _ _)); walk1) | (dsimp only; k_unfold; (try dsimp only)) | (dsimp only; (fail_if_success (with_reducible show wpAny _ _ (exec (Stmt.While _ _ _ _) _) _ _ _)); walk1) | fail "no step"))
  (k_with "my k_steps" => repeat' (first | (k_unfold; (try dsimp only)) | ((with_reducible show wpAny _ _ (exec _ _) _ _ _); k_whole; k_fold) | ((with_reducible show (_ : Flow → Shared → Prop) _ _); k_unfold; (try dsimp only)) | ((with_reducible show (_ : Value → Shared → Prop) _ _); k_unfold; (try dsimp only)) | ((fail_if_success (with_reducible show wpAny _ _ (exec (Stmt.For _ _ _ _ _) _) _ _ _)); (fail_if_success (with_reducible show wpAny _ _ (eval (Expr.ListComp _ _ _ _) _) _ _ _)); (fail_if_success (with_reducible show wpAny _ _ (exec (Stmt.Assign _ (Expr.ListComp _ _ _ _) _) _) _ _ _)); (fail_if_success (with_reducible show wpAny _ _ (newTuple _) _ _ _)); walk1) | (dsimp only; k_unfold; (try dsimp only)) | (dsimp only; (fail_if_success (with_reducible show wpAny _ _ (exec (Stmt.For _ _ _ _ _) _) _ _ _)); (fail_if_success (with_reducible show wpAny _ _ (eval (Expr.ListComp _ _ _ _) _) _ _ _)); (fail_if_success (with_reducible show wpAny _ _ (exec (Stmt.Assign _ (Expr.ListComp _ _ _ _) _) _) _ _ _)); (fail_if_success (with_reducible show wpAny _ _ (newTuple _) _ _ _)); walk1) | fail "no step"))
  (k_with "my km_fact" => first | exact pow10_ne _ | assumption | omega | decide)
  (k_with "my kbt_ne" => first | exact (Sm.pow10 (by omega)).log2 | exact (Sm.small (by omega) (by omega)).log2 | exact Sm.log2 (by assumption))
  (k_with "binaryOp FloorDiv int int" => (k_here; (with_reducible refine floordiv_int ?kzb_k9 ?_ (Or.inl (PyProof.noPylong_of_log2 ?kzp_k9))); (case kzb_k9 => k_extra "my km_fact"); (case kzp_k9 => k_extra "my kbt_ne")))
  (k_with "inplaceOp FloorDiv int int" => (k_here; (with_reducible refine ifloordiv_int ?kzb_k9 ?_ (Or.inl (PyProof.noPylong_of_log2 ?kzp_k9))); (case kzb_k9 => k_extra "my km_fact"); (case kzp_k9 => k_extra "my kbt_ne")))
  (k_with "binaryOp Mod int int" => (k_here; (with_reducible refine mod_int' ?kzb_k9 ?_); (case kzb_k9 => k_extra "my km_fact")))
  (k_with "call builtin:abs" => (k_here; (refine call_abs ?_); intro _ _))
  (k_with "my ktn_ord" => first | assumption | exact Sm.pow10 (by omega) | exact Sm.small (by omega) (by omega))
  (k_with "binaryOp Mult int int" => (k_here; (with_reducible refine mul_int ?_ ?kzm_k9); (case kzm_k9 => first | exact Sm.mulOk (by k_extra "my ktn_ord") (by k_extra "my ktn_ord") | mul_fits)))
  (k_with "call ref" => (k_here; k_dflt (refine' Con.useI figures_of_c ?zF ?zN ?zX ?zT ?zp ?zd ?zu ?_; k_extra "my cz"; (case zp => trivial); (case zd => k_extra "my ktr_room"); (case zu => k_extra "my ktr_room")); intro _ _ _ _ _))
  (k_with "call ref" => (k_here; k_dflt (refine' Con.useI rounded_by_c ?zF ?zN ?zX ?zT ?zp ?zd ?zu ?_; k_extra "my cz"; (case zp => ((try dsimp only); omega)); (case zd => k_extra "my ktr_room"); (case zu => k_extra "my ktr_room")); intro _ _ _ _ _))
  (k_with "call ref" => (k_here; k_dflt (refine' Con.useT made_c ?zF ?zN ?zX ?zT ?zp ?zd ?zu ?_; k_extra "my cz"; k_extra "my cy"); intro _ _ _ _ _ _ _))
  (k_with "call ref" => (k_here; k_dflt (refine' Con.useI whole_near_c ?zF ?zN ?zX ?zT ?zp ?zd ?zu ?_; k_extra "my cz"; k_extra "my cy"); intro _ _ _ _ _))
  (k_with "call ref" => (k_here; k_dflt (refine' Con.useB fits_c ?zF ?zN ?zX ?zT ?zp ?zd ?zu ?_; k_extra "my cz"; k_extra "my cy"); intro _ _ _ _))
  (k_with "call ref" => (k_here; k_dflt (refine' Con.useI whole_of_ci ?zF ?zN ?zX ?zT ?zp ?zd ?zu ?_; k_extra "my cz"; k_extra "my cy"); intro _ _ _ _ _))
  (k_with "call ref" => (k_here; k_dflt (refine' Con.useI whole_of_ct ?zF ?zN ?zX ?zT ?zp ?zd ?zu ?_; k_extra "my cz"; k_extra "my cy"); intro _ _ _ _ _))
  (k_with "call ref" => (k_here; k_dflt (refine' Con.useT decimal_of_ci ?zF ?zN ?zX ?zT ?zp ?zd ?zu ?_; k_extra "my cz"; k_extra "my cy"); intro _ _ _ _ _ _ _))
  (k_with "call ref" => (k_here; k_dflt (refine' Con.useT decimal_of_ct ?zF ?zN ?zX ?zT ?zp ?zd ?zu ?_; k_extra "my cz"; k_extra "my cy"); intro _ _ _ _ _ _ _))
  (k_with "call ref" => (k_here; k_dflt (refine' Con.useT d_negated_c ?zF ?zN ?zX ?zT ?zp ?zd ?zu ?_; k_extra "my cz"; k_extra "my cy"); intro _ _ _ _ _ _ _))
  (k_with "call ref" => (k_here; k_dflt (refine' Con.useT3 alike_c ?zF ?zN ?zX ?zT ?zp ?zd ?zu ?_; k_extra "my cz"; k_extra "my cy"); intro _ _ _ _ _ _ _ _))
  (k_with "call ref" => (k_here; k_dflt (refine' Con.useT with_rest_c ?zF ?zN ?zX ?zT ?zp ?zd ?zu ?_; k_extra "my cz"; k_extra "my cy"); intro _ _ _ _ _ _ _))
  (k_with "call ref" => (k_here; k_dflt (refine' Con.useT d_add_c ?zF ?zN ?zX ?zT ?zp ?zd ?zu ?_; k_extra "my cz"; k_extra "my cy"); intro _ _ _ _ _ _ _))
  (k_with "call ref" => (k_here; k_dflt (refine' Con.useT d_mul_c ?zF ?zN ?zX ?zT ?zp ?zd ?zu ?_; k_extra "my cz"; k_extra "my cy"); intro _ _ _ _ _ _ _))
  (k_with "call ref" => (k_here; k_dflt (refine' Con.useT d_sub_c ?zF ?zN ?zX ?zT ?zp ?zd ?zu ?_; k_extra "my cz"; k_extra "my cy"); intro _ _ _ _ _ _ _))
  (k_with "call ref" => (k_here; k_dflt (refine' Con.useT d_div_c ?zF ?zN ?zX ?zT ?zp ?zd ?zu ?_; k_extra "my cz"; k_extra "my cy"); intro _ _ _ _ _ _ _))
  (k_with "call ref" => (k_here; k_dflt (refine' Con.useI d_compare_c ?zF ?zN ?zX ?zT ?zp ?zd ?zu ?_; k_extra "my cz"; k_extra "my cy"); intro _ _ _ _ _))
  (k_with "call ref" => (k_here; k_dflt (refine' Con.useT square_c ?zF ?zN ?zX ?zT ?zp ?zd ?zu ?_; k_extra "my cz"; k_extra "my cy"); intro _ _ _ _ _ _ _))
  (k_with "call ref" => (k_here; k_dflt (refine' Con.useT decimal_of_v ?zF ?zN ?zX ?zT ?zp ?zd ?zu ?_; k_extra "my cz"; k_extra "my cy"); intro _ _ _ _ _ _ _))
  (k_with "call ref" => (k_here; k_dflt (refine' Con.useI whole_of_v ?zF ?zN ?zX ?zT ?zp ?zd ?zu ?_; k_extra "my cz"; k_extra "my cy"); intro _ _ _ _ _))
  (k_with "call ref" => (k_here; k_dflt (refine' Con.useB is_whole_ci ?zF ?zN ?zX ?zT ?zp ?zd ?zu ?_; k_extra "my cz"; k_extra "my cy"); intro _ _ _ _))
  (k_with "call ref" => (k_here; k_dflt (refine' Con.useB is_whole_ct ?zF ?zN ?zX ?zT ?zp ?zd ?zu ?_; k_extra "my cz"; k_extra "my cy"); intro _ _ _ _))
  (k_with "call ref" => (k_here; k_dflt (refine' Con.useB is_whole_v ?zF ?zN ?zX ?zT ?zp ?zd ?zu ?_; k_extra "my cz"; k_extra "my cy"); intro _ _ _ _))
  (k_with "call ref" => (k_here; k_dflt (refine' Con.useV settled_c ?zF ?zN ?zX ?zT ?zp ?zd ?zu ?_; k_extra "my cz"; k_extra "my cy"); intro _ _ _ _ _ _))
  (k_with "call ref" => (k_here; k_dflt (refine' Con.useV whole_reckoned_c ?zF ?zN ?zX ?zT ?zp ?zd ?zu ?_; k_extra "my cz"; k_extra "my cy"); intro _ _ _ _ _ _))
  (k_with "call ref" => (k_here; k_dflt (refine' Con.useI cut_quotient_c ?zF ?zN ?zX ?zT ?zp ?zd ?zu ?_; k_extra "my cz"; k_extra "my cy"); intro _ _ _ _ _))
  (k_with "call ref" => (k_here; k_dflt (refine' Con.useI exponent_of_v ?zF ?zN ?zX ?zT ?zp ?zd ?zu ?_; k_extra "my cz"; k_extra "my cy"); intro _ _ _ _ _))
  (k_with "call ref" => (k_here; k_dflt (refine' Con.useV whole_power_c ?zF ?zN ?zX ?zT ?zp ?zd ?zu ?_; k_extra "my cz"; k_extra "my cy"); intro _ _ _ _ _ _))
  (k_with "call ref" => (k_here; k_dflt (refine' Con.useV whole_reckoned_v ?zF ?zN ?zX ?zT ?zp ?zd ?zu ?_; k_extra "my cz"; k_extra "my cy"); intro _ _ _ _ _ _))
  (k_with "call ref" => (k_here; k_dflt (refine' Con.useV whole_power_v ?zF ?zN ?zX ?zT ?zp ?zd ?zu ?_; k_extra "my cz"; k_extra "my cy"); intro _ _ _ _ _ _))
  (k_with "call ref" => (k_here; k_dflt (refine' Con.useT d_power_c ?zF ?zN ?zX ?zT ?zp ?zd ?zu ?_; k_extra "my cz"; k_extra "my cy"); intro _ _ _ _ _ _ _))
  (k_with "call ref" => (k_here; k_dflt (refine' Con.useT d_add_l ?zF ?zN ?zX ?zT ?zp ?zd ?zu ?_; k_extra "my cz"; k_extra "my cy"); intro _ _ _ _ _ _ _))
  (k_with "call ref" => (k_here; k_dflt (refine' Con.useT d_sub_l ?zF ?zN ?zX ?zT ?zp ?zd ?zu ?_; k_extra "my cz"; k_extra "my cy"); intro _ _ _ _ _ _ _))
  (k_with "call ref" => (k_here; k_dflt (refine' Con.useT d_mul_l ?zF ?zN ?zX ?zT ?zp ?zd ?zu ?_; k_extra "my cz"; k_extra "my cy"); intro _ _ _ _ _ _ _))
  (k_with "call ref" => (k_here; k_dflt (refine' Con.useT d_div_l ?zF ?zN ?zX ?zT ?zp ?zd ?zu ?_; k_extra "my cz"; k_extra "my cy"); intro _ _ _ _ _ _ _))
  (k_with "call ref" => (k_here; k_dflt (refine' Con.useI d_compare_l ?zF ?zN ?zX ?zT ?zp ?zd ?zu ?_; k_extra "my cz"; k_extra "my cy"); intro _ _ _ _ _))
  (k_with "call ref" => (k_here; k_dflt (refine' Con.useV negated_v ?zF ?zN ?zX ?zT ?zp ?zd ?zu ?_; k_extra "my cz"; k_extra "my cy"); intro _ _ _ _ _ _))
  (k_with "call ref" => (k_here; k_dflt (refine' Con.useI order_v ?zF ?zN ?zX ?zT ?zp ?zd ?zu ?_; k_extra "my cz"; k_extra "my cy"); intro _ _ _ _ _))
  (k_with "call ref" => (k_here; k_dflt (refine' Con.useB stands_c ?zF ?zN ?zX ?zT ?zp ?zd ?zu ?_; k_extra "my cz"; k_extra "my cy"); intro _ _ _ _))
  (k_with "call ref" => (k_here; k_dflt (refine' Con.useI inverted_c ?zF ?zN ?zX ?zT ?zp ?zd ?zu ?_; k_extra "my cz"; k_extra "my cy"); intro _ _ _ _ _))
  (k_with "call ref" => (k_here; k_dflt (refine' Con.useT dec_c ?zF ?zN ?zX ?zT ?zp ?zd ?zu ?_; k_extra "my cz"; k_extra "my cy"); intro _ _ _ _ _ _ _))
  (k_with "my evk" => (refine' CallOK.I figures_of_c ?ep ?ed ?eu; k_extra "my ee"))
  (k_with "my evk" => (refine' CallOK.I rounded_by_c ?ep ?ed ?eu; k_extra "my ee"))
  (k_with "my evk" => (refine' CallOK.T made_c ?ep ?ed ?eu; k_extra "my ee"))
  (k_with "my evk" => (refine' CallOK.I whole_near_c ?ep ?ed ?eu; k_extra "my ee"))
  (k_with "my evk" => (refine' CallOK.B fits_c ?ep ?ed ?eu; k_extra "my ee"))
  (k_with "my evk" => (refine' CallOK.I whole_of_ci ?ep ?ed ?eu; k_extra "my ee"))
  (k_with "my evk" => (refine' CallOK.I whole_of_ct ?ep ?ed ?eu; k_extra "my ee"))
  (k_with "my evk" => (refine' CallOK.T decimal_of_ci ?ep ?ed ?eu; k_extra "my ee"))
  (k_with "my evk" => (refine' CallOK.T decimal_of_ct ?ep ?ed ?eu; k_extra "my ee"))
  (k_with "my evk" => (refine' CallOK.T d_negated_c ?ep ?ed ?eu; k_extra "my ee"))
  (k_with "my evk" => (refine' CallOK.T3 alike_c ?ep ?ed ?eu; k_extra "my ee"))
  (k_with "my evk" => (refine' CallOK.T with_rest_c ?ep ?ed ?eu; k_extra "my ee"))
  (k_with "my evk" => (refine' CallOK.T d_add_c ?ep ?ed ?eu; k_extra "my ee"))
  (k_with "my evk" => (refine' CallOK.T d_mul_c ?ep ?ed ?eu; k_extra "my ee"))
  (k_with "my evk" => (refine' CallOK.T d_sub_c ?ep ?ed ?eu; k_extra "my ee"))
  (k_with "my evk" => (refine' CallOK.T d_div_c ?ep ?ed ?eu; k_extra "my ee"))
  (k_with "my evk" => (refine' CallOK.I d_compare_c ?ep ?ed ?eu; k_extra "my ee"))
  (k_with "my evk" => (refine' CallOK.T square_c ?ep ?ed ?eu; k_extra "my ee"))
  (k_with "my evk" => (refine' CallOK.T decimal_of_v ?ep ?ed ?eu; k_extra "my ee"))
  (k_with "my evk" => (refine' CallOK.I whole_of_v ?ep ?ed ?eu; k_extra "my ee"))
  (k_with "my evk" => (refine' CallOK.B is_whole_ci ?ep ?ed ?eu; k_extra "my ee"))
  (k_with "my evk" => (refine' CallOK.B is_whole_ct ?ep ?ed ?eu; k_extra "my ee"))
  (k_with "my evk" => (refine' CallOK.B is_whole_v ?ep ?ed ?eu; k_extra "my ee"))
  (k_with "my evk" => (refine' CallOK.V settled_c ?ep ?ed ?eu; k_extra "my ee"))
  (k_with "my evk" => (refine' CallOK.V whole_reckoned_c ?ep ?ed ?eu; k_extra "my ee"))
  (k_with "my evk" => (refine' CallOK.I cut_quotient_c ?ep ?ed ?eu; k_extra "my ee"))
  (k_with "my evk" => (refine' CallOK.I exponent_of_v ?ep ?ed ?eu; k_extra "my ee"))
  (k_with "my evk" => (refine' CallOK.V whole_power_c ?ep ?ed ?eu; k_extra "my ee"))
  (k_with "my evk" => (refine' CallOK.V whole_reckoned_v ?ep ?ed ?eu; k_extra "my ee"))
  (k_with "my evk" => (refine' CallOK.V whole_power_v ?ep ?ed ?eu; k_extra "my ee"))
  (k_with "my evk" => (refine' CallOK.T d_power_c ?ep ?ed ?eu; k_extra "my ee"))
  (k_with "my evk" => (refine' CallOK.T d_add_l ?ep ?ed ?eu; k_extra "my ee"))
  (k_with "my evk" => (refine' CallOK.T d_sub_l ?ep ?ed ?eu; k_extra "my ee"))
  (k_with "my evk" => (refine' CallOK.T d_mul_l ?ep ?ed ?eu; k_extra "my ee"))
  (k_with "my evk" => (refine' CallOK.T d_div_l ?ep ?ed ?eu; k_extra "my ee"))
  (k_with "my evk" => (refine' CallOK.I d_compare_l ?ep ?ed ?eu; k_extra "my ee"))
  (k_with "my evk" => (refine' CallOK.V negated_v ?ep ?ed ?eu; k_extra "my ee"))
  (k_with "my evk" => (refine' CallOK.I order_v ?ep ?ed ?eu; k_extra "my ee"))
  (k_with "my evk" => (refine' CallOK.B stands_c ?ep ?ed ?eu; k_extra "my ee"))
  (k_with "my evk" => (refine' CallOK.I inverted_c ?ep ?ed ?eu; k_extra "my ee"))
  (k_with "my evk" => (refine' CallOK.T dec_c ?ep ?ed ?eu; k_extra "my ee"))
  (k_with "call builtin:min" => (k_here; k_dflt (refine' call_min ?kz1_k9 ?kz2_k9 ?kz3_k9 ?_; (case kz1_k9 => rfl); (case kz2_k9 => k_asm); (case kz3_k9 => k_asm)); intro _ _ _ _ _))
  (k_with "call builtin:max" => (k_here; k_dflt (refine' call_max ?kz1_k9 ?kz2_k9 ?kz3_k9 ?_; (case kz1_k9 => rfl); (case kz2_k9 => k_asm); (case kz3_k9 => k_asm)); intro _ _ _ _ _))
  (k_with "binaryOp Pow int int" => (k_here; (with_reducible refine pow_int_small ?kz1_k9 ?kz2_k9 ?kz3_k9 ?_); (case kz1_k9 => omega); (case kz2_k9 => omega); (case kz3_k9 => first | decide | omega)))
  (k_with "call builtin:isinstance" => (k_here; k_dflt (first | (refine' isi_tup ?kz1_k9 ?kz2_k9 ?_; (case kz1_k9 => k_in); (case kz2_k9 => k_extra "my is_list")) | (refine' isi_tup_str ?kz1_k9 ?kz2_k9 ?_; (case kz1_k9 => k_in); (case kz2_k9 => k_extra "my is_list"))); intro _))
  (k_with "my is_list" => first | exact Has.t0 (by assumption) (by assumption) (by assumption) | exact Has.t1 (by assumption) (by assumption) (by assumption) | exact Has.t2 (by assumption) (by assumption) (by assumption) | exact Has.t3 (by assumption) (by assumption) (by assumption) | exact Fr.tup (by assumption) (by assumption) | exact News.isTup (by assumption) (by k_mem) | assumption)
  (k_with "subscriptTail" => (k_here; (with_reducible show wpAny _ _ (subscriptTail _ _ (Value.ref _) (Value.int _ _)) _ _ _); k_dflt (refine' item_tupleT ?kt_k9 ?k1_k9 ?k2_k9 ?k3_k9 ?k4_k9 ?_; (case kt_k9 => k_extra "my is_list"); (case k1_k9 => decide); (case k2_k9 => decide); (case k3_k9 => rfl); (case k4_k9 => rfl))))
  trivial
theorem ev6 (F : Fr h₀ L s.heap M) (N : News h₀ L s.heap news)
    (hq : ∀ ax h' tk' t0 t1 t2 t3 t4 t5, (∀ b o, s.heap.get? b = some o → h'.get? b = some o) → s.heap.get? ax = none → h'.get? ax = some { cls := .type "tuple", data := .seq #[.str "+" t0, .str "-" t1, .str "*" t2, .str "/" t3, .str "\\" t4, .str "MOD" t5] } → Q (.ref ax) { s with heap := h', toks := tk' }) :
    wpAny (model Pg w) (AA dp un fr gd) (eval (forI ((sBody (stm 45)).getD 1 (.Pass default))) (prEnv L)) Q (fun _ _ => False) s := by
  refine' ev_in ?hb ?hs ?_
  (case hb => (conv => lhs; whnf))
  (case hs => (conv => lhs; whnf))
  k_extra "my k_steps"
  refine wpAny_newTuple ?_
  refine hq _ _ _ _ _ _ _ _ _ (fun b o e => Heap.get?_push_of_some _ e) ?_ (Heap.get?_push_size _ rfl)
  exact Heap.get?_none_size
theorem ev5 (F : Fr h₀ L s.heap M) (N : News h₀ L s.heap news)
    (hq : ∀ ax h' tk' t0 t1 t2 t3 t4, (∀ b o, s.heap.get? b = some o → h'.get? b = some o) → s.heap.get? ax = none → h'.get? ax = some { cls := .type "tuple", data := .seq #[.str "AND" t0, .str "OR" t1, .str "XOR" t2, .str "EQV" t3, .str "IMP" t4] } → Q (.ref ax) { s with heap := h', toks := tk' }) :
    wpAny (model Pg w) (AA dp un fr gd) (eval (forI ((sBody (stm 45)).getD 2 (.Pass default))) (prEnv L)) Q (fun _ _ => False) s := by
  refine' ev_in ?hb ?hs ?_
  (case hb => (conv => lhs; whnf))
  (case hs => (conv => lhs; whnf))
  k_extra "my k_steps"
  refine wpAny_newTuple ?_
  refine hq _ _ _ _ _ _ _ _ (fun b o e => Heap.get?_push_of_some _ e) ?_ (Heap.get?_push_size _ rfl)
  exact Heap.get?_none_size
end
end
section
section
set_option maxHeartbeats 8000000
noncomputable abbrev S0 : Stmt := (sBody (stm 45)).getD 0 (.Pass default)
noncomputable abbrev S3 : Stmt := (sBody (stm 45)).getD 3 (.Pass default)
noncomputable abbrev S4 : Stmt := (sBody (stm 45)).getD 4 (.Pass default)
noncomputable abbrev S5 : Stmt := (sBody (stm 45)).getD 5 (.Pass default)
section
variable {w : World} {mean : ExcName → Option Value} {mg mb : Str → Option Value} {h₀ : Heap} {L lw : Addr} {outer : List Env} {n m bits : Int} {ta tb tn te : Tok} {op : Str} {to : Tok} {M : Str → Option Value} {hs : Heap} {oo ob : Obj} {tl : List (Addr × Obj)} {s : Shared} {fe news : List (Addr × Obj)} {dp un : Nat} {gd : Option (List Code)}
theorem Ready.add {h h' : Heap} {ax : Addr} {axo : Obj} (x : Ready w mean mg mb h₀ L outer n m bits ta tb tn te lw hs h M oo ob tl) (k : ∀ b o, h.get? b = some o → h'.get? b = some o) (e : h.get? ax = none) (g : h'.get? ax = some axo) :
    Ready w mean mg mb h₀ L outer n m bits ta tb tn te lw hs h' M oo ob ((ax, axo) :: tl) := by
  have ne : ∀ b o, h.get? b = some o → b ≠ ax := fun b o q z => by rw [z, e] at q; cases q
  have N := x.news
  have h0 : h₀.get? ax = none := by
    cases z : h₀.get? ax with
    | none => rfl
    | some o => exact absurd rfl (ne _ _ (x.fr.keep _ _ z))
  have hL : L ≠ ax := by obtain ⟨o, _, _, g, _⟩ := x.fr.ns; exact ne _ _ g
  have hf : ax ∉ frm outer := fun z => by
    obtain ⟨_, o, g, _⟩ := x.frames.2.2.mem z
    exact absurd rfl (ne _ _ g)
  have y := x.move (h' := h') ax (fun b o _ q => k b o q) h0 hL (ne _ _ (N _ (.tail _ (.head _))).1) (ne _ _ (N _ (.head _)).1) (fun p hp => ne _ _ (N p (.tail _ (.tail _ hp))).1) hf
  refine ⟨y.fr, y.a, y.b, y.ways, y.en, fun p hp => ?_, y.hoo, y.hob, y.tabl.more fun p hp => .tail _ hp, fun p hp => ?_, y.kinds.more fun p hp _ => .tail _ hp, y.frames, y.fk, y.out⟩
  · rcases List.mem_cons.mp hp with rfl | hp
    · exact y.news _ (.head _)
    · rcases List.mem_cons.mp hp with rfl | hp
      · exact y.news _ (.tail _ (.head _))
      · rcases List.mem_cons.mp hp with rfl | hp
        · exact ⟨g, hL.symm, h0⟩
        · exact y.news _ (.tail _ (.tail _ hp))
  · rcases List.mem_cons.mp hp with rfl | hp
    · exact y.apart (L + 2, oo) (.head _)
    · rcases List.mem_cons.mp hp with rfl | hp
      · exact y.apart (L + 1, ob) (.tail _ (.head _))
      · rcases List.mem_cons.mp hp with rfl | hp
        · exact hf
        · exact y.apart p (.tail _ (.tail _ hp))
theorem loop1 {Q : Flow → Shared → Prop} (hn : n.natAbs < 10 ^ 5) (hm : m.natAbs < 10 ^ 5) (fn : fitsB n bits = true) (fm : fitsB m bits = true) (b1 : 4 ≤ bits) (b2 : bits ≤ 16) (X : (K w.params).In h₀) (T : TopM mean mg mb h₀) (ht : h₀.get? 299 = none) (hd : dp + 20 < recursionLimit) (hu : un + 300 < cLine)
    (x : Ready w mean mg mb h₀ L outer n m bits ta tb tn te lw hs s.heap M oo ob tl) (fin : ∀ h' tk' M oo ob tl, Ready w mean mg mb h₀ L outer n m bits ta tb tn te lw hs h' M oo ob tl → Q .next { s with heap := h', toks := tk' }) :
    wpAny (model Pg w) (AA dp un (some (prEnv L :: outer)) gd) (exec ((sBody (stm 45)).getD 1 (.Pass default)) (prEnv L)) Q (fun _ _ => False) s := by
  rw [for1]
  refine for_walks (ev6 x.fr x.news fun ax h' tk' t0 t1 t2 t3 t4 t5 k e g => ?_) (fun _ => by kernel_rfl) passes_false
  refine ops_in (s := { s with heap := h', toks := tk' }) (x.add k e g) (.head _) rfl ⟨_, rfl⟩ (good := (· ∈ sixOps)) (fun i v hv => ?_) (fun op to s' M oo ob tl hg t => turn6 hg hn hm fn fm b1 b2 t X T ht hd hu) fin
  match i, hv with
  | 0, hv => cases hv; exact ⟨_, _, rfl, by decide⟩
  | 1, hv => cases hv; exact ⟨_, _, rfl, by decide⟩
  | 2, hv => cases hv; exact ⟨_, _, rfl, by decide⟩
  | 3, hv => cases hv; exact ⟨_, _, rfl, by decide⟩
  | 4, hv => cases hv; exact ⟨_, _, rfl, by decide⟩
  | 5, hv => cases hv; exact ⟨_, _, rfl, by decide⟩
  | i + 6, hv => simp at hv
theorem loop2 {Q : Flow → Shared → Prop} (hn : n.natAbs < 10 ^ 5) (hm : m.natAbs < 10 ^ 5) (fn : fitsB n bits = true) (fm : fitsB m bits = true) (b1 : 4 ≤ bits) (b2 : bits ≤ 16) (X : (K w.params).In h₀) (T : TopM mean mg mb h₀) (ht : h₀.get? 299 = none) (hd : dp + 20 < recursionLimit) (hu : un + 300 < cLine)
    (x : Ready w mean mg mb h₀ L outer n m bits ta tb tn te lw hs s.heap M oo ob tl) (fin : ∀ h' tk' M oo ob tl, Ready w mean mg mb h₀ L outer n m bits ta tb tn te lw hs h' M oo ob tl → Q .next { s with heap := h', toks := tk' }) :
    wpAny (model Pg w) (AA dp un (some (prEnv L :: outer)) gd) (exec ((sBody (stm 45)).getD 2 (.Pass default)) (prEnv L)) Q (fun _ _ => False) s := by
  rw [for2]
  refine for_walks (ev5 x.fr x.news fun ax h' tk' t0 t1 t2 t3 t4 k e g => ?_) (fun _ => by kernel_rfl) passes_false
  refine ops_in (s := { s with heap := h', toks := tk' }) (x.add k e g) (.head _) rfl ⟨_, rfl⟩ (good := (· ∈ fiveOps)) (fun i v hv => ?_) (fun op to s' M oo ob tl hg t => turn5 hg hn hm fn fm b1 b2 t X T ht hd hu) fin
  match i, hv with
  | 0, hv => cases hv; exact ⟨_, _, rfl, by decide⟩
  | 1, hv => cases hv; exact ⟨_, _, rfl, by decide⟩
  | 2, hv => cases hv; exact ⟨_, _, rfl, by decide⟩
  | 3, hv => cases hv; exact ⟨_, _, rfl, by decide⟩
  | 4, hv => cases hv; exact ⟨_, _, rfl, by decide⟩
  | i + 5, hv => simp at hv
end
end
section
set_option maxHeartbeats 8000000
section
variable {w : World} {mean : ExcName → Option Value} {mg mb : Str → Option Value} {h₀ : Heap} {L lw : Addr} {outer : List Env} {n m bits : Int} {ta tb tn te : Tok} {op : Str} {to : Tok} {M : Str → Option Value} {hs : Heap} {oo ob : Obj} {tl : List (Addr × Obj)} {s : Shared} {fe news : List (Addr × Obj)} {dp un : Nat} {gd : Option (List Code)}
theorem ap_of {x1 x2 : Addr × Obj} (kf : ∀ h'', News h₀ L h'' (tl ++ fe) → h''.FunFrames h₀ outer ∧ FrmUp outer hs h'') {h : Heap} (N : News h₀ L h (x1 :: x2 :: (tl ++ fe))) : ∀ a, h.get? a = none → a ∉ frm outer := fun a e hm => by
  obtain ⟨_, o, g, _⟩ := (kf h fun p hp => N p (.tail _ (.tail _ hp))).1.mem hm
  rw [g] at e; cases e
theorem Con.useK2 {Q E : Value → Shared → Prop} {fr : Option (List Env)} {f : Addr} {vs : List Value} {d u : Nat} {pre : Heap → Prop} {m' : Str → Option Value} {t1 t2 : Tok}
    (C : Con w mean mg mb f vs d u pre (OutK n m t1 t2)) (F : Fr h₀ L s.heap m') (N : News h₀ L s.heap news) (ap : ∀ a, s.heap.get? a = none → a ∉ frm outer) (X : (K w.params).In h₀) (T : TopM mean mg mb h₀) (hp : pre s.heap) (hd : dp + d < recursionLimit) (hu : un + u < cLine)
    (k : ∀ l kl h' tk', Kinds kl l n m → Fr h₀ L h' m' → News h₀ L h' (kl ++ news) → (∀ p ∈ kl, p.1 ∉ frm outer) → s.heap.StaysIn h' → Q (.ref l) { s with heap := h', toks := tk' }) : wpAny (model Pg w) (AA dp un fr gd) (call (.ref f) vs) Q E s :=
  C.use F N X T hp hd hu fun r h' tk' F' N' st ⟨z, e, ha⟩ => by
    subst e
    refine k z.l (kindsL z n m t1 t2) h' tk' ⟨z, _, _, rfl, fun _ hp => hp⟩ F' (fun q hq => ?_) (fun q hq => ap _ (ha q hq).2) st
    rcases List.mem_append.mp hq with hq | hq
    · exact ⟨(ha q hq).1, fr_has (h' := h') F (ha q hq).2⟩
    · exact N' q hq
theorem st_in {st st' : Stmt} {scope : Scope} {Q : Flow → Shared → Prop} (hb : st = st') (hs : prS = scope) (h : wpAny (model Pg w) (AA dp un (some (envOfC "_law_pair_right" scope L 302 (.ref 301) :: outer)) gd) (exec st' (envOfC "_law_pair_right" scope L 302 (.ref 301))) Q (fun _ _ => False) s) : wpAny (model Pg w) (AA dp un (some (prEnv L :: outer)) gd) (exec st (prEnv L)) Q (fun _ _ => False) s := by
  subst hb hs; exact h
theorem words13 : True := by
  (k_with "my k_steps" => repeat' (first | (k_unfold; (try dsimp only)) | ((with_reducible show wpAny _ _ (exec _ _) _ _ _); k_whole; k_fold) | ((with_reducible show (_ : Flow → Shared → Prop) _ _); k_unfold; (try dsimp only)) | ((with_reducible show (_ : Value → Shared → Prop) _ _); k_unfold; (try dsimp only)) | ((fail_if_success (with_reducible show wpAny _ _ (exec (Stmt.For _ _ _ _ _) _) _ _ _)); (fail_if_success (with_reducible show wpAny _ _ (eval (Expr.ListComp _ _ _ _) _) _ _ _)); (fail_if_success (with_reducible show wpAny _ _ (exec (Stmt.Assign _ (Expr.ListComp _ _ _ _) _) _) _ _ _)); walk1) | (dsimp only; k_unfold; (try dsimp only)) | (dsimp only; (fail_if_success (with_reducible show wpAny _ _ (exec (Stmt.For _ _ _ _ _) _) _ _ _)); (fail_if_success (with_reducible show wpAny _ _ (eval (Expr.ListComp _ _ _ _) _) _ _ _)); (fail_if_success (with_reducible show wpAny _ _ (exec (Stmt.Assign _ (Expr.ListComp _ _ _ _) _) _) _ _ _)); walk1) | fail "no step"))
  (k_with "call ref" => (k_here; k_dflt (refine' Con.useK2 (outer := outer) kinds_c ?zF ?zN ?zap_k9 ?zX ?zT ?zp ?zd ?zu ?_; (case zF => k_asm); (case zN => k_asm); (case zap_k9 => exact ap_of kf (by k_asm)); (case zX => k_asm); (case zT => k_asm); (case zp => exact ⟨sna, snb⟩); (case zd => k_extra "my ktr_room"); (case zu => k_extra "my ktr_room")); intro l9 kl9 h9 tk9 kd9 F9 N9 ap9 st9))
  (k_with "binaryOp Mult ref int" => (k_here; k_dflt (refine' KMa.mul ?F_k9 ?N_k9 ?l_k9 ?lo_k9 ?hi_k9 ?z_k9 ?e_k9 ?_; (case F_k9 => k_asm); (case N_k9 => k_asm); (case l_k9 => exact News.isList (by k_asm) (by k_mem)); (case lo_k9 => decide); (case hi_k9 => decide); (case z_k9 => (simp only [List.length_cons, List.length_nil]; decide)); (case e_k9 => exact rfl)); intro _ _ _ _ l8; (try k_lt l8)))
  (k_with "compareOp NotEq ref str" => (k_here; k_dflt (refine' ne_dataH ?ra_k9 ?rb_k9 ?ha_k9 ?hb_k9 ?hu_k9 ?_; (case ra_k9 => ked_read); (case rb_k9 => exact Reads.str _ _); (case ha_k9 => ked_shaped); (case hb_k9 => decide +kernel); (case hu_k9 => ke_room)); ked_norm))
  trivial
/-- the ways, the end -/
theorem st0 {Q : Flow → Shared → Prop} {hs0 : Heap} (sna : Sm n) (snb : Sm m) (b1 : 4 ≤ bits) (b2 : bits ≤ 16) (F : Fr h₀ L s.heap M) (m1 : M "a" = some (.int n ta)) (m2 : M "b" = some (.int m tb)) (N : News h₀ L s.heap ((L + 2, oo) :: (L + 1, ob) :: (tl ++ fe))) (hob : ob.data = .cell (some (.int bits tn))) (kf : ∀ h'', News h₀ L h'' (tl ++ fe) → h''.FunFrames h₀ outer ∧ FrmUp outer hs0 h'')
    (X : (K w.params).In h₀) (T : TopM mean mg mb h₀) (hd : dp + 20 < recursionLimit) (hu : un + 300 < cLine)
    (hq : ∀ h' tk' M' lw te kl, Kinds kl lw n m → Fr h₀ L h' M' → M' "a" = some (.int n ta) → M' "b" = some (.int m tb) → M' "ways" = some (.ref lw) → M' "end" = some (.int (2 ^ (bits - 1).toNat) te) →
      News h₀ L h' (kl ++ (L + 2, oo) :: (L + 1, ob) :: (tl ++ fe)) → (∀ p ∈ kl, p.1 ∉ frm outer) → Q .next { s with heap := h', toks := tk' }) :
    wpAny (model Pg w) (AA dp un (some (prEnv L :: outer)) gd) (exec S0 (prEnv L)) Q (fun _ _ => False) s := by
  refine' st_in ?hb ?hs ?_
  (case hb => (conv => lhs; whnf))
  (case hs => (conv => lhs; whnf))
  replace F := fr_pin2 F m1 m2
  try k_fold
  k_extra "my k_steps"
  rename News _ _ _ _ => nN
  show Q _ _
  exact hq _ _ _ _ _ kl9 kd9 (by k_asm) rfl rfl rfl rfl (news_tl nN) ap9
/-- the ways of a power -/
inductive KOut (outer : List Env) (h₀ hX : Heap) (L : Addr) (m : Str → Option Value) (news : List (Addr × Obj)) (n k : Int) (s : Shared) (v : Value) (s' : Shared) : Prop
  | mk (l : Addr) (kl : List (Addr × Obj)) (h' : Heap) (tk' : Nat) (e1 : v = .ref l) (e2 : s' = { s with heap := h', toks := tk' }) (kd : Kinds kl l n k) (F : Fr h₀ L h' m) (N : News h₀ L h' (kl ++ news)) (ap : ∀ p ∈ kl, p.1 ∉ frm outer) (st : hX.StaysIn h')
/-- at the end: right -/
noncomputable def PrEnd (h₀ hs : Heap) (outer : List Env) (s : Shared) (f : Flow) (s' : Shared) : Prop := f = .ret (.bool true) ∧ ∃ h' tk', s' = { s with heap := h', toks := tk' } ∧ h₀.StaysIn h' ∧ FrmUp outer hs h' ∧ TabI 299 prQ h'
theorem pr_end {h₁ h' : Heap} {tk' : Nat} {M' : Str → Option Value} {tl' : List (Addr × Obj)} {s' : Shared} (hse : s' = { s with heap := h', toks := tk' }) (F : Fr h₀ L h' M') (N : News h₀ L h' ((L + 2, oo) :: (L + 1, ob) :: (tl' ++ fe))) (tabl : TabL h₀ 299 prQ tl') (fk : FrmUp outer hs h₁) (kf : ∀ h'', News h₀ L h'' (tl' ++ fe) → h''.FunFrames h₀ outer ∧ FrmUp outer h₁ h'') : PrEnd h₀ hs outer s (.ret (.bool true)) s' :=
  ⟨rfl, h', tk', hse, F.keep, fk.trans (kf h' (news_tl (news_tl N))).2, tabl.tabI F fun p hp => N p (.tail _ (.tail _ (List.mem_append_left _ hp)))⟩
theorem tail_in {a b c a' b' c' : Stmt} {scope : Scope} {Q : Flow → Shared → Prop} (ha : a = a') (hb : b = b') (hc : c = c') (hs : prS = scope) (FF : s.heap.FunFrames h₀ (prEnv L :: outer))
    (h : s.heap.FunFrames h₀ (envOfC "_law_pair_right" scope L 302 (.ref 301) :: outer) → wpAny (model Pg w) (AA dp un (some (envOfC "_law_pair_right" scope L 302 (.ref 301) :: outer)) gd) (execs [a', b', c'] (envOfC "_law_pair_right" scope L 302 (.ref 301))) Q (fun _ _ => False) s) : wpAny (model Pg w) (AA dp un (some (prEnv L :: outer)) gd) (execs [a, b, c] (prEnv L)) Q (fun _ _ => False) s := by
  subst ha hb hc hs; exact h FF
theorem words14 : True := by
  (k_with "my nw" => first | exact (by assumption) | exact (news_tl (by assumption)) | exact (news_tl (news_tl (by assumption))) | exact (news_tl (news_tl (news_tl (by assumption)))) | exact (news_tl (news_tl (news_tl (news_tl (by assumption))))) | exact (news_tl (news_tl (news_tl (news_tl (news_tl (by assumption)))))) | exact (news_tl (news_tl (news_tl (news_tl (news_tl (news_tl (by assumption))))))) | exact (news_tl (news_tl (news_tl (news_tl (news_tl (news_tl (news_tl (by assumption)))))))) | exact (news_tl (news_tl (news_tl (news_tl (news_tl (news_tl (news_tl (news_tl (by assumption))))))))) | exact (news_tl (news_tl (news_tl (news_tl (news_tl (news_tl (news_tl (news_tl (news_tl (by assumption)))))))))) | exact (news_tl (news_tl (news_tl (news_tl (news_tl (news_tl (news_tl (news_tl (news_tl (news_tl (by assumption))))))))))) | exact (news_tl (news_tl (news_tl (news_tl (news_tl (news_tl (news_tl (news_tl (news_tl (news_tl (news_tl (by assumption)))))))))))) | exact (news_tl (news_tl (news_tl (news_tl (news_tl (news_tl (news_tl (news_tl (news_tl (news_tl (news_tl (news_tl (by assumption))))))))))))) | exact (news_tl (news_tl (news_tl (news_tl (news_tl (news_tl (news_tl (news_tl (news_tl (news_tl (news_tl (news_tl (news_tl (by assumption)))))))))))))) | exact (news_tl (news_tl (news_tl (news_tl (news_tl (news_tl (news_tl (news_tl (news_tl (news_tl (news_tl (news_tl (news_tl (news_tl (by assumption))))))))))))))) | exact (news_tl (news_tl (news_tl (news_tl (news_tl (news_tl (news_tl (news_tl (news_tl (news_tl (news_tl (news_tl (news_tl (news_tl (news_tl (by assumption)))))))))))))))))
  trivial
theorem prTail (hn : n.natAbs < 10 ^ 5) (hm : m.natAbs < 10 ^ 5) (fn : fitsB n bits = true) (fm : fitsB m bits = true) (b1 : 4 ≤ bits) (b2 : bits ≤ 16) (X : (K w.params).In h₀) (T : TopM mean mg mb h₀) (ht : h₀.get? 299 = none) (hd : dp + 20 < recursionLimit) (hu : un + 300 < cLine)
    (x : Ready w mean mg mb h₀ L outer n m bits ta tb tn te lw hs s.heap M oo ob tl) :
    wpAny (model Pg w) (AA dp un (some (prEnv L :: outer)) gd) (execs [S3, S4, S5] (prEnv L)) (PrEnd h₀ hs outer s) (fun _ _ => False) s := by
  obtain ⟨F0, m1, m2, m3, m4, N0, ⟨vo, oo'⟩, ob', tabl, apart, kinds, frames, fk, hout⟩ := x
  obtain ⟨fe, NF, kf0⟩ := frames_news frames.2.2 hout
  have kf : ∀ h'', News h₀ L h'' (tl ++ fe) → h''.FunFrames h₀ outer ∧ FrmUp outer hs h'' := fun h'' N => let ⟨y1, y2⟩ := kf0 h'' fun p hp => N p (List.mem_append_right _ hp); ⟨y1, fk.trans y2⟩
  have N1 : News h₀ L s.heap ((L + 2, oo) :: (L + 1, ob) :: (tl ++ fe)) := fun p hp => by
    rcases List.mem_cons.mp hp with rfl | hp
    · exact N0 _ (.head _)
    rcases List.mem_cons.mp hp with rfl | hp
    · exact N0 _ (.tail _ (.head _))
    rcases List.mem_append.mp hp with hp | hp
    · exact N0 _ (.tail _ (.tail _ hp))
    · exact NF _ hp
  have tabl' : TabL h₀ 299 prQ ((L + 2, oo) :: (L + 1, ob) :: tl) := tabl.more fun p hp => .tail _ (.tail _ hp)
  have n2 : L + 2 ≠ 299 := tabl'.but N0 (.head _) fun vs z => by rw [oo'] at z; cases z
  have n1 : L + 1 ≠ 299 := tabl'.but N0 (.tail _ (.head _)) fun vs z => by rw [ob'] at z; cases z
  refine' tail_in ?ha ?hb ?hc ?hs frames ?_
  (case ha => (conv => lhs; whnf))
  (case hb => (conv => lhs; whnf))
  (case hc => (conv => lhs; whnf))
  (case hs => (conv => lhs; whnf))
  intro frames
  replace F0 := fr_pin4 F0 m1 m2 m3 m4
  have c0 : 0 ≤ m.fmod 4 := Int.fmod_nonneg_of_pos _ (by decide)
  have c3 : m.fmod 4 ≤ 3 := by have := Int.fmod_lt_of_pos m (show (0 : Int) < 4 by decide); omega
  have sna : Sm n := Sm.le (k := 5) (Nat.le_of_lt hn) (by decide)
  have snb : Sm (m.fmod 4) := Sm.small (by omega) (by omega)
  have sp : (n ^ (m.fmod 4).toNat).natAbs < 10 ^ 20 := by
    rw [Int.natAbs_pow]
    calc n.natAbs ^ (m.fmod 4).toNat ≤ (10 ^ 5) ^ (m.fmod 4).toNat := Nat.pow_le_pow_left (Nat.le_of_lt hn) _
      _ ≤ (10 ^ 5) ^ 3 := Nat.pow_le_pow_right (by decide) (by omega)
      _ < 10 ^ 20 := by decide
  have snp : Sm (n ^ (m.fmod 4).toNat) := Sm.le (k := 20) (Nat.le_of_lt sp) (by decide)
  have fs : fitsB (m.fmod 4) bits = true := by
    have p : (8 : Int) ≤ 2 ^ (bits - 1).toNat := by
      have : (2 : Nat) ^ 3 ≤ 2 ^ (bits - 1).toNat := Nat.pow_le_pow_right (by decide) (by omega)
      exact_mod_cast this
    exact decide_eq_true ⟨by omega, by omega⟩
  have hC : ∀ (k k' : Bool) (vx vy : Value) (t0 t3 : Tok), Con w mean mg mb 220 [.str "^" t0, vx, vy, .int bits tn, .int 60 t3] 8 128 (fun h => isV h k n vx ∧ isV h k' (m.fmod 4) vy) (fun h h' r => isW true h h' (lawDec (n ^ (m.fmod 4).toNat)) r) := fun k k' vx vy t0 t3 =>
    reck_pow.mono (fun h y => ⟨y.1, y.2, b1, b2, hn, by omega, fn, fs, by decide, c0, c3⟩) (fun _ _ _ o => isW_V o snp) (Nat.le_refl _) (Nat.le_refl _)
  try k_fold
  clear N0 NF
  k_extra "my k_steps"
  rename Fr _ _ _ _ => FX
  rename Heap => hX
  obtain ⟨M1, tsm, F1, p1, p2⟩ : ∃ M1 tsm, Fr h₀ L hX M1 ∧ M1 "a" = some (.int n ta) ∧ M1 "small" = some (.int (m.fmod 4) tsm) := ⟨_, _, FX, rfl, rfl⟩
  clear FX
  have FX := fr_pin2 F1 p1 p2
  clear F1
  refine comp_assign (L := L) (h₀ := h₀) (tab := 299) (P := PT hX (lawDec (n ^ (m.fmod 4).toNat))) (m := (fun t => if t = "a" then some (.int n ta) else if t = "small" then some (.int (m.fmod 4) tsm) else M1 t)) (mean := mean) (mg := mg) (mb := mb) rfl rfl rfl ?zn hout rfl rfl rfl ?main
  case zn => decide
  case main =>
    refine wpAny_mono (Q := KOut outer h₀ hX L (fun t => if t = "a" then some (.int n ta) else if t = "small" then some (.int (m.fmod 4) tsm) else M1 t) ((L + 2, oo) :: (L + 1, ob) :: (tl ++ fe)) n (m.fmod 4) s) ?walk (fun xv s₁ hk => ?impl) fun _ _ e => e
    case walk =>
      k_extra "my k_steps"
      exact ⟨l9, kl9, _, _, rfl, rfl, kd9, F9, N9, ap9, st9⟩
    case impl =>
      obtain ⟨l, kl, h1', tk1', rfl, rfl, kd, F1, NK, ap, st⟩ := hk
      have N3 : News h₀ L h1' (tl ++ fe) := fun p hp => NK p (List.mem_append_right _ (.tail _ (.tail _ hp)))
      have N0 : News h₀ L h1' ((L + 2, oo) :: (L + 1, ob) :: (kl ++ tl)) := fun p hp => by
        rcases List.mem_cons.mp hp with rfl | hp
        · exact NK _ (List.mem_append_right _ (.head _))
        rcases List.mem_cons.mp hp with rfl | hp
        · exact NK _ (List.mem_append_right _ (.tail _ (.head _)))
        rcases List.mem_append.mp hp with hp | hp
        · exact NK _ (List.mem_append_left _ hp)
        · exact NK _ (List.mem_append_right _ (.tail _ (.tail _ (List.mem_append_left _ hp))))
      have apart' : Apart outer ((L + 2, oo) :: (L + 1, ob) :: (kl ++ tl)) := fun p hp => by
        rcases List.mem_cons.mp hp with rfl | hp
        · exact apart (L + 2, oo) (.head _)
        rcases List.mem_cons.mp hp with rfl | hp
        · exact apart (L + 1, ob) (.tail _ (.head _))
        rcases List.mem_append.mp hp with hp | hp
        · exact ap _ hp
        · exact apart p (.tail _ (.tail _ hp))
      have tabl2 : TabL h₀ 299 prQ ((L + 2, oo) :: (L + 1, ob) :: (kl ++ tl)) := tabl.more fun p hp => .tail _ (.tail _ (List.mem_append_right _ hp))
      have kinds' : Kinds ((L + 2, oo) :: (L + 1, ob) :: (kl ++ tl)) l n (m.fmod 4) := kd.sub fun p hp => .tail _ (.tail _ (List.mem_append_left _ hp))
      have frames' : h1'.FunFrames h₀ (envOfC "_law_pair_right" (sScope (stm 45)) L 302 (.ref 301) :: outer) := by
        refine ⟨frames.1, ?_, (kf h1' N3).1⟩
        obtain ⟨o, es, ep, g, d, _⟩ := F1.ns
        exact ⟨L, o, rfl, by
          cases z : h₀.get? L with
          | none => rfl
          | some o' => exact absurd (Heap.lt_size z) (Nat.not_lt.mpr F1.above), g, fun vs q => by rw [d] at q; cases q⟩
      have fk1 : FrmUp outer hs h1' := (kf h1' N3).2
      obtain ⟨items, hz, hl, hit⟩ := kinds'.its
      refine ⟨301, 15, 227, fun h h' r => isPf true h h' (lawDec (n ^ (m.fmod 4).toNat)) r, KIt ((L + 2, oo) :: (L + 1, ob) :: (kl ++ tl)) n (m.fmod 4), clos3 L, items, l, (L + 2, oo) :: (L + 1, ob) :: (kl ++ tl), rfl, ?ci, by omega, by omega, ?_⟩
      case ci =>
        refine' { hf := rfl, fr := F1, news := N0, apart := apart', tabl := tabl2, frames := frames', k := X, top := T, tab0 := ht, head := head_at X, e1 := rfl, e2 := rfl, ck := rfl, e4 := fun _ => rfl, e6 := fun _ => rfl, e7 := fun _ => rfl, e5 := fun _ => rfl, hcs := fun _ => rfl, hpc := fun _ => rfl, lst := hl, its := hit, work := ?wk9, hO := ?ho, hP := fun _ _ _ t x => x.tups t, hz := ?z }
        case z => omega
        case ho =>
          intro h₁ h' v k y
          refine pt_o h₁ h' v (fun b z => k b ?_) y
          cases e : hX.get? b with
          | none => exact absurd e z
          | some o => rw [st _ _ e]; exact fun q => nomatch q
        case wk9 =>
          intro base hb x y C f hxy
          refine work5s hC ?S ob' (hb _ (.tail _ (.head _)) n1) ?xy
          case S => exact ⟨rfl, rfl, rfl, by decide, rfl, fun q => (nomatch q), rfl, rfl, rfl⟩
          case xy =>
            obtain ⟨k, k', hx, hy⟩ := hxy
            exact ⟨k, k', hx.at fun a t u hm => hb _ hm (tabl2.but N0 hm fun vs z => nomatch z), hy.at fun a t u hm => hb _ hm (tabl2.but N0 hm fun vs z => nomatch z)⟩
      intro D h' tk' hD
      rw [hz] at hD
      refine comp_told hD F1 hout n1 n2 fun tl' fe v1 v2 v3 v4 nD F2 N1 tabl1 apart1 kt kf1 x1 x2 x3 x4 => ?_
      refine told_news F2 FX N1 x1 x2 x3 x4 fun a1 a2 a3 a4 t1 t2 t3 t4 u1 u2 u3 u4 e1 e2 e3 e4 k1 k2 k3 k4 s1 s2 s3 s4 N2 => ?_
      clear N0 N1 NK N3 F1 FX hD kf hl hit
      k_extra "my k_steps"
      all_goals k_dflt (exact pr_end rfl (by k_asm) (by k_extra "my nw") tabl1 fk1 kf1)
end
end
section
set_option maxHeartbeats 8000000
noncomputable abbrev S1 : Stmt := (sBody (stm 45)).getD 1 (.Pass default)
noncomputable abbrev S2 : Stmt := (sBody (stm 45)).getD 2 (.Pass default)
theorem body6 : sBody (stm 45) = [S0, S1, S2, S3, S4, S5] := by kernel_rfl
section
variable {w : World} {mean : ExcName → Option Value} {mg mb : Str → Option Value} {h₀ : Heap} {L lw : Addr} {outer : List Env} {n m bits : Int} {ta tb tn te : Tok} {op : Str} {to : Tok} {M : Str → Option Value} {hs : Heap} {oo ob : Obj} {tl : List (Addr × Obj)} {s : Shared} {fe news : List (Addr × Obj)} {dp un : Nat} {gd : Option (List Code)}
theorem pair_right_c {base : Heap} {t1 t2 t3 : Tok} {Q E : Value → Shared → Prop} (hn : n.natAbs < 10 ^ 5) (hm : m.natAbs < 10 ^ 5) (fn : fitsB n bits = true) (fm : fitsB m bits = true) (b1 : 4 ≤ bits) (b2 : bits ≤ 16)
    (X : (K w.params).In base) (T : TopM mean mg mb base) (B : base.StaysIn s.heap) (h299 : base.get? 299 = none) (FF : s.heap.FunFrames base outer) (TI : TabI 299 prQ s.heap) (hd : dp + 24 < recursionLimit) (hu : un + 400 < cLine)
    (hq : ∀ h' tk', (∀ b o, b ≠ 299 → b ∉ frm outer → s.heap.get? b = some o → h'.get? b = some o) → FrmUp outer s.heap h' → TabI 299 prQ h' → Q (.bool true) { s with heap := h', toks := tk' }) :
    wpAny (model Pg w) (AA dp un (some outer) gd) (call (.ref 302) [.int n t1, .int m t2, .int bits t3]) Q E s := by
  have X' := X.keeps B
  have T' := T.keeps B
  refine' enterC (i := 45) ?eX ?eT ?eo ?ec ?er ?ep ?eb ?es ?ez ?ek ?el ?en ?_ ?e1 ?e2 ?e3
  (case eX => assumption)
  (case eT => assumption)
  (case eo => k_is)
  (case ec => k_is)
  (case er => (show (_ : Nat) < _; (try dsimp only [AA]); omega))
  (case ep => (conv => lhs; whnf))
  (case eb => exact body6)
  (case es => (conv => lhs; whnf))
  (case ez => (conv => lhs; simp only [List.map_cons, List.map_nil, List.zip_cons_cons, List.zip_nil_right, List.zip_nil_left]))
  (case ek => exact rfl)
  (case el => exact rfl)
  (case en => decide +kernel)
  (case e1 => exact rfl)
  (case e2 => exact rfl)
  (case e3 => exact rfl)
  intro L' h' tk' cells' F' N' Y'
  k_cells Y'
  try simp only [List.cons_append, List.nil_append] at N'
  rename_i oo ob e1 e2
  have dob : ob.data = .cell (some (.int bits t3)) := e2
  have dop : oo.data = .cell none := e1
  clear e1 e2
  have st : base.StaysIn (hideAll s.heap (299 :: frm outer)) := fun b o e => hideAll_get _ (B b o e) fun hm => by
    rcases List.mem_cons.mp hm with z | hm
    · rw [z, h299] at e; cases e
    · rw [(FF.mem hm).1] at e; cases e
  have ht : (hideAll s.heap (299 :: frm outer)).get? 299 = none := hideAll_none _ (.head _)
  have up : (hideAll s.heap (299 :: frm outer)).StaysIn s.heap := fun b o e => of_hideAll _ e
  have back : ∀ b o, b ≠ 299 → b ∉ frm outer → s.heap.get? b = some o → (hideAll s.heap (299 :: frm outer)).get? b = some o := fun b o n1 n2 e => hideAll_get _ e fun hm => by
    rcases List.mem_cons.mp hm with z | hm
    · exact n1 z
    · exact n2 hm
  have FF0 : s.heap.FunFrames (hideAll s.heap (299 :: frm outer)) outer := funFrames_hide FF fun e he a ha => List.mem_cons_of_mem _ (List.mem_filterMap.mpr ⟨e, he, ha⟩)
  have sz : (hideAll s.heap (299 :: frm outer)).objs.size = s.heap.objs.size := hideAll_size _ _
  generalize hideAll s.heap (299 :: frm outer) = h₀ at *
  have F0 := (⟨F'.ns, fun b o e => F'.keep b o (up b o e), by rw [sz]; exact F'.above⟩ : Fr h₀ L' h' _)
  have FFh : h'.FunFrames h₀ outer := FF0.of_keeps fun b o e _ => ⟨o, F'.keep b o e, rfl⟩
  have TI' : TabI 299 prQ h' := TI.keeps fun b o vs e _ => F'.keep b o e
  have hout : L' ∉ frm outer := fun hm => by
    obtain ⟨_, o, g, _⟩ := FF.mem hm
    exact absurd (Heap.lt_size g) (Nat.not_lt.mpr F'.above)
  have nofr : ∀ a, s.heap.get? a = none → a ∉ frm outer := fun a e hm => by
    obtain ⟨_, o, g, _⟩ := FF.mem hm
    rw [g] at e; cases e
  have no0 : ∀ a, s.heap.get? a = none → h₀.get? a = none := fun a e => by
    cases z : h₀.get? a with
    | none => rfl
    | some o => rw [up _ _ z] at e; cases e
  obtain ⟨tl, NT, tabl, apart0, _, _⟩ := tail_of (tl := []) TI' F0 FFh (fun _ h => nomatch h) (fun _ h => nomatch h) ht
  obtain ⟨fe, NF, kf0⟩ := frames_news FFh hout
  have c2 := N' _ (.head _)
  have c1 := N' _ (.tail _ (.head _))
  have N0 : News h₀ L' h' ((L' + 2, oo) :: (L' + 1, ob) :: (tl ++ fe)) := fun p hp => by
    rcases List.mem_cons.mp hp with rfl | hp
    · exact ⟨c2.1, c2.2.1, no0 _ c2.2.2⟩
    rcases List.mem_cons.mp hp with rfl | hp
    · exact ⟨c1.1, c1.2.1, no0 _ c1.2.2⟩
    rcases List.mem_append.mp hp with hp | hp
    · exact NT p hp
    · exact NF p hp
  have kf : ∀ h'', News h₀ L' h'' (tl ++ fe) → h''.FunFrames h₀ outer ∧ FrmUp outer s.heap h'' := fun h'' N => let ⟨y1, y2⟩ := kf0 h'' fun p hp => N p (List.mem_append_right _ hp); ⟨y1, FrmUp.trans (fun b o _ e => ⟨o.slots, F'.keep b o e⟩) y2⟩
  have sna : Sm n := Sm.le (k := 5) (Nat.le_of_lt hn) (by decide)
  have snb : Sm m := Sm.le (k := 5) (Nat.le_of_lt hm) (by decide)
  have X0 := X.keeps st
  have T0 := T.keeps st
  show wpAny (model Pg w) (AA (dp + 1) (un + 3) (some (prEnv L' :: outer)) gd) (execs [S0, S1, S2, S3, S4, S5] (prEnv L')) _ _ _
  refine wpAny_execs_cons (st0 (hs0 := s.heap) sna snb b1 b2 F0 rfl rfl N0 dob kf X0 T0 (by omega) (by omega) fun h1 tk1 M1 lw te kl kd F1 p1 p2 p3 p4 N1 ap => ?_)
  have N3 : News h₀ L' h1 (tl ++ fe) := fun p hp => N1 p (List.mem_append_right _ (.tail _ (.tail _ hp)))
  have R : Ready w mean mg mb h₀ L' outer n m bits t1 t2 t3 te lw s.heap h1 M1 oo ob (kl ++ tl) := by
    refine ⟨F1, p1, p2, p3, p4, fun p hp => ?_, ⟨_, dop⟩, dob, tabl.more fun p hp => List.mem_append_right _ hp, fun p hp => ?_, kd.sub fun p hp => List.mem_append_left _ hp, ⟨?_, ?_, (kf h1 N3).1⟩, (kf h1 N3).2, hout⟩
    · rcases List.mem_cons.mp hp with rfl | hp
      · exact N1 _ (List.mem_append_right _ (.head _))
      rcases List.mem_cons.mp hp with rfl | hp
      · exact N1 _ (List.mem_append_right _ (.tail _ (.head _)))
      rcases List.mem_append.mp hp with hp | hp
      · exact N1 _ (List.mem_append_left _ hp)
      · exact N1 _ (List.mem_append_right _ (.tail _ (.tail _ (List.mem_append_left _ hp))))
    · rcases List.mem_cons.mp hp with rfl | hp
      · exact nofr _ c2.2.2
      rcases List.mem_cons.mp hp with rfl | hp
      · exact nofr _ c1.2.2
      rcases List.mem_append.mp hp with hp | hp
      · exact ap _ hp
      · exact apart0 _ hp
    · intro z
      have : (prEnv L').scope.kind = .function := by rfl
      rw [this] at z; cases z
    · obtain ⟨o, es, ep, g, d, _⟩ := F1.ns
      exact ⟨L', o, rfl, by
        cases z : h₀.get? L' with
        | none => rfl
        | some o' => exact absurd (Heap.lt_size z) (Nat.not_lt.mpr F1.above), g, fun vs q => by rw [d] at q; cases q⟩
  refine wpAny_execs_cons (loop1 hn hm fn fm b1 b2 X0 T0 ht (by omega) (by omega) R fun h2 tk2 M2 oo2 ob2 tl2 R2 => ?_)
  refine wpAny_execs_cons (loop2 hn hm fn fm b1 b2 X0 T0 ht (by omega) (by omega) R2 fun h3 tk3 M3 oo3 ob3 tl3 R3 => ?_)
  refine wpAny_mono (prTail hn hm fn fm b1 b2 X0 T0 ht (by omega) (by omega) R3) (fun f s' y => ?_) (fun _ _ e => e)
  obtain ⟨rfl, h4, tk4, rfl, st4, up4, ti4⟩ := y
  exact hq h4 tk4 (fun b o n1 n2 e => st4 b o (back b o n1 n2 e)) up4 ti4
end
end
section
set_option maxHeartbeats 2000000
noncomputable abbrev ctE (p0 p1 p2 p3 p4 p5 p6 : Pos) : Expr := .Call (.Name "stands_so" p0) [.Name "op" p1, .Call (.Name "order_of" p2) [.Name "one" p3, .Name "other" p4] [] p5] [] p6
section
variable {w : World} {mean : ExcName → Option Value} {mg mb : Str → Option Value} {h₀ : Heap} {L c1 c2 C : Addr} {n m : Int} {k k' : Bool} {v1 v2 : Value} {s : Shared} {dp un : Nat} {fr : Option (List Env)} {gd : Option (List Code)} {env : Env} {m₂ : Str → Option Value} {opn : Str} {t : Tok} {Q : Bool → Shared → Prop} {E : Value → Shared → Prop} {p0 p1 p2 p3 p4 p5 p6 : Pos}
theorem ord_cond (X : (K w.params).In s.heap) (T : TopM mean mg mb s.heap) (hk : env.scope.kind = .function) (g1 : env.kindOf "stands_so" = some .globalImplicit) (g2 : env.kindOf "order_of" = some .globalImplicit) (l1 : env.kindOf "op" = some .local) (l2 : env.kindOf "one" = some .cell) (l3 : env.kindOf "other" = some .cell)
    (hg : env.globals = mainGlobals) (d1 : env.cells.lookup ("one" : Str) = some c1) (d2 : env.cells.lookup ("other" : Str) = some c2) (e1 : s.heap.IsCell c1 (some v1)) (e2 : s.heap.IsCell c2 (some v2)) (hn : s.heap.Ns env.locals m₂) (ho : m₂ "op" = some (.str opn t))
    (i1 : isV s.heap k n v1) (i2 : isV s.heap k' m v2) (b1 : n.natAbs < 10 ^ 10) (b2 : m.natAbs < 10 ^ 10) (hd : dp + 8 < recursionLimit) (hu : un + 120 < cLine)
    (hq : ∀ h' tk', s.heap.StaysIn h' → Q (standsB opn (cmpI n m)) { s with heap := h', toks := tk' }) :
    wpAny (model Pg w) (AA dp un fr gd) (isTrue (ctE p0 p1 p2 p3 p4 p5 p6) env (eval (ctE p0 p1 p2 p3 p4 p5 p6) env)) Q E s := by
  have f1 : FnAt 241 s.heap := ⟨_, _, _, _, X 241 _ (by rfl)⟩
  have f2 : FnAt 234 s.heap := ⟨_, _, _, _, X 234 _ (by rfl)⟩
  refine wpAny_isTrue_value ?_
  refine wpAny_Call_ofName ?_
  refine Calls.Name_function_global hk g1 (Calls.loadGlobal_global (env := env) (v := .ref 241) (hg ▸ T.g) (mg_of X T.g (by kernel_rfl)) ?_) (by decide)
  refine callWith_F f1 ?_
  refine spliced_more (wpAny_Name (wpAny_loadName_local hk l1 hn ho ?_))
  refine spliced_more ?_
  refine wpAny_Call_ofName ?_
  refine Calls.Name_function_global hk g2 (Calls.loadGlobal_global (env := env) (v := .ref 234) (hg ▸ T.g) (mg_of X T.g (by kernel_rfl)) ?_) (by decide)
  refine callWith_F f2 ?_
  refine spliced_more (wpAny_Name (wpAny_loadName_cell hk l2 d1 e1 ?_))
  refine spliced_more (wpAny_Name (wpAny_loadName_cell hk l3 d2 e2 ?_))
  refine spliced_none ⟨f2, ?_⟩
  refine order_v dp un fr gd s _ _ X T ⟨i1, i2, b1, b2⟩ (by omega) (by omega) fun r h' tk' st o => ?_
  obtain ⟨t2, rfl⟩ := o
  refine spliced_none ⟨fnAt_keeps f1 st, ?_⟩
  refine stands_c dp un fr gd _ _ _ (X.keeps st) (T.keeps st) trivial (by omega) (by omega) fun r h2 tk2 st2 o => ?_
  obtain rfl := o
  refine wpAny_truthy_bool ?_
  exact hq h2 tk2 fun b o e => st2 b o (st b o e)
end
end
section
set_option maxHeartbeats 2000000
noncomputable def oneOp (o : Int) (v : Value) : Bool := match v with
  | .str x _ => standsB x o
  | _ => false
theorem paired_eq {l l' : List Value} (h : Paired (fun a b => b = a) l l') : l' = l := by
  induction h with
  | nil => rfl
  | cons e _ ih => rw [e, ih]
section
variable {w : World} {mean : ExcName → Option Value} {mg mb : Str → Option Value} {h₀ : Heap} {c1 c2 C : Addr} {n m : Int} {k k' : Bool} {v1 v2 : Value} {s : Shared} {dp un : Nat} {fr : Option (List Env)} {gd : Option (List Code)} {env : Env} {M : Str → Option Value} {news : List (Addr × Obj)} {Q : Flow → Shared → Prop} {E : Value → Shared → Prop} {p0 p1 p2 p3 p4 p5 p6 pe px pos py spos : Pos} {cl : List (Str × Addr)} {scope : Scope} {iter : Expr} {y : Str}
/-- the operators that stand -/
theorem ord_comp (hsw : swapsWith (.ListComp (.Name "op" pe) [⟨.Name "op" px, iter, [ctE p0 p1 p2 p3 p4 p5 p6], 0⟩] scope pos) (some (.Name y py)) spos.line env = pure true) (hclos : closureFor scope env = pure cl) (hcell : ∀ z ∈ scope.names, z.2 ≠ .cell) (hkind : scope.kind = .function)
    (hnames : ∀ z ∈ scope.names, z.2 = .local → scope.names.lookup z.1 = some .local) (hx : scope.names.lookup ("op" : Str) = some .local) (hy : env.kindOf y = some .local) (hp : (env.scope.kind == .class || (env.scope.kind == .module && env.locals != env.globals)) = false)
    (g1 : ∀ C, (compEnvC scope cl C env).kindOf "stands_so" = some .globalImplicit) (g2 : ∀ C, (compEnvC scope cl C env).kindOf "order_of" = some .globalImplicit) (l2 : ∀ C, (compEnvC scope cl C env).kindOf "one" = some .cell) (l3 : ∀ C, (compEnvC scope cl C env).kindOf "other" = some .cell)
    (hg : env.globals = mainGlobals) (d1 : cl.lookup ("one" : Str) = some c1) (d2 : cl.lookup ("other" : Str) = some c2) (hd : dp + 8 < recursionLimit) (hu : un + 120 < cLine)
    (h : wpAny (model Pg w) (AA dp un fr gd) (eval iter env) (fun xv s₁ => ∃ ax items, xv = .ref ax ∧ s₁.heap.IsTuple ax items ∧ items.size ≤ 10 ∧ (∀ (i : Nat) (v : Value), items[i]? = some v → ∃ o t, v = .str o t) ∧ (K w.params).In s₁.heap ∧ TopM mean mg mb s₁.heap ∧ Fr h₀ env.locals s₁.heap M ∧ News h₀ env.locals s₁.heap news ∧
      s₁.heap.IsCell c1 (some v1) ∧ s₁.heap.IsCell c2 (some v2) ∧ isV s₁.heap k n v1 ∧ isV s₁.heap k' m v2 ∧ n.natAbs < 10 ^ 10 ∧ m.natAbs < 10 ^ 10 ∧
      ∀ D h' tk' nD, Fr h₀ env.locals h' (fun z => if z = y then some (.ref D) else M z) → News h₀ env.locals h' ((D, { cls := .type "list", data := .seq (items.toList.filter (oneOp (cmpI n m))).toArray nD }) :: news) → Q .next { s₁ with heap := h', toks := tk' }) E s)
    (hs : ∀ x, foldedSetIterable iter env x = pure x := by intro _; rfl) :
    wpAny (model Pg w) (AA dp un fr gd) (exec (.Assign [.Name y py] (.ListComp (.Name "op" pe) [⟨.Name "op" px, iter, [ctE p0 p1 p2 p3 p4 p5 p6], 0⟩] scope pos) spos) env) Q E s := by
  refine wpAny_Assign_ListComp_free (oneOp (cmpI n m)) (fun a b => b = a) hsw hclos hcell hkind hnames hx hy hp (wpAny_mono h (fun xv s₁ h₁ => ?_) fun _ _ e => e) hs
  obtain ⟨ax, items, rfl, hl, hsz, hit, X, T, F, N, a1, a2, i1, i2, b1, b2, hq⟩ := h₁
  refine wpAny_pyIter_tuple hl ?_
  have up : ∀ b o, s₁.heap.get? b = some o → (s₁.heap.push { cls := .type "tuple_iterator", data := .fields #[.ref ax, .int 0 0] }).get? b = some o := fun b o e => Heap.get?_push_of_some _ e
  have hax : ax < s₁.heap.objs.size := by obtain ⟨_, e, _⟩ := hl; exact Heap.lt_size e
  have hI : ∀ b o, s₁.heap.get? b = some o → b ≠ s₁.heap.objs.size := fun b o e => Nat.ne_of_lt (Heap.lt_size e)
  have it0 : (s₁.heap.push { cls := .type "tuple_iterator", data := .fields #[.ref ax, .int 0 0] }).IsTupleIter s₁.heap.objs.size ax 0 := ⟨_, Heap.get?_push_size _ rfl, rfl, rfl⟩
  have hf : ∀ b ∈ [s₁.heap.objs.size, ax], b < (s₁.heap.push { cls := .type "tuple_iterator", data := .fields #[.ref ax, .int 0 0] }).objs.size := fun b hb => by
    rw [Heap.size_push]
    rcases List.mem_cons.mp hb with rfl | hb
    · exact Nat.lt_succ_self _
    · rw [List.mem_singleton.mp hb]; exact Nat.lt_succ_of_lt hax
  have hL : env.locals ≠ s₁.heap.objs.size := by obtain ⟨o, _, _, g, _⟩ := F.ns; exact hI _ _ g
  generalize s₁.heap.push { cls := .type "tuple_iterator", data := .fields #[.ref ax, .int 0 0] } = h2 at *
  have axI : ax ≠ s₁.heap.objs.size := Nat.ne_of_lt hax
  refine ⟨s₁.heap.objs.size, [s₁.heap.objs.size, ax], [s₁.heap.objs.size], items.size, _, _, M, rfl, Walks.tuple rfl _ ax axI items, Nat.le_trans hsz (by decide), ⟨it0, let ⟨o, g, r⟩ := hl; ⟨o, up _ _ g, r⟩⟩, hf, by simpa using hL, ns_move F.ns fun o e => up _ _ e, ⟨?_, ?_⟩, ?_⟩
  · intro C i v s₃ m₃ E' hC hv hn hm hk _
    obtain ⟨o, t, rfl⟩ := hit i v hv
    have st : s₁.heap.StaysIn s₃.heap := fun b o e => hk b o (by simpa using hI b o e) (up b o e)
    have mv : ∀ {c : Addr} {v : Option Value}, s₁.heap.IsCell c v → s₃.heap.IsCell c v := fun ⟨o, g, d⟩ => ⟨o, st _ _ g, d⟩
    refine wpAny_tests_one (ord_cond (env := compEnvC scope cl C env) (X.keeps st) (T.keeps st) hkind (g1 C) (g2 C) (lookup_relabel_local hx) (l2 C) (l3 C) hg d1 d2 (mv a1) (mv a2) hn hm (i1.keeps st) (i2.keeps st) b1 b2 hd hu fun h' tk' st' => ?_)
    exact ⟨rfl, h', tk', rfl, st'⟩
  · intro C i v s₃ m₃ E' hC hv _ hn hm hk _
    exact wpAny_Name (wpAny_loadName_local hkind (lookup_relabel_local hx) hn hm ⟨rfl, s₃.heap, s₃.toks, rfl, fun _ _ e => e⟩)
  · intro D h' tk ys vs hD hDl hDp hlen hvs hpair hns hk
    have st : ∀ b o, b ≠ env.locals → s₁.heap.get? b = some o → h'.get? b = some o := fun b o z e => hk b o z (by simpa using hI b o e) (up b o e)
    have ev : vs = items.toList := by
      apply List.ext_getElem?
      intro j
      by_cases hj : j < vs.length
      · have := hvs j vs[j] (by simp [hj])
        rw [List.getElem?_eq_getElem hj, ← Array.getElem?_toList] at *
        exact this.symm
      · rw [List.getElem?_eq_none (by omega), List.getElem?_eq_none (by simpa using by omega)]
    subst ev
    have ey := paired_eq hpair
    obtain ⟨nD, gD⟩ := hDp
    have hD1 : s₁.heap.get? D = none := by
      cases z : s₁.heap.get? D with
      | none => rfl
      | some o => rw [up _ _ z] at hD; cases hD
    have h0L : h₀.get? env.locals = none := Heap.get?_none_of_le F.above
    have F' : Fr h₀ env.locals h' (fun z => if z = y then some (.ref D) else M z) := ⟨hns, fun b o e => st b o (fun z => by rw [z, h0L] at e; cases e) (F.keep b o e), F.above⟩
    refine hq D h' tk nD F' fun p hp => ?_
    rcases List.mem_cons.mp hp with rfl | hp
    · refine ⟨by rw [gD]; congr; rw [← ey], fun z => ?_, ?_⟩
      · obtain ⟨o, _, _, g, _⟩ := F.ns
        dsimp only at z
        rw [z, g] at hD1; cases hD1
      · cases z : h₀.get? D with
        | none => rfl
        | some o => rw [F.keep _ _ z] at hD1; cases hD1
    · exact ⟨st _ _ (N p hp).2.1 (N p hp).1, (N p hp).2⟩
end
end
section
section
set_option maxHeartbeats 8000000
section
variable {w : World} {mean : ExcName → Option Value} {mg mb : Str → Option Value} {t1 t2 t3 t4 t5 u1 u2 u3 u4 : Tok} {a b : Addr} {va vb : Value}
theorem order_o {k k' : Bool} {n m o : Int} : Con w mean mg mb 234 [va, vb] 6 96 (fun h => isV h k n va ∧ isV h k' m vb ∧ n.natAbs < 10 ^ 10 ∧ m.natAbs < 10 ^ 10 ∧ cmpI n m = o) (OutI o) := by
  intro dp un fr gd s Q E X T ⟨h1, h2, h3, h4, e⟩
  exact e ▸ order_v dp un fr gd s Q E X T ⟨h1, h2, h3, h4⟩
end
noncomputable abbrev orS : Scope := sScope (stm 46)
noncomputable abbrev orEnv (L : Addr) : Env := envOfC "_law_order_right" orS L 307 (.ref 306)
theorem isV_now {h₀ h : Heap} {L : Addr} {tl : List (Addr × Obj)} {k : Bool} {n : Int} {v : Value} (x : isVL tl k n v) (N : News h₀ L h tl) : isV h k n v := x.at fun a t u hm => (N _ hm).1
section
variable {w : World} {mean : ExcName → Option Value} {mg mb : Str → Option Value} {h₀ : Heap} {L : Addr} {n m : Int} {ta tb to : Tok} {k k' : Bool} {v1 v2 : Value} {M : Str → Option Value} {o1 o2 : Obj} {tl : List (Addr × Obj)} {s : Shared} {dp un : Nat} {fr : Option (List Env)} {gd : Option (List Code)}
theorem ord_in {body : List Stmt} {scope : Scope} {Q : Flow → Shared → Prop} (hb : forB ((sBody (stm 46)).getD 1 (.Pass default)) = body) (hs : sScope (stm 46) = scope)
    (h : wpAny (model Pg w) (AA dp un fr gd) (execs body (envOfC "_law_order_right" scope L 307 (.ref 306))) Q (fun _ _ => False) s) :
    wpAny (model Pg w) (AA dp un fr gd) (execs (forB ((sBody (stm 46)).getD 1 (.Pass default))) (orEnv L)) Q (fun _ _ => False) s := by
  subst hb hs; exact h
theorem sb : (standsB "=" (-1) = false ∧ standsB "<>" (-1) = true ∧ standsB "<" (-1) = true ∧ standsB ">" (-1) = false ∧ standsB "<=" (-1) = true ∧ standsB ">=" (-1) = false) := by decide +kernel
theorem sb1 : (standsB "=" 1 = false ∧ standsB "<>" 1 = true ∧ standsB "<" 1 = false ∧ standsB ">" 1 = true ∧ standsB "<=" 1 = false ∧ standsB ">=" 1 = true) := by decide +kernel
theorem sb0 : (standsB "=" 0 = true ∧ standsB "<>" 0 = false ∧ standsB "<" 0 = false ∧ standsB ">" 0 = false ∧ standsB "<=" 0 = true ∧ standsB ">=" 0 = true) := by decide +kernel
theorem ops_lt {t0 t1 t2 t3 t4 t5 : Tok} : ([Value.str "=" t0, .str "<>" t1, .str "<" t2, .str ">" t3, .str "<=" t4, .str ">=" t5].filter (oneOp (-1))) = [.str "<>" t1, .str "<" t2, .str "<=" t4] := by
  obtain ⟨a, b, c, d, e, f⟩ := sb
  simp only [List.filter_cons, List.filter_nil, oneOp, a, b, c, d, e, f, if_true, if_false, Bool.false_eq_true]
theorem ops_gt {t0 t1 t2 t3 t4 t5 : Tok} : ([Value.str "=" t0, .str "<>" t1, .str "<" t2, .str ">" t3, .str "<=" t4, .str ">=" t5].filter (oneOp 1)) = [.str "<>" t1, .str ">" t3, .str ">=" t5] := by
  obtain ⟨a, b, c, d, e, f⟩ := sb1
  simp only [List.filter_cons, List.filter_nil, oneOp, a, b, c, d, e, f, if_true, if_false, Bool.false_eq_true]
theorem ops_eq {t0 t1 t2 t3 t4 t5 : Tok} : ([Value.str "=" t0, .str "<>" t1, .str "<" t2, .str ">" t3, .str "<=" t4, .str ">=" t5].filter (oneOp 0)) = [.str "=" t0, .str "<=" t4, .str ">=" t5] := by
  obtain ⟨a, b, c, d, e, f⟩ := sb0
  simp only [List.filter_cons, List.filter_nil, oneOp, a, b, c, d, e, f, if_true, if_false, Bool.false_eq_true]
inductive EvO (s : Shared) (v : Value) (s' : Shared) : Prop
  | mk (ax : Addr) (h' : Heap) (tk' : Nat) (t0 t1 t2 t3 t4 t5 : Tok) (e1 : v = .ref ax) (e2 : s' = { s with heap := h', toks := tk' }) (st : ∀ b o, s.heap.get? b = some o → h'.get? b = some o) (g0 : s.heap.get? ax = none) (g : h'.get? ax = some { cls := .type "tuple", data := .seq #[.str "=" t0, .str "<>" t1, .str "<" t2, .str ">" t3, .str "<=" t4, .str ">=" t5] })
theorem ev_bind {A : Around} {whole : Sem Value} {s : Shared} {Q E : Value → Shared → Prop} (hw : wpAny (model Pg w) A whole (EvO s) E s) (hi : ∀ xv s₁, EvO s xv s₁ → Q xv s₁) : wpAny (model Pg w) A whole Q E s := wpAny_mono hw hi fun _ _ e => e
theorem cell_name {M0 : Model} {A : Around} {E : Value → Shared → Prop} {s : Shared} {Q : Value → Shared → Prop} {x : Str} {pos : Pos} {qual : Str} {scope : Scope} {L f c : Addr} {cd v : Value} {o : Obj} (h : Q v s) (hk : scope.kind = .function) (hx : (envOfC qual scope L f cd).kindOf x = some .cell) (hc : (envOfC qual scope L f cd).cells.lookup x = some c) (g : s.heap.get? c = some o) (d : o.data = .cell (some v)) (hd : (x == ("__debug__" : Str)) = false) :
    wpAny M0 A (eval (.Name x pos) (envOfC qual scope L f cd)) Q E s := wpAny_Name (wpAny_loadName_cell hk hx hc ⟨o, g, d⟩ h) hd
theorem cell_get1 {h₀ h : Heap} {L : Addr} {o1 o2 : Obj} {tl : List (Addr × Obj)} (N : News h₀ L h ((L + 2, o2) :: (L + 1, o1) :: tl)) : h.get? (L + 1) = some o1 := (N _ (.tail _ (.head _))).1
theorem cell_get2 {h₀ h : Heap} {L : Addr} {o1 o2 : Obj} {tl : List (Addr × Obj)} (N : News h₀ L h ((L + 2, o2) :: (L + 1, o1) :: tl)) : h.get? (L + 2) = some o2 := (N _ (.head _)).1
inductive OEnd (h₀ : Heap) (L : Addr) (ta tb to : Tok) (n m o : Int) (o1 o2 : Obj) (tl : List (Addr × Obj)) (s : Shared) (f : Flow) (s' : Shared) : Prop
  | mk (ef : f = .next) (h' : Heap) (tk' : Nat) (M' : Str → Option Value) (es : s' = { s with heap := h', toks := tk' }) (F : Fr h₀ L h' M') (m1 : M' "a" = some (.int n ta)) (m2 : M' "b" = some (.int m tb)) (m3 : M' "order" = some (.int o to)) (N : News h₀ L h' ((L + 2, o2) :: (L + 1, o1) :: tl))
theorem o_end {o : Int} {h' : Heap} {tk' : Nat} {M' : Str → Option Value} {s' : Shared} (hse : s' = { s with heap := h', toks := tk' }) (F : Fr h₀ L h' M') (m1 : M' "a" = some (.int n ta)) (m2 : M' "b" = some (.int m tb)) (m3 : M' "order" = some (.int o to)) (N : News h₀ L h' ((L + 2, o2) :: (L + 1, o1) :: tl)) : OEnd h₀ L ta tb to n m o o1 o2 tl s .next s' := ⟨rfl, h', tk', M', hse, F, m1, m2, m3, N⟩
end
end
section
set_option maxHeartbeats 8000000
section
variable {w : World} {mean : ExcName → Option Value} {mg mb : Str → Option Value} {t1 t2 t3 t4 t5 u1 u2 u3 u4 : Tok} {a b : Addr} {va vb : Value}
theorem words15 : True := by
  (k_with "my ktr_rel" => first | (with_reducible exact isV_now hv1 (by k_extra "my nw")) | (with_reducible exact isV_now hv2 (by k_extra "my nw")) | (with_reducible assumption) | trivial | omega | rfl)
  (k_with "call ref" => (k_here; k_dflt (refine' Con.useI order_o ?zF ?zN ?zX ?zT ?zp ?zd ?zu ?_; k_extra "my cz"; k_extra "my cy"); intro _ _ _ _ _))
  (k_with "my evk" => (refine' CallOK.I order_o ?ep ?ed ?eu; k_extra "my ee"))
  (k_with "eval Dict" => (k_here; k_dflt (refine' kdn_eval (knd := PySem.intKind Pg w) ?F_k9 ?N_k9 ?b_k9 ?a_k9 ?l_k9 ?e_k9 ?n_k9 ?_; (case F_k9 => k_asm); (case N_k9 => k_asm); (case b_k9 => exact Top.nolimit (by k_asm)); (case a_k9 => rfl); (case l_k9 => rfl); (case e_k9 => exact List.cons_ne_nil _ _); (case n_k9 => exact Nat.le_of_ble_eq_true rfl)); intro d' h' o' F' N' l1 lo' hd'; (try k_lt l1)))
  (k_with "my k_stepsE" => repeat' (first | (k_unfold; (try dsimp only)) | ((with_reducible show (_ : Flow → Shared → Prop) _ _); k_unfold; (try dsimp only)) | ((with_reducible show (_ : Value → Shared → Prop) _ _); k_unfold; (try dsimp only)) | ((fail_if_success (with_reducible show wpAny _ _ (exec (Stmt.For _ _ _ _ _) _) _ _ _)); (fail_if_success (with_reducible show wpAny _ _ (eval (Expr.ListComp _ _ _ _) _) _ _ _)); (fail_if_success (with_reducible show wpAny _ _ (exec (Stmt.Assign _ (Expr.ListComp _ _ _ _) _) _) _ _ _)); (fail_if_success (with_reducible show wpAny _ _ (newTuple _) _ _ _)); walk1) | (dsimp only; k_unfold; (try dsimp only)) | (dsimp only; (fail_if_success (with_reducible show wpAny _ _ (exec (Stmt.For _ _ _ _ _) _) _ _ _)); (fail_if_success (with_reducible show wpAny _ _ (eval (Expr.ListComp _ _ _ _) _) _ _ _)); (fail_if_success (with_reducible show wpAny _ _ (exec (Stmt.Assign _ (Expr.ListComp _ _ _ _) _) _) _ _ _)); (fail_if_success (with_reducible show wpAny _ _ (newTuple _) _ _ _)); walk1) | fail "no step"))
  (k_with "eval Name" => (k_here; (with_reducible refine cell_name (x := "one") (c := L + 1) (v := v1) ?_ ?k_k9 ?x_k9 ?c_k9 (cell_get1 (by with_unfolding_all k_extra "my nw")) d1 (by decide)); (case k_k9 => exact rfl); (case x_k9 => with_unfolding_all exact rfl); (case c_k9 => with_unfolding_all exact rfl)))
  (k_with "eval Name" => (k_here; (with_reducible refine cell_name (x := "other") (c := L + 2) (v := v2) ?_ ?k_k9 ?x_k9 ?c_k9 (cell_get2 (by with_unfolding_all k_extra "my nw")) d2 (by decide)); (case k_k9 => exact rfl); (case x_k9 => with_unfolding_all exact rfl); (case c_k9 => with_unfolding_all exact rfl)))
  trivial
theorem turnO_lt (F : Fr h₀ L s.heap M) (m1 : M "a" = some (.int n ta)) (m2 : M "b" = some (.int m tb)) (m3 : M "order" = some (.int (-1) to)) (N : News h₀ L s.heap ((L + 2, o2) :: (L + 1, o1) :: tl)) (d1 : o1.data = .cell (some v1)) (d2 : o2.data = .cell (some v2)) (hv1 : isVL tl k n v1) (hv2 : isVL tl k' m v2)
    (X : (K w.params).In h₀) (T : TopM mean mg mb h₀) (hn : n.natAbs < 10 ^ 10) (hm : m.natAbs < 10 ^ 10) (c1 : cmpI n m = (-1)) (c2 : cmpI m n = 1) (hd : dp + 20 < recursionLimit) (hu : un + 300 < cLine) :
    wpAny (model Pg w) (AA dp un fr gd) (execs (forB ((sBody (stm 46)).getD 1 (.Pass default))) (orEnv L)) (OEnd h₀ L ta tb to n m (-1) o1 o2 tl s) (fun _ _ => False) s := by
  refine' ord_in ?hb ?hs ?_
  (case hb => (conv => lhs; whnf))
  (case hs => (conv => lhs; whnf))
  replace F := fr_pin3 F m1 m2 m3
  try k_fold
  k_extra "my k_steps"
  rename Fr _ _ _ _ => FX
  obtain ⟨M1, FX, q1, q2, q3⟩ : ∃ M1, Fr h₀ L _ M1 ∧ M1 "a" = some (.int n ta) ∧ M1 "b" = some (.int m tb) ∧ M1 "order" = some (.int (-1) to) := ⟨_, FX, rfl, rfl, rfl⟩
  refine ord_comp (h₀ := h₀) (c1 := L + 1) (c2 := L + 2) (n := n) (m := m) (k := k) (k' := k') (v1 := v1) (v2 := v2) (M := M1) (news := (L + 2, o2) :: (L + 1, o1) :: tl) (mean := mean) (mg := mg) (mb := mb) rfl rfl ?zc rfl ?zn rfl rfl rfl (fun _ => rfl) (fun _ => rfl) (fun _ => rfl) (fun _ => rfl) rfl rfl rfl (by omega) (by omega) ?main
  case zc => decide
  case zn => decide
  case main =>
  rename News _ _ _ _ => NX
  refine ev_bind ?walk (fun xv s₁ hk => ?impl)
  case walk =>
    k_extra "my k_stepsE"
    refine wpAny_newTuple ?_
    exact ⟨_, _, _, _, _, _, _, _, _, rfl, rfl, fun b o e => Heap.get?_push_of_some _ e, Heap.get?_none_size, Heap.get?_push_size _ rfl⟩
  case impl =>
    obtain ⟨ax, h', tk', t0, t1, t2, t3, t4, t5, rfl, rfl, st, nax, gax⟩ := hk
    have F2 := fr_stays FX st
    have N2 := news_stays NX st
    have X2 := X.keeps F2.keep
    have T2 := T.keeps F2.keep
    clear NX FX st nax
    refine ⟨ax, _, rfl, ⟨_, gax, rfl, _, rfl⟩, Nat.le_of_ble_eq_true rfl, ?its, X2, T2, F2, N2, ⟨o1, (N2 _ (.tail _ (.head _))).1, d1⟩, ⟨o2, (N2 _ (.head _)).1, d2⟩, isV_now hv1 (by k_extra "my nw"), isV_now hv2 (by k_extra "my nw"), hn, hm, ?_⟩
    case its =>
      intro i v hv
      match i, hv with
      | 0, hv => cases hv; exact ⟨_, _, rfl⟩
      | 1, hv => cases hv; exact ⟨_, _, rfl⟩
      | 2, hv => cases hv; exact ⟨_, _, rfl⟩
      | 3, hv => cases hv; exact ⟨_, _, rfl⟩
      | 4, hv => cases hv; exact ⟨_, _, rfl⟩
      | 5, hv => cases hv; exact ⟨_, _, rfl⟩
      | i + 6, hv => simp at hv
    intro D h3 tk3 nD F3 N3
    rw [c1] at N3
    have e3 := @ops_lt t0 t1 t2 t3 t4 t5
    replace N3 : News h₀ L h3 ((D, { cls := .type "list", data := .seq #[.str "<>" t1, .str "<" t2, .str "<=" t4] nD }) :: (L + 2, o2) :: (L + 1, o1) :: tl) := by
      have := N3
      rw [show (List.toArray ([Value.str "=" t0, .str "<>" t1, .str "<" t2, .str ">" t3, .str "<=" t4, .str ">=" t5].filter (oneOp (-1)))) = #[.str "<>" t1, .str "<" t2, .str "<=" t4] by rw [e3]] at this
      exact this
    clear N2 F2 X2 T2 e3
    replace F3 := fr_pin4 F3 (if_pos rfl) ((if_neg (by decide)).trans q1) ((if_neg (by decide)).trans q2) ((if_neg (by decide)).trans q3)
    k_extra "my k_steps"
    all_goals k_dflt (exact o_end rfl (by k_asm) rfl rfl rfl (by k_extra "my nw"))
end
end
section
set_option maxHeartbeats 8000000
section
variable {w : World} {mean : ExcName → Option Value} {mg mb : Str → Option Value} {t1 t2 t3 t4 t5 u1 u2 u3 u4 : Tok} {a b : Addr} {va vb : Value}
theorem turnO_gt (F : Fr h₀ L s.heap M) (m1 : M "a" = some (.int n ta)) (m2 : M "b" = some (.int m tb)) (m3 : M "order" = some (.int 1 to)) (N : News h₀ L s.heap ((L + 2, o2) :: (L + 1, o1) :: tl)) (d1 : o1.data = .cell (some v1)) (d2 : o2.data = .cell (some v2)) (hv1 : isVL tl k n v1) (hv2 : isVL tl k' m v2)
    (X : (K w.params).In h₀) (T : TopM mean mg mb h₀) (hn : n.natAbs < 10 ^ 10) (hm : m.natAbs < 10 ^ 10) (c1 : cmpI n m = 1) (c2 : cmpI m n = (-1)) (hd : dp + 20 < recursionLimit) (hu : un + 300 < cLine) :
    wpAny (model Pg w) (AA dp un fr gd) (execs (forB ((sBody (stm 46)).getD 1 (.Pass default))) (orEnv L)) (OEnd h₀ L ta tb to n m 1 o1 o2 tl s) (fun _ _ => False) s := by
  refine' ord_in ?hb ?hs ?_
  (case hb => (conv => lhs; whnf))
  (case hs => (conv => lhs; whnf))
  replace F := fr_pin3 F m1 m2 m3
  try k_fold
  k_extra "my k_steps"
  rename Fr _ _ _ _ => FX
  obtain ⟨M1, FX, q1, q2, q3⟩ : ∃ M1, Fr h₀ L _ M1 ∧ M1 "a" = some (.int n ta) ∧ M1 "b" = some (.int m tb) ∧ M1 "order" = some (.int 1 to) := ⟨_, FX, rfl, rfl, rfl⟩
  refine ord_comp (h₀ := h₀) (c1 := L + 1) (c2 := L + 2) (n := n) (m := m) (k := k) (k' := k') (v1 := v1) (v2 := v2) (M := M1) (news := (L + 2, o2) :: (L + 1, o1) :: tl) (mean := mean) (mg := mg) (mb := mb) rfl rfl ?zc rfl ?zn rfl rfl rfl (fun _ => rfl) (fun _ => rfl) (fun _ => rfl) (fun _ => rfl) rfl rfl rfl (by omega) (by omega) ?main
  case zc => decide
  case zn => decide
  case main =>
  rename News _ _ _ _ => NX
  refine ev_bind ?walk (fun xv s₁ hk => ?impl)
  case walk =>
    k_extra "my k_stepsE"
    refine wpAny_newTuple ?_
    exact ⟨_, _, _, _, _, _, _, _, _, rfl, rfl, fun b o e => Heap.get?_push_of_some _ e, Heap.get?_none_size, Heap.get?_push_size _ rfl⟩
  case impl =>
    obtain ⟨ax, h', tk', t0, t1, t2, t3, t4, t5, rfl, rfl, st, nax, gax⟩ := hk
    have F2 := fr_stays FX st
    have N2 := news_stays NX st
    have X2 := X.keeps F2.keep
    have T2 := T.keeps F2.keep
    clear NX FX st nax
    refine ⟨ax, _, rfl, ⟨_, gax, rfl, _, rfl⟩, Nat.le_of_ble_eq_true rfl, ?its, X2, T2, F2, N2, ⟨o1, (N2 _ (.tail _ (.head _))).1, d1⟩, ⟨o2, (N2 _ (.head _)).1, d2⟩, isV_now hv1 (by k_extra "my nw"), isV_now hv2 (by k_extra "my nw"), hn, hm, ?_⟩
    case its =>
      intro i v hv
      match i, hv with
      | 0, hv => cases hv; exact ⟨_, _, rfl⟩
      | 1, hv => cases hv; exact ⟨_, _, rfl⟩
      | 2, hv => cases hv; exact ⟨_, _, rfl⟩
      | 3, hv => cases hv; exact ⟨_, _, rfl⟩
      | 4, hv => cases hv; exact ⟨_, _, rfl⟩
      | 5, hv => cases hv; exact ⟨_, _, rfl⟩
      | i + 6, hv => simp at hv
    intro D h3 tk3 nD F3 N3
    rw [c1] at N3
    have e3 := @ops_gt t0 t1 t2 t3 t4 t5
    replace N3 : News h₀ L h3 ((D, { cls := .type "list", data := .seq #[.str "<>" t1, .str ">" t3, .str ">=" t5] nD }) :: (L + 2, o2) :: (L + 1, o1) :: tl) := by
      have := N3
      rw [show (List.toArray ([Value.str "=" t0, .str "<>" t1, .str "<" t2, .str ">" t3, .str "<=" t4, .str ">=" t5].filter (oneOp 1))) = #[.str "<>" t1, .str ">" t3, .str ">=" t5] by rw [e3]] at this
      exact this
    clear N2 F2 X2 T2 e3
    replace F3 := fr_pin4 F3 (if_pos rfl) ((if_neg (by decide)).trans q1) ((if_neg (by decide)).trans q2) ((if_neg (by decide)).trans q3)
    k_extra "my k_steps"
    all_goals k_dflt (exact o_end rfl (by k_asm) rfl rfl rfl (by k_extra "my nw"))
end
end
section
set_option maxHeartbeats 8000000
section
variable {w : World} {mean : ExcName → Option Value} {mg mb : Str → Option Value} {t1 t2 t3 t4 t5 u1 u2 u3 u4 : Tok} {a b : Addr} {va vb : Value}
theorem turnO_eq (F : Fr h₀ L s.heap M) (m1 : M "a" = some (.int n ta)) (m2 : M "b" = some (.int m tb)) (m3 : M "order" = some (.int 0 to)) (N : News h₀ L s.heap ((L + 2, o2) :: (L + 1, o1) :: tl)) (d1 : o1.data = .cell (some v1)) (d2 : o2.data = .cell (some v2)) (hv1 : isVL tl k n v1) (hv2 : isVL tl k' m v2)
    (X : (K w.params).In h₀) (T : TopM mean mg mb h₀) (hn : n.natAbs < 10 ^ 10) (hm : m.natAbs < 10 ^ 10) (c1 : cmpI n m = 0) (c2 : cmpI m n = 0) (hd : dp + 20 < recursionLimit) (hu : un + 300 < cLine) :
    wpAny (model Pg w) (AA dp un fr gd) (execs (forB ((sBody (stm 46)).getD 1 (.Pass default))) (orEnv L)) (OEnd h₀ L ta tb to n m 0 o1 o2 tl s) (fun _ _ => False) s := by
  refine' ord_in ?hb ?hs ?_
  (case hb => (conv => lhs; whnf))
  (case hs => (conv => lhs; whnf))
  replace F := fr_pin3 F m1 m2 m3
  try k_fold
  k_extra "my k_steps"
  rename Fr _ _ _ _ => FX
  obtain ⟨M1, FX, q1, q2, q3⟩ : ∃ M1, Fr h₀ L _ M1 ∧ M1 "a" = some (.int n ta) ∧ M1 "b" = some (.int m tb) ∧ M1 "order" = some (.int 0 to) := ⟨_, FX, rfl, rfl, rfl⟩
  refine ord_comp (h₀ := h₀) (c1 := L + 1) (c2 := L + 2) (n := n) (m := m) (k := k) (k' := k') (v1 := v1) (v2 := v2) (M := M1) (news := (L + 2, o2) :: (L + 1, o1) :: tl) (mean := mean) (mg := mg) (mb := mb) rfl rfl ?zc rfl ?zn rfl rfl rfl (fun _ => rfl) (fun _ => rfl) (fun _ => rfl) (fun _ => rfl) rfl rfl rfl (by omega) (by omega) ?main
  case zc => decide
  case zn => decide
  case main =>
  rename News _ _ _ _ => NX
  refine ev_bind ?walk (fun xv s₁ hk => ?impl)
  case walk =>
    k_extra "my k_stepsE"
    refine wpAny_newTuple ?_
    exact ⟨_, _, _, _, _, _, _, _, _, rfl, rfl, fun b o e => Heap.get?_push_of_some _ e, Heap.get?_none_size, Heap.get?_push_size _ rfl⟩
  case impl =>
    obtain ⟨ax, h', tk', t0, t1, t2, t3, t4, t5, rfl, rfl, st, nax, gax⟩ := hk
    have F2 := fr_stays FX st
    have N2 := news_stays NX st
    have X2 := X.keeps F2.keep
    have T2 := T.keeps F2.keep
    clear NX FX st nax
    refine ⟨ax, _, rfl, ⟨_, gax, rfl, _, rfl⟩, Nat.le_of_ble_eq_true rfl, ?its, X2, T2, F2, N2, ⟨o1, (N2 _ (.tail _ (.head _))).1, d1⟩, ⟨o2, (N2 _ (.head _)).1, d2⟩, isV_now hv1 (by k_extra "my nw"), isV_now hv2 (by k_extra "my nw"), hn, hm, ?_⟩
    case its =>
      intro i v hv
      match i, hv with
      | 0, hv => cases hv; exact ⟨_, _, rfl⟩
      | 1, hv => cases hv; exact ⟨_, _, rfl⟩
      | 2, hv => cases hv; exact ⟨_, _, rfl⟩
      | 3, hv => cases hv; exact ⟨_, _, rfl⟩
      | 4, hv => cases hv; exact ⟨_, _, rfl⟩
      | 5, hv => cases hv; exact ⟨_, _, rfl⟩
      | i + 6, hv => simp at hv
    intro D h3 tk3 nD F3 N3
    rw [c1] at N3
    have e3 := @ops_eq t0 t1 t2 t3 t4 t5
    replace N3 : News h₀ L h3 ((D, { cls := .type "list", data := .seq #[.str "=" t0, .str "<=" t4, .str ">=" t5] nD }) :: (L + 2, o2) :: (L + 1, o1) :: tl) := by
      have := N3
      rw [show (List.toArray ([Value.str "=" t0, .str "<>" t1, .str "<" t2, .str ">" t3, .str "<=" t4, .str ">=" t5].filter (oneOp 0))) = #[.str "=" t0, .str "<=" t4, .str ">=" t5] by rw [e3]] at this
      exact this
    clear N2 F2 X2 T2 e3
    replace F3 := fr_pin4 F3 (if_pos rfl) ((if_neg (by decide)).trans q1) ((if_neg (by decide)).trans q2) ((if_neg (by decide)).trans q3)
    k_extra "my k_steps"
    all_goals k_dflt (exact o_end rfl (by k_asm) rfl rfl rfl (by k_extra "my nw"))
end
end
end
section
set_option maxHeartbeats 8000000
noncomputable abbrev O1 : Stmt := (sBody (stm 46)).getD 1 (.Pass default)
noncomputable def forT : Stmt → Expr
  | .For t _ _ _ _ => t
  | _ => .Constant .none 0 default
theorem forO : O1 = .For (forT O1) (forI O1) (forB O1) [] (forQ O1) := by kernel_rfl
section
variable {w : World} {mean : ExcName → Option Value} {mg mb : Str → Option Value} {h₀ : Heap} {L : Addr} {n m o : Int} {ta tb to : Tok} {M : Str → Option Value} {o1 o2 : Obj} {tl news : List (Addr × Obj)} {s : Shared} {dp un : Nat} {fr : Option (List Env)} {gd : Option (List Code)}
theorem evk_in {st : Stmt} {iter : Expr} {scope : Scope} {Q : Value → Shared → Prop} (hb : forI st = iter) (hs : orS = scope) (h : wpAny (model Pg w) (AA dp un fr gd) (eval iter (envOfC "_law_order_right" scope L 307 (.ref 306))) Q (fun _ _ => False) s) : wpAny (model Pg w) (AA dp un fr gd) (eval (forI st) (orEnv L)) Q (fun _ _ => False) s := by
  subst hb hs; exact h
theorem words16 : True := by
  k_with_none
  (k_with "my cz" => ((case zF => k_asm); (case zN => k_asm); (case zX => k_asm); (case zT => k_asm)))
  (k_with "my cy" => ((case zp => first | trivial | ((try dsimp only); (repeat' (with_reducible refine And.intro ?_ ?_)) <;> k_extra "my ktr_rel")); (case zd => k_extra "my ktr_room"); (case zu => k_extra "my ktr_room")))
  (k_with "my ee" => ((case ep => k_extra "my evp"); (case ed => k_extra "my ktr_room"); (case eu => k_extra "my ktr_room")))
  (k_with "my ktr_room" => ((try dsimp only [AA]); first | exact room1 hd rfl | exact room hu rfl | exact room hd rfl | omega))
  (k_with "my ktr_rel" => first | trivial | assumption | omega | rfl | (with_reducible exact ⟨_, rfl⟩))
  (k_with "my ktr_rel" => first | exact isV.keeps (by assumption) (Fr.keep (by assumption)) | trivial | k_extra "my is_list" | assumption | k_extra "my ktn_ord" | omega | rfl | (with_reducible exact ⟨_, rfl⟩))
  (k_with "my evp" => first | trivial | ((try dsimp only); (repeat' (with_reducible refine And.intro ?_ ?_)) <;> first | exact isV.keeps (isV.keeps (by assumption) (Cx.F C9).keep) st9 | k_extra "my ktr_rel"))
  (k_with "my ev" => first
    | exact Ev.lit
    | exact Ev.nmI C9 rfl
    | (apply Ev.add; k_extra "my ev"; k_extra "my ev")
    | (apply Ev.sub; k_extra "my ev"; k_extra "my ev")
    | (apply Ev.mul; k_extra "my ev"; k_extra "my ev"; first | exact Sm.mulOk (by k_extra "my ktn_ord") (by k_extra "my ktn_ord") | mul_fits)
    | (apply Ev.fdiv; k_extra "my ev"; k_extra "my ev"; k_extra "my km_fact"; k_extra "my kbt_ne")
    | (apply Ev.mod; k_extra "my ev"; k_extra "my ev"; k_extra "my km_fact")
    | (apply Ev.pow; k_extra "my ev"; k_extra "my ev"; omega; omega; first | decide | omega)
    | (apply Ev.neg; k_extra "my ev")
    | (apply Ev.cmpI; k_extra "my ev"; k_extra "my ev"; k_extra "my cmp"; rfl)
    | (apply Ev.item0; k_extra "my evt")
    | (apply Ev.item1; k_extra "my evt")
    | (apply Ev.call C9; rfl; rfl; rfl; rfl; k_is; k_is; k_extra "my evl"; (intro hh9 st9; (repeat (intro _)); k_extra "my evk"))
    | (apply Ev.abs C9; rfl; k_is; rfl; k_extra "my ev")
    | (apply Ev.isi C9; rfl; k_is; rfl; rfl; k_extra "my evl"; k_extra "my isi")
    | ((rename EvIf => if9); apply Ev.iteI; k_extra "my ec"; (intro hc9; k_extra "my ev"); (intro hc9; k_extra "my ev"))
    | exact Ev.text
    | exact Ev.nmS C9 rfl
    | exact Ev.nmB C9 rfl
    | (refine' Ev.nmT C9 rfl ?i; (case i => is_list))
    | exact Ev.nmV C9 rfl
    | (apply Ev.nmBT C9; rfl; rfl; boot_fast; decide; k_is))
  (k_with "my isi" => first | exact IsiIs.tt | exact IsiIs.ts | exact IsiIs.it | exact IsiIs.is)
  (k_with "my evt" => (refine' Ev.nmT C9 rfl ?i; (case i => is_list)))
  (k_with "my evl" => first | exact EvL.nil | (apply EvL.cons; k_extra "my ev"; k_extra "my evl"; rfl))
  (k_with "my cmp" => first | exact CmpIs.eq | exact CmpIs.lt | exact CmpIs.ne | exact CmpIs.le | exact CmpIs.gt | exact CmpIs.ge | exact CmpIs.eqs | exact CmpIs.nes | exact CmpIs.eqb)
  (k_with "my ec" => first | (apply Ec.cmpI; k_extra "my ev"; k_extra "my ev"; k_extra "my cmp"; rfl) | (apply Ec.plain; k_extra "my ev"; (intro _; rfl)) | (apply Ec.not; k_extra "my ec"))
  (k_with "my cx" => (refine' Cx.mk ?cxX ?cxT ?cxF ?cxl ?cxg ?cxk ?cxb; (case cxF => k_asm); (case cxX => k_asm); (case cxT => k_asm); (case cxl => rfl); (case cxg => rfl); (case cxk => rfl); (case cxb => rfl)))
  (k_with "my evline" => (k_here; k_whole; (fail_if_success (rename EvOff => off9)); k_dflt (refine' Ev.use0 ?C ?N ?ev ?_; (case C => k_extra "my cx"); (case N => k_asm); (case ev => (intro C9; k_extra "my ev")); first | (refine giveI ?_; intro t9 h9 tk9 F9 N9) | (refine giveT ?_; intro a9 t9 v9 h9 tk9 F9 N9) | (refine giveB ?_; intro h9 tk9 F9 N9) | (refine giveV ?_; intro r9 h9 tk9 F9 N9 O9) | (refine giveT3 ?_; intro a9 t9 v9 x9 h9 tk9 F9 N9))))
  (k_with "eval Call" => k_extra "my evline")
  (k_with "eval BinOp" => k_extra "my evline")
  (k_with "eval UnaryOp" => k_extra "my evline")
  (k_with "eval Compare" => k_extra "my evline")
  (k_with "eval Subscript" => k_extra "my evline")
  (k_with "my ecline" => (k_here; k_whole; (fail_if_success (rename EvOff => off9)); k_dflt (refine' Ec.use0 ?C ?N ?ev ?_; (case C => k_extra "my cx"); (case N => k_asm); (case ev => (intro C9; k_extra "my ec")); intro h9 tk9 F9 N9)))
  (k_with "isTrue Compare" => k_extra "my ecline")
  (k_with "isTrue Call" => k_extra "my ecline")
  (k_with "isTrue UnaryOp" => k_extra "my ecline")
  (k_with "my ktr_enter" => (
  refine' enter ?eX_k9 ?eT_k9 ?eo_k9 ?ec_k9 ?er_k9 ?ep ?eb_k9 ?es_k9 ?ez_k9 ?eR_k9 ?ek_k9 ?el_k9 ?_ ?ee_k9 ?e1_k9 ?e2_k9 ?e3_k9
  (case eX_k9 => assumption)
  (case eT_k9 => assumption)
  (case eo_k9 => k_is)
  (case ec_k9 => k_is)
  (case er_k9 => (show (_ : Nat) < _; (try dsimp only [AA]); omega))
  (case ep => (conv => lhs; whnf))
  (case eb_k9 => (conv => lhs; whnf))
  (case es_k9 => (conv => lhs; whnf))
  (case ez_k9 => (conv => lhs; simp only [List.map_cons, List.map_nil, List.zip_cons_cons, List.zip_nil_right, List.zip_nil_left]))
  (case eR_k9 => (conv => lhs; simp only [List.reverse_cons, List.reverse_nil, List.nil_append, List.cons_append]))
  (case ek_k9 => exact rfl)
  (case el_k9 => exact rfl)
  (case ee_k9 => exact rfl)
  (case e1_k9 => exact rfl)
  (case e2_k9 => exact rfl)
  (case e3_k9 => exact rfl)
  intro _ _ _ _ _
  try dsimp only
  try k_fold))
  (k_with "my k_steps" => repeat' (first | (k_unfold; (try dsimp only)) | ((with_reducible show wpAny _ _ (exec _ _) _ _ _); k_whole; k_fold) | ((with_reducible show (_ : Flow → Shared → Prop) _ _); k_unfold; (try dsimp only)) | ((with_reducible show (_ : Value → Shared → Prop) _ _); k_unfold; (try dsimp only)) | walk1 | (dsimp only; k_unfold; (try dsimp only)) | (dsimp only; walk1) | fail "no step"))
  (k_with "my k_steps" => repeat' (first | (k_unfold; (try dsimp only)) | ((with_reducible show wpAny _ _ (exec _ _) _ _ _); k_whole; k_fold) | ((with_reducible show (_ : Flow → Shared → Prop) _ _); k_unfold; (try dsimp only)) | ((with_reducible show (_ : Value → Shared → Prop) _ _); k_unfold; (try dsimp only)) | ((fail_if_success (with_reducible show wpAny _ _ (exec (Stmt.While _ _ _ _) _) _ _ _)); walk1) | (dsimp only; k_unfold; (try dsimp only)) | (dsimp only; (fail_if_success (with_reducible show wpAny _ _ (exec (Stmt.While _ _ _ _) _) _ _ _)); walk1) | fail "no step"))
  (k_with "my k_steps" => repeat' (first | (k_unfold; (try dsimp only)) | ((with_reducible show wpAny _ _ (exec _ _) _ _ _); k_whole; k_fold) | ((with_reducible show (_ : Flow → Shared → Prop) _ _); k_unfold; (try dsimp only)) | ((with_reducible show (_ : Value → Shared → Prop) _ _); k_unfold; (try dsimp only)) | ((fail_if_success (with_reducible show wpAny _ _ (exec (Stmt.For _ _ _ _ _) _) _ _ _)); (fail_if_success (with_reducible show wpAny _ _ (eval (Expr.ListComp _ _ _ _) _) _ _ _)); (fail_if_success (with_reducible show wpAny _ _ (exec (Stmt.Assign _ (Expr.ListComp _ _ _ _) _) _) _ _ _)); walk1) | (dsimp only; k_unfold; (try dsimp only)) | (dsimp only; (fail_if_success (with_reducible show wpAny _ _ (exec (Stmt.For _ _ _ _ _) _) _ _ _)); (fail_if_success (with_reducible show wpAny _ _ (eval (Expr.ListComp _ _ _ _) _) _ _ _)); (fail_if_success (with_reducible show wpAny _ _ (exec (Stmt.Assign _ (Expr.ListComp _ _ _ _) _) _) _ _ _)); walk1) | fail "no step"))
  (k_with "my km_fact" => first | exact pow10_ne _ | assumption | omega | decide)
  (k_with "my kbt_ne" => first | exact (Sm.pow10 (by omega)).log2 | exact (Sm.small (by omega) (by omega)).log2 | exact Sm.log2 (by assumption))
  (k_with "binaryOp FloorDiv int int" => (k_here; (with_reducible refine floordiv_int ?kzb_k9 ?_ (Or.inl (PyProof.noPylong_of_log2 ?kzp_k9))); (case kzb_k9 => k_extra "my km_fact"); (case kzp_k9 => k_extra "my kbt_ne")))
  (k_with "inplaceOp FloorDiv int int" => (k_here; (with_reducible refine ifloordiv_int ?kzb_k9 ?_ (Or.inl (PyProof.noPylong_of_log2 ?kzp_k9))); (case kzb_k9 => k_extra "my km_fact"); (case kzp_k9 => k_extra "my kbt_ne")))
  (k_with "binaryOp Mod int int" => (k_here; (with_reducible refine mod_int' ?kzb_k9 ?_); (case kzb_k9 => k_extra "my km_fact")))
  (k_with "call builtin:abs" => (k_here; (refine call_abs ?_); intro _ _))
  (k_with "my ktn_ord" => first | assumption | exact Sm.pow10 (by omega) | exact Sm.small (by omega) (by omega))
  (k_with "binaryOp Mult int int" => (k_here; (with_reducible refine mul_int ?_ ?kzm_k9); (case kzm_k9 => first | exact Sm.mulOk (by k_extra "my ktn_ord") (by k_extra "my ktn_ord") | mul_fits)))
  (k_with "call ref" => (k_here; k_dflt (refine' Con.useI figures_of_c ?zF ?zN ?zX ?zT ?zp ?zd ?zu ?_; k_extra "my cz"; (case zp => trivial); (case zd => k_extra "my ktr_room"); (case zu => k_extra "my ktr_room")); intro _ _ _ _ _))
  (k_with "call ref" => (k_here; k_dflt (refine' Con.useI rounded_by_c ?zF ?zN ?zX ?zT ?zp ?zd ?zu ?_; k_extra "my cz"; (case zp => ((try dsimp only); omega)); (case zd => k_extra "my ktr_room"); (case zu => k_extra "my ktr_room")); intro _ _ _ _ _))
  (k_with "call ref" => (k_here; k_dflt (refine' Con.useT made_c ?zF ?zN ?zX ?zT ?zp ?zd ?zu ?_; k_extra "my cz"; k_extra "my cy"); intro _ _ _ _ _ _ _))
  (k_with "call ref" => (k_here; k_dflt (refine' Con.useI whole_near_c ?zF ?zN ?zX ?zT ?zp ?zd ?zu ?_; k_extra "my cz"; k_extra "my cy"); intro _ _ _ _ _))
  (k_with "call ref" => (k_here; k_dflt (refine' Con.useB fits_c ?zF ?zN ?zX ?zT ?zp ?zd ?zu ?_; k_extra "my cz"; k_extra "my cy"); intro _ _ _ _))
  (k_with "call ref" => (k_here; k_dflt (refine' Con.useI whole_of_ci ?zF ?zN ?zX ?zT ?zp ?zd ?zu ?_; k_extra "my cz"; k_extra "my cy"); intro _ _ _ _ _))
  (k_with "call ref" => (k_here; k_dflt (refine' Con.useI whole_of_ct ?zF ?zN ?zX ?zT ?zp ?zd ?zu ?_; k_extra "my cz"; k_extra "my cy"); intro _ _ _ _ _))
  (k_with "call ref" => (k_here; k_dflt (refine' Con.useT decimal_of_ci ?zF ?zN ?zX ?zT ?zp ?zd ?zu ?_; k_extra "my cz"; k_extra "my cy"); intro _ _ _ _ _ _ _))
  (k_with "call ref" => (k_here; k_dflt (refine' Con.useT decimal_of_ct ?zF ?zN ?zX ?zT ?zp ?zd ?zu ?_; k_extra "my cz"; k_extra "my cy"); intro _ _ _ _ _ _ _))
  (k_with "call ref" => (k_here; k_dflt (refine' Con.useT d_negated_c ?zF ?zN ?zX ?zT ?zp ?zd ?zu ?_; k_extra "my cz"; k_extra "my cy"); intro _ _ _ _ _ _ _))
  (k_with "call ref" => (k_here; k_dflt (refine' Con.useT3 alike_c ?zF ?zN ?zX ?zT ?zp ?zd ?zu ?_; k_extra "my cz"; k_extra "my cy"); intro _ _ _ _ _ _ _ _))
  (k_with "call ref" => (k_here; k_dflt (refine' Con.useT with_rest_c ?zF ?zN ?zX ?zT ?zp ?zd ?zu ?_; k_extra "my cz"; k_extra "my cy"); intro _ _ _ _ _ _ _))
  (k_with "call ref" => (k_here; k_dflt (refine' Con.useT d_add_c ?zF ?zN ?zX ?zT ?zp ?zd ?zu ?_; k_extra "my cz"; k_extra "my cy"); intro _ _ _ _ _ _ _))
  (k_with "call ref" => (k_here; k_dflt (refine' Con.useT d_mul_c ?zF ?zN ?zX ?zT ?zp ?zd ?zu ?_; k_extra "my cz"; k_extra "my cy"); intro _ _ _ _ _ _ _))
  (k_with "call ref" => (k_here; k_dflt (refine' Con.useT d_sub_c ?zF ?zN ?zX ?zT ?zp ?zd ?zu ?_; k_extra "my cz"; k_extra "my cy"); intro _ _ _ _ _ _ _))
  (k_with "call ref" => (k_here; k_dflt (refine' Con.useT d_div_c ?zF ?zN ?zX ?zT ?zp ?zd ?zu ?_; k_extra "my cz"; k_extra "my cy"); intro _ _ _ _ _ _ _))
  (k_with "call ref" => (k_here; k_dflt (refine' Con.useI d_compare_c ?zF ?zN ?zX ?zT ?zp ?zd ?zu ?_; k_extra "my cz"; k_extra "my cy"); intro _ _ _ _ _))
  (k_with "call ref" => (k_here; k_dflt (refine' Con.useT square_c ?zF ?zN ?zX ?zT ?zp ?zd ?zu ?_; k_extra "my cz"; k_extra "my cy"); intro _ _ _ _ _ _ _))
  (k_with "call ref" => (k_here; k_dflt (refine' Con.useT decimal_of_v ?zF ?zN ?zX ?zT ?zp ?zd ?zu ?_; k_extra "my cz"; k_extra "my cy"); intro _ _ _ _ _ _ _))
  (k_with "call ref" => (k_here; k_dflt (refine' Con.useI whole_of_v ?zF ?zN ?zX ?zT ?zp ?zd ?zu ?_; k_extra "my cz"; k_extra "my cy"); intro _ _ _ _ _))
  (k_with "call ref" => (k_here; k_dflt (refine' Con.useB is_whole_ci ?zF ?zN ?zX ?zT ?zp ?zd ?zu ?_; k_extra "my cz"; k_extra "my cy"); intro _ _ _ _))
  (k_with "call ref" => (k_here; k_dflt (refine' Con.useB is_whole_ct ?zF ?zN ?zX ?zT ?zp ?zd ?zu ?_; k_extra "my cz"; k_extra "my cy"); intro _ _ _ _))
  (k_with "call ref" => (k_here; k_dflt (refine' Con.useB is_whole_v ?zF ?zN ?zX ?zT ?zp ?zd ?zu ?_; k_extra "my cz"; k_extra "my cy"); intro _ _ _ _))
  (k_with "call ref" => (k_here; k_dflt (refine' Con.useV settled_c ?zF ?zN ?zX ?zT ?zp ?zd ?zu ?_; k_extra "my cz"; k_extra "my cy"); intro _ _ _ _ _ _))
  (k_with "call ref" => (k_here; k_dflt (refine' Con.useV whole_reckoned_c ?zF ?zN ?zX ?zT ?zp ?zd ?zu ?_; k_extra "my cz"; k_extra "my cy"); intro _ _ _ _ _ _))
  (k_with "call ref" => (k_here; k_dflt (refine' Con.useI cut_quotient_c ?zF ?zN ?zX ?zT ?zp ?zd ?zu ?_; k_extra "my cz"; k_extra "my cy"); intro _ _ _ _ _))
  (k_with "call ref" => (k_here; k_dflt (refine' Con.useI exponent_of_v ?zF ?zN ?zX ?zT ?zp ?zd ?zu ?_; k_extra "my cz"; k_extra "my cy"); intro _ _ _ _ _))
  (k_with "call ref" => (k_here; k_dflt (refine' Con.useV whole_power_c ?zF ?zN ?zX ?zT ?zp ?zd ?zu ?_; k_extra "my cz"; k_extra "my cy"); intro _ _ _ _ _ _))
  (k_with "call ref" => (k_here; k_dflt (refine' Con.useV whole_reckoned_v ?zF ?zN ?zX ?zT ?zp ?zd ?zu ?_; k_extra "my cz"; k_extra "my cy"); intro _ _ _ _ _ _))
  (k_with "call ref" => (k_here; k_dflt (refine' Con.useV whole_power_v ?zF ?zN ?zX ?zT ?zp ?zd ?zu ?_; k_extra "my cz"; k_extra "my cy"); intro _ _ _ _ _ _))
  (k_with "call ref" => (k_here; k_dflt (refine' Con.useT d_power_c ?zF ?zN ?zX ?zT ?zp ?zd ?zu ?_; k_extra "my cz"; k_extra "my cy"); intro _ _ _ _ _ _ _))
  (k_with "call ref" => (k_here; k_dflt (refine' Con.useT d_add_l ?zF ?zN ?zX ?zT ?zp ?zd ?zu ?_; k_extra "my cz"; k_extra "my cy"); intro _ _ _ _ _ _ _))
  (k_with "call ref" => (k_here; k_dflt (refine' Con.useT d_sub_l ?zF ?zN ?zX ?zT ?zp ?zd ?zu ?_; k_extra "my cz"; k_extra "my cy"); intro _ _ _ _ _ _ _))
  (k_with "call ref" => (k_here; k_dflt (refine' Con.useT d_mul_l ?zF ?zN ?zX ?zT ?zp ?zd ?zu ?_; k_extra "my cz"; k_extra "my cy"); intro _ _ _ _ _ _ _))
  (k_with "call ref" => (k_here; k_dflt (refine' Con.useT d_div_l ?zF ?zN ?zX ?zT ?zp ?zd ?zu ?_; k_extra "my cz"; k_extra "my cy"); intro _ _ _ _ _ _ _))
  (k_with "call ref" => (k_here; k_dflt (refine' Con.useI d_compare_l ?zF ?zN ?zX ?zT ?zp ?zd ?zu ?_; k_extra "my cz"; k_extra "my cy"); intro _ _ _ _ _))
  (k_with "call ref" => (k_here; k_dflt (refine' Con.useV negated_v ?zF ?zN ?zX ?zT ?zp ?zd ?zu ?_; k_extra "my cz"; k_extra "my cy"); intro _ _ _ _ _ _))
  (k_with "call ref" => (k_here; k_dflt (refine' Con.useI order_v ?zF ?zN ?zX ?zT ?zp ?zd ?zu ?_; k_extra "my cz"; k_extra "my cy"); intro _ _ _ _ _))
  (k_with "call ref" => (k_here; k_dflt (refine' Con.useB stands_c ?zF ?zN ?zX ?zT ?zp ?zd ?zu ?_; k_extra "my cz"; k_extra "my cy"); intro _ _ _ _))
  (k_with "call ref" => (k_here; k_dflt (refine' Con.useI inverted_c ?zF ?zN ?zX ?zT ?zp ?zd ?zu ?_; k_extra "my cz"; k_extra "my cy"); intro _ _ _ _ _))
  (k_with "call ref" => (k_here; k_dflt (refine' Con.useT dec_c ?zF ?zN ?zX ?zT ?zp ?zd ?zu ?_; k_extra "my cz"; k_extra "my cy"); intro _ _ _ _ _ _ _))
  (k_with "call ref" => (k_here; k_dflt (refine' Con.useK kinds_c ?zF ?zN ?zX ?zT ?zp ?zd ?zu ?_; k_extra "my cz"; (case zp => exact ⟨by assumption, by assumption⟩); (case zd => k_extra "my ktr_room"); (case zu => k_extra "my ktr_room")); intro l9 kl9 h9 tk9 kd9 ks9 F9 N9))
  (k_with "my evk" => (refine' CallOK.I figures_of_c ?ep ?ed ?eu; k_extra "my ee"))
  (k_with "my evk" => (refine' CallOK.I rounded_by_c ?ep ?ed ?eu; k_extra "my ee"))
  (k_with "my evk" => (refine' CallOK.T made_c ?ep ?ed ?eu; k_extra "my ee"))
  (k_with "my evk" => (refine' CallOK.I whole_near_c ?ep ?ed ?eu; k_extra "my ee"))
  (k_with "my evk" => (refine' CallOK.B fits_c ?ep ?ed ?eu; k_extra "my ee"))
  (k_with "my evk" => (refine' CallOK.I whole_of_ci ?ep ?ed ?eu; k_extra "my ee"))
  (k_with "my evk" => (refine' CallOK.I whole_of_ct ?ep ?ed ?eu; k_extra "my ee"))
  (k_with "my evk" => (refine' CallOK.T decimal_of_ci ?ep ?ed ?eu; k_extra "my ee"))
  (k_with "my evk" => (refine' CallOK.T decimal_of_ct ?ep ?ed ?eu; k_extra "my ee"))
  (k_with "my evk" => (refine' CallOK.T d_negated_c ?ep ?ed ?eu; k_extra "my ee"))
  (k_with "my evk" => (refine' CallOK.T3 alike_c ?ep ?ed ?eu; k_extra "my ee"))
  (k_with "my evk" => (refine' CallOK.T with_rest_c ?ep ?ed ?eu; k_extra "my ee"))
  (k_with "my evk" => (refine' CallOK.T d_add_c ?ep ?ed ?eu; k_extra "my ee"))
  (k_with "my evk" => (refine' CallOK.T d_mul_c ?ep ?ed ?eu; k_extra "my ee"))
  (k_with "my evk" => (refine' CallOK.T d_sub_c ?ep ?ed ?eu; k_extra "my ee"))
  (k_with "my evk" => (refine' CallOK.T d_div_c ?ep ?ed ?eu; k_extra "my ee"))
  (k_with "my evk" => (refine' CallOK.I d_compare_c ?ep ?ed ?eu; k_extra "my ee"))
  (k_with "my evk" => (refine' CallOK.T square_c ?ep ?ed ?eu; k_extra "my ee"))
  (k_with "my evk" => (refine' CallOK.T decimal_of_v ?ep ?ed ?eu; k_extra "my ee"))
  (k_with "my evk" => (refine' CallOK.I whole_of_v ?ep ?ed ?eu; k_extra "my ee"))
  (k_with "my evk" => (refine' CallOK.B is_whole_ci ?ep ?ed ?eu; k_extra "my ee"))
  (k_with "my evk" => (refine' CallOK.B is_whole_ct ?ep ?ed ?eu; k_extra "my ee"))
  (k_with "my evk" => (refine' CallOK.B is_whole_v ?ep ?ed ?eu; k_extra "my ee"))
  (k_with "my evk" => (refine' CallOK.V settled_c ?ep ?ed ?eu; k_extra "my ee"))
  (k_with "my evk" => (refine' CallOK.V whole_reckoned_c ?ep ?ed ?eu; k_extra "my ee"))
  (k_with "my evk" => (refine' CallOK.I cut_quotient_c ?ep ?ed ?eu; k_extra "my ee"))
  (k_with "my evk" => (refine' CallOK.I exponent_of_v ?ep ?ed ?eu; k_extra "my ee"))
  (k_with "my evk" => (refine' CallOK.V whole_power_c ?ep ?ed ?eu; k_extra "my ee"))
  (k_with "my evk" => (refine' CallOK.V whole_reckoned_v ?ep ?ed ?eu; k_extra "my ee"))
  (k_with "my evk" => (refine' CallOK.V whole_power_v ?ep ?ed ?eu; k_extra "my ee"))
  (k_with "my evk" => (refine' CallOK.T d_power_c ?ep ?ed ?eu; k_extra "my ee"))
  (k_with "my evk" => (refine' CallOK.T d_add_l ?ep ?ed ?eu; k_extra "my ee"))
  (k_with "my evk" => (refine' CallOK.T d_sub_l ?ep ?ed ?eu; k_extra "my ee"))
  (k_with "my evk" => (refine' CallOK.T d_mul_l ?ep ?ed ?eu; k_extra "my ee"))
  (k_with "my evk" => (refine' CallOK.T d_div_l ?ep ?ed ?eu; k_extra "my ee"))
  (k_with "my evk" => (refine' CallOK.I d_compare_l ?ep ?ed ?eu; k_extra "my ee"))
  (k_with "my evk" => (refine' CallOK.V negated_v ?ep ?ed ?eu; k_extra "my ee"))
  (k_with "my evk" => (refine' CallOK.I order_v ?ep ?ed ?eu; k_extra "my ee"))
  (k_with "my evk" => (refine' CallOK.B stands_c ?ep ?ed ?eu; k_extra "my ee"))
  (k_with "my evk" => (refine' CallOK.I inverted_c ?ep ?ed ?eu; k_extra "my ee"))
  (k_with "my evk" => (refine' CallOK.T dec_c ?ep ?ed ?eu; k_extra "my ee"))
  (k_with "call builtin:min" => (k_here; k_dflt (refine' call_min ?kz1_k9 ?kz2_k9 ?kz3_k9 ?_; (case kz1_k9 => rfl); (case kz2_k9 => k_asm); (case kz3_k9 => k_asm)); intro _ _ _ _ _))
  (k_with "call builtin:max" => (k_here; k_dflt (refine' call_max ?kz1_k9 ?kz2_k9 ?kz3_k9 ?_; (case kz1_k9 => rfl); (case kz2_k9 => k_asm); (case kz3_k9 => k_asm)); intro _ _ _ _ _))
  (k_with "binaryOp Pow int int" => (k_here; (with_reducible refine pow_int_small ?kz1_k9 ?kz2_k9 ?kz3_k9 ?_); (case kz1_k9 => omega); (case kz2_k9 => omega); (case kz3_k9 => first | decide | omega)))
  (k_with "call builtin:isinstance" => (k_here; k_dflt (first | (refine' isi_tup ?kz1_k9 ?kz2_k9 ?_; (case kz1_k9 => k_in); (case kz2_k9 => k_extra "my is_list")) | (refine' isi_tup_str ?kz1_k9 ?kz2_k9 ?_; (case kz1_k9 => k_in); (case kz2_k9 => k_extra "my is_list"))); intro _))
  (k_with "my is_list" => first | exact Has.t0 (by assumption) (by assumption) (by assumption) | exact Has.t1 (by assumption) (by assumption) (by assumption) | exact Has.t2 (by assumption) (by assumption) (by assumption) | exact Has.t3 (by assumption) (by assumption) (by assumption) | exact Fr.tup (by assumption) (by assumption) | exact News.isTup (by assumption) (by k_mem) | assumption)
  (k_with "subscriptTail" => (k_here; (with_reducible show wpAny _ _ (subscriptTail _ _ (Value.ref _) (Value.int _ _)) _ _ _); k_dflt (refine' item_tupleT ?kt_k9 ?k1_k9 ?k2_k9 ?k3_k9 ?k4_k9 ?_; (case kt_k9 => k_extra "my is_list"); (case k1_k9 => decide); (case k2_k9 => decide); (case k3_k9 => rfl); (case k4_k9 => rfl))))
  (k_with "binaryOp Mult ref int" => (k_here; k_dflt (refine' KMa.mul ?F_k9 ?N_k9 ?l_k9 ?lo_k9 ?hi_k9 ?z_k9 ?e_k9 ?_; (case F_k9 => k_asm); (case N_k9 => k_asm); (case l_k9 => exact News.isList (by k_asm) (by k_mem)); (case lo_k9 => decide); (case hi_k9 => decide); (case z_k9 => (simp only [List.length_cons, List.length_nil]; decide)); (case e_k9 => exact rfl)); intro _ _ _ _ l8; (try k_lt l8)))
  (k_with "compareOp NotEq ref str" => (k_here; k_dflt (refine' ne_dataH ?ra_k9 ?rb_k9 ?ha_k9 ?hb_k9 ?hu_k9 ?_; (case ra_k9 => ked_read); (case rb_k9 => exact Reads.str _ _); (case ha_k9 => ked_shaped); (case hb_k9 => decide +kernel); (case hu_k9 => ke_room)); ked_norm))
  (k_with "my nw" => first | exact (by assumption) | exact (news_tl (by assumption)) | exact (news_tl (news_tl (by assumption))) | exact (news_tl (news_tl (news_tl (by assumption)))) | exact (news_tl (news_tl (news_tl (news_tl (by assumption))))) | exact (news_tl (news_tl (news_tl (news_tl (news_tl (by assumption)))))) | exact (news_tl (news_tl (news_tl (news_tl (news_tl (news_tl (by assumption))))))) | exact (news_tl (news_tl (news_tl (news_tl (news_tl (news_tl (news_tl (by assumption)))))))) | exact (news_tl (news_tl (news_tl (news_tl (news_tl (news_tl (news_tl (news_tl (by assumption))))))))) | exact (news_tl (news_tl (news_tl (news_tl (news_tl (news_tl (news_tl (news_tl (news_tl (by assumption)))))))))) | exact (news_tl (news_tl (news_tl (news_tl (news_tl (news_tl (news_tl (news_tl (news_tl (news_tl (by assumption))))))))))) | exact (news_tl (news_tl (news_tl (news_tl (news_tl (news_tl (news_tl (news_tl (news_tl (news_tl (news_tl (by assumption)))))))))))) | exact (news_tl (news_tl (news_tl (news_tl (news_tl (news_tl (news_tl (news_tl (news_tl (news_tl (news_tl (news_tl (by assumption))))))))))))) | exact (news_tl (news_tl (news_tl (news_tl (news_tl (news_tl (news_tl (news_tl (news_tl (news_tl (news_tl (news_tl (news_tl (by assumption)))))))))))))) | exact (news_tl (news_tl (news_tl (news_tl (news_tl (news_tl (news_tl (news_tl (news_tl (news_tl (news_tl (news_tl (news_tl (news_tl (by assumption))))))))))))))) | exact (news_tl (news_tl (news_tl (news_tl (news_tl (news_tl (news_tl (news_tl (news_tl (news_tl (news_tl (news_tl (news_tl (news_tl (news_tl (by assumption)))))))))))))))))
  trivial
theorem evK {Q : Value → Shared → Prop} (sn : Sm n) (sm : Sm m) (F : Fr h₀ L s.heap M) (m1 : M "a" = some (.int n ta)) (m2 : M "b" = some (.int m tb)) (N : News h₀ L s.heap news) (X : (K w.params).In h₀) (T : TopM mean mg mb h₀) (hd : dp + 12 < recursionLimit) (hu : un + 200 < cLine)
    (hq : ∀ l kl h' tk' M', Kinds kl l n m → Seqs kl → Fr h₀ L h' M' → (∀ x, M' x = M x) → News h₀ L h' (kl ++ news) → Q (.ref l) { s with heap := h', toks := tk' }) :
    wpAny (model Pg w) (AA dp un fr gd) (eval (forI O1) (orEnv L)) Q (fun _ _ => False) s := by
  refine' evk_in ?hb ?hs ?_
  (case hb => (conv => lhs; whnf))
  (case hs => (conv => lhs; whnf))
  have F1 := fr_pin2 F m1 m2
  clear F
  try k_fold
  k_extra "my k_steps"
  show Q _ _
  refine hq l9 kl9 _ _ _ kd9 ks9 (by k_asm) (fun x => ?_) N9
  split
  · rename_i z; rw [z, m1]
  · split
    · rename_i z; rw [z, m2]
    · rfl
theorem or_cell : (orEnv L).scope.kind = .function ∧ (orEnv L).kindOf "one" = some .cell ∧ (orEnv L).kindOf "other" = some .cell ∧ (orEnv L).cells.lookup ("one" : Str) = some (L + 1) ∧ (orEnv L).cells.lookup ("other" : Str) = some (L + 2) := ⟨by rfl, by rfl, by rfl, by rfl, by rfl⟩
noncomputable def tP (i : Nat) : Expr → Pos
  | .Tuple es _ _ => match es.getD i (.Constant .none 0 default) with
    | .Name _ p => p
    | _ => default
  | _ => default
noncomputable def tK : Expr → Nat
  | .Tuple _ k _ => k
  | _ => 0
noncomputable def tR : Expr → Pos
  | .Tuple _ _ r => r
  | _ => default
theorem or_tgt : forT O1 = .Tuple [.Name "one" (tP 0 (forT O1)), .Name "other" (tP 1 (forT O1))] (tK (forT O1)) (tR (forT O1)) := by kernel_rfl
/-- what stands at each turn over the kinds -/
inductive OrJ (h₀ : Heap) (L : Addr) (ta tb to : Tok) (n m o : Int) (kl : List (Addr × Obj)) (h : Heap) : Prop
  | mk (M : Str → Option Value) (o1 o2 : Obj) (x1 x2 : Option Value) (F : Fr h₀ L h M) (b1 : M "a" = some (.int n ta)) (b2 : M "b" = some (.int m tb)) (b3 : M "order" = some (.int o to)) (N : News h₀ L h ((L + 2, o2) :: (L + 1, o1) :: kl)) (b4 : o1.data = .cell x1) (b5 : o2.data = .cell x2)
/-- the loop over the four kinds -/
theorem ordFor {Q : Flow → Shared → Prop} {x1 x2 : Option Value} (sn : Sm n) (sm : Sm m) (X : (K w.params).In h₀) (T : TopM mean mg mb h₀) (hd : dp + 24 < recursionLimit) (hu : un + 400 < cLine)
    (hturn : ∀ (s : Shared) (M : Str → Option Value) (o1 o2 : Obj) (tl : List (Addr × Obj)) (v1 v2 : Value) (k k' : Bool), Fr h₀ L s.heap M → M "a" = some (.int n ta) → M "b" = some (.int m tb) → M "order" = some (.int o to) → News h₀ L s.heap ((L + 2, o2) :: (L + 1, o1) :: tl) → o1.data = .cell (some v1) → o2.data = .cell (some v2) → isVL tl k n v1 → isVL tl k' m v2 →
      wpAny (model Pg w) (AA dp un fr gd) (execs (forB O1) (orEnv L)) (OEnd h₀ L ta tb to n m o o1 o2 tl s) (fun _ _ => False) s)
    (F : Fr h₀ L s.heap M) (m1 : M "a" = some (.int n ta)) (m2 : M "b" = some (.int m tb)) (m3 : M "order" = some (.int o to)) (N : News h₀ L s.heap [(L + 2, o2), (L + 1, o1)]) (d1 : o1.data = .cell x1) (d2 : o2.data = .cell x2)
    (fin : ∀ h' tk' M', Fr h₀ L h' M' → M' "a" = some (.int n ta) → M' "b" = some (.int m tb) → Q .next { s with heap := h', toks := tk' }) :
    wpAny (model Pg w) (AA dp un fr gd) (exec O1 (orEnv L)) Q (fun _ _ => False) s := by
  rw [forO, or_tgt]
  refine for_walks (evK sn sm F m1 m2 N X T (by omega) (by omega) fun l kl h' tk' M' kinds hkseq F1 eM NK => ?_) (fun _ => by kernel_rfl) passes_false
  have m1' := (eM "a").trans m1
  have m2' := (eM "b").trans m2
  have m3' := (eM "order").trans m3
  clear F N eM
  obtain ⟨items, hz, ⟨kk, hl⟩, hit⟩ := kinds.its
  have N0 : News h₀ L h' ((L + 2, o2) :: (L + 1, o1) :: kl) := fun p hp => by
    rcases List.mem_cons.mp hp with rfl | hp
    · exact NK _ (List.mem_append_right _ (.head _))
    rcases List.mem_cons.mp hp with rfl | hp
    · exact NK _ (List.mem_append_right _ (.tail _ (.head _)))
    · exact NK _ (List.mem_append_left _ hp)
  have gl := (NK _ (List.mem_append_left _ hl)).1
  refine wpAny_pyIter_list (items := items) ⟨_, gl, rfl, _, rfl⟩ ?_
  have push : ∀ b ob, h'.get? b = some ob → (h'.push { cls := .type "list_iterator", data := .fields #[.ref l, .int 0 0] }).get? b = some ob := fun b ob e => Heap.get?_push_of_some _ e
  have old : ∀ b ob, h'.get? b = some ob → b ≠ h'.objs.size := fun b ob e => Nat.ne_of_lt (Heap.lt_size e)
  have hI0 : h₀.get? h'.objs.size = none := by
    cases z : h₀.get? h'.objs.size with
    | none => rfl
    | some ob => exact absurd rfl (old _ _ (F1.keep _ _ z))
  have hL : L ≠ h'.objs.size := by obtain ⟨ob, _, _, g, _⟩ := F1.ns; exact old _ _ g
  have hn : ∀ p ∈ (L + 2, o2) :: (L + 1, o1) :: kl, p.1 ≠ h'.objs.size := fun p hp => old _ _ (N0 p hp).1
  have it0 : (h'.push { cls := .type "list_iterator", data := .fields #[.ref l, .int 0 0] }).IsListIter h'.objs.size l 0 := ⟨_, Heap.get?_push_size _ rfl, rfl, rfl⟩
  have F2 : Fr h₀ L (h'.push { cls := .type "list_iterator", data := .fields #[.ref l, .int 0 0] }) M' := F1.push _
  have N2 : News h₀ L (h'.push { cls := .type "list_iterator", data := .fields #[.ref l, .int 0 0] }) ((L + 2, o2) :: (L + 1, o1) :: kl) := fun p hp => ⟨push _ _ (N0 p hp).1, (N0 p hp).2⟩
  dsimp only at *
  generalize h'.objs.size = I at *
  generalize h'.push { cls := .type "list_iterator", data := .fields #[.ref l, .int 0 0] } = h2 at *
  have e1 : L + 1 ≠ I := hn (L + 1, o1) (.tail _ (.head _))
  have e2 : L + 2 ≠ I := hn (L + 2, o2) (.head _)
  have ek : ∀ p ∈ kl, p.1 ≠ I := fun p hp => hn p (.tail _ (.tail _ hp))
  obtain ⟨c1, c2, c3, c4, c5⟩ := or_cell (L := L)
  refine ⟨I, [I, l], [I], items.size, _, _, fun _ h => OrJ h₀ L ta tb to n m o kl h, rfl, Walks.list rfl I l (ek _ hl) items, fun i s' v Q' E' hv st hq => ?_, ⟨it0, ⟨_, (N2 _ (.tail _ (.tail _ hl))).1, rfl, _, rfl⟩⟩, ⟨M', o1, o2, x1, x2, F2, m1', m2', m3', N2, d1, d2⟩, ?_, ?_, ?_⟩
  · obtain ⟨a, x, y, rfl, _⟩ := hit i v hv
    exact wpAny_letOwnedTupleGo_listiter st.1 hq
  · rintro i h h' ⟨M, p1, p2, y1, y2, FF, b1, b2, b3, NN, b4, b5⟩ st k
    refine ⟨M, p1, p2, y1, y2, ⟨ns_move FF.ns fun ob e => k _ ob (by simpa using hL) e, fun b ob e => k b ob (by simpa using fun z => by rw [z, hI0] at e; cases e) (FF.keep b ob e), FF.above⟩, b1, b2, b3, fun p hp => ⟨k _ _ ?_ (NN p hp).1, (NN p hp).2⟩, b4, b5⟩
    have : p.1 ≠ I := by
      rcases List.mem_cons.mp hp with rfl | hp
      · exact e2
      rcases List.mem_cons.mp hp with rfl | hp
      · exact e1
      · exact ek p hp
    simpa using this
  · rintro i v h tk hi hv ⟨M, p1, p2, y1, y2, FF, b1, b2, b3, NN, b4, b5⟩ ⟨st, sx⟩
    obtain ⟨a, x, y, rfl, hm, kx, ky, i1, i2⟩ := hit i v hv
    have NK2 : News h₀ L h kl := fun p hp => NN p (.tail _ (.tail _ hp))
    obtain ⟨ito, gi, ci, di⟩ := id st
    refine assign_Tuple_tuple rfl ⟨_, (NK2 _ hm).1, rfl, _, rfl⟩ (by rfl) (by rfl) fun h3 s3 => ?_
    have ne3 : ∀ b ob, h.get? b = some ob → h3.get? b = some ob := fun b ob e => s3 b ob (Nat.ne_of_lt (Heap.lt_size e)) e
    refine assignInOrder_cons (wpAny_assign_Name (wpAny_storeName_cell c1 c2 c4 ⟨p1, ne3 _ _ (NN _ (.tail _ (.head _))).1, b4⟩ fun h4 q1 s4 => ?_))
    refine assignInOrder_cons (wpAny_assign_Name (wpAny_storeName_cell c1 c3 c5 ⟨p2, (s4.2 (L + 2) (Nat.ne_of_gt (Nat.lt_succ_self _))).trans (ne3 _ _ (NN _ (.head _)).1), b5⟩ fun h5 q2 s5 => assignInOrder_nil ?_))
    obtain ⟨r1, g1, z1⟩ := q1
    obtain ⟨r2, g2, z2⟩ := q2
    have stay : ∀ b ob, b ≠ L + 1 → b ≠ L + 2 → h.get? b = some ob → h5.get? b = some ob := fun b ob n1 n2 e => (s5.2 b n2).trans ((s4.2 b n1).trans (ne3 b ob e))
    have N1 := (NN _ (.tail _ (.head _))).2
    have N2 := (NN _ (.head _)).2
    have F5 : Fr h₀ L h5 M := ⟨ns_move FF.ns fun ob e => stay L ob (Nat.ne_of_lt (Nat.lt_succ_self _)) (Nat.ne_of_lt (Nat.lt_add_of_pos_right (by decide))) e, fun b ob e => stay b ob (fun z => by rw [z, N1.2] at e; cases e) (fun z => by rw [z, N2.2] at e; cases e) (FF.keep b ob e), FF.above⟩
    have kc : ∀ p ∈ kl, p.1 ≠ L + 1 ∧ p.1 ≠ L + 2 := fun p hp => by
      have hs : ∃ xs kq, p.2.data = .seq xs kq := hkseq p hp
      obtain ⟨xs, kq, hs⟩ := hs
      refine ⟨fun z => ?_, fun z => ?_⟩
      · have := (NK2 p hp).1
        rw [z, (NN _ (.tail _ (.head _))).1] at this; cases this
        rw [hs] at b4; cases b4
      · have := (NK2 p hp).1
        rw [z, (NN _ (.head _)).1] at this; cases this
        rw [hs] at b5; cases b5
    have N5 : News h₀ L h5 ((L + 2, r2) :: (L + 1, r1) :: (I, ito) :: kl) := fun p hp => by
      rcases List.mem_cons.mp hp with rfl | hp
      · exact ⟨g2, N2⟩
      rcases List.mem_cons.mp hp with rfl | hp
      · exact ⟨(s5.2 (L + 1) (Nat.ne_of_lt (Nat.lt_succ_self _))).trans g1, N1⟩
      rcases List.mem_cons.mp hp with rfl | hp
      · exact ⟨stay I ito e1.symm e2.symm gi, hL.symm, hI0⟩
      · exact ⟨stay _ _ (kc p hp).1 (kc p hp).2 (NK2 p hp).1, (NK2 p hp).2⟩
    have tt := hturn { s with heap := h5, toks := tk } M r1 r2 ((I, ito) :: kl) x y kx ky F5 b1 b2 b3 N5 z1 z2 (i1.more fun p hp => .tail _ hp) (i2.more fun p hp => .tail _ hp)
    refine wpAny_mono tt (fun f s₄ y => ?_) (fun _ _ e => False.elim e)
    obtain ⟨ef, h6, tk6, M6, es, F6, w1, w2, w3, N6⟩ := y
    subst ef es
    refine ⟨h6, tk6, rfl, ⟨M6, r1, r2, _, _, F6, w1, w2, w3, fun p hp => N6 p ?_, z1, z2⟩, ⟨ito, (N6 _ (.tail _ (.tail _ (.head _)))).1, ci, di⟩, ⟨_, (N6 _ (.tail _ (.tail _ (.tail _ hl)))).1, rfl, _, rfl⟩⟩
    rcases List.mem_cons.mp hp with rfl | hp
    · exact .head _
    rcases List.mem_cons.mp hp with rfl | hp
    · exact .tail _ (.head _)
    · exact .tail _ (.tail _ (.tail _ hp))
  · rintro h tk ⟨M, p1, p2, y1, y2, FF, b1, b2, b3, NN, b4, b5⟩
    exact fin h tk M FF b1 b2
end
end
section
set_option maxHeartbeats 8000000
theorem isV_int {h : Heap} {n : Int} {t : Tok} : isV h false n (.int n t) := ⟨_, rfl⟩
theorem isV_tup {h : Heap} {a : Addr} {n : Int} {t u : Tok} (i : IsTup h a [Value.int (lawDec n).1 t, Value.int (lawDec n).2 u].toArray) : isV h true n (.ref a) := ⟨a, t, u, rfl, i⟩
noncomputable abbrev O0 : Stmt := (sBody (stm 46)).getD 0 (.Pass default)
noncomputable abbrev O2 : Stmt := (sBody (stm 46)).getD 2 (.Pass default)
theorem bodyO : sBody (stm 46) = [O0, O1, O2] := by kernel_rfl
section
variable {w : World} {mean : ExcName → Option Value} {mg mb : Str → Option Value} {h₀ : Heap} {L : Addr} {n m o : Int} {ta tb to : Tok} {M : Str → Option Value} {o1 o2 : Obj} {tl news : List (Addr × Obj)} {s : Shared} {dp un : Nat} {fr : Option (List Env)} {gd : Option (List Code)}
theorem ost_in {st st' : Stmt} {scope : Scope} {Q : Flow → Shared → Prop} (hb : st = st') (hs : orS = scope) (h : wpAny (model Pg w) (AA dp un fr gd) (exec st' (envOfC "_law_order_right" scope L 307 (.ref 306))) Q (fun _ _ => False) s) : wpAny (model Pg w) (AA dp un fr gd) (exec st (orEnv L)) Q (fun _ _ => False) s := by
  subst hb hs; exact h
theorem words17 : True := by
  (k_with "my ktr_rel" => first | (with_reducible exact isV_int) | exact isV_tup (by k_extra "my is_list") | (with_reducible assumption) | trivial | omega | rfl)
  (k_with "call ref" => (k_here; k_dflt (refine' Con.useI order_o ?zF ?zN ?zX ?zT ?zp ?zd ?zu ?_; k_extra "my cz"; k_extra "my cy"); intro _ _ _ _ _))
  (k_with "my evk" => (refine' CallOK.I order_o ?ep ?ed ?eu; k_extra "my ee"))
  trivial
theorem ordO0 {Q : Flow → Shared → Prop} (F : Fr h₀ L s.heap M) (m1 : M "a" = some (.int n ta)) (m2 : M "b" = some (.int m tb)) (N : News h₀ L s.heap news) (X : (K w.params).In h₀) (T : TopM mean mg mb h₀)
    (hq : ∀ h' tk' M' to o, Fr h₀ L h' M' → M' "a" = some (.int n ta) → M' "b" = some (.int m tb) → M' "order" = some (.int o to) → News h₀ L h' news → (o = -1 ∧ n < m ∨ o = 1 ∧ m < n ∨ o = 0 ∧ n = m) → Q .next { s with heap := h', toks := tk' }) :
    wpAny (model Pg w) (AA dp un fr gd) (exec O0 (orEnv L)) Q (fun _ _ => False) s := by
  refine' ost_in ?hb ?hs ?_
  (case hb => (conv => lhs; whnf))
  (case hs => (conv => lhs; whnf))
  replace F := fr_pin2 F m1 m2
  try k_fold
  k_extra "my k_steps"
  all_goals (show Q _ _; refine hq _ _ _ _ _ (by k_asm) rfl rfl rfl (by k_asm) (by omega))
theorem ordO2 (hn : n.natAbs < 10 ^ 10) (sn : Sm n) (hd : dp + 12 < recursionLimit) (hu : un + 200 < cLine) (F : Fr h₀ L s.heap M) (m1 : M "a" = some (.int n ta)) (N : News h₀ L s.heap []) (X : (K w.params).In h₀) (T : TopM mean mg mb h₀) :
    wpAny (model Pg w) (AA dp un fr gd) (exec O2 (orEnv L)) (fun f s' => f = .ret (.bool true) ∧ ∃ h' tk', s' = { s with heap := h', toks := tk' } ∧ h₀.StaysIn h') (fun _ _ => False) s := by
  have c0 : cmpI n n = 0 := by unfold cmpI; rw [if_neg (by omega)]; rfl
  refine' ost_in ?hb ?hs ?_
  (case hb => (conv => lhs; whnf))
  (case hs => (conv => lhs; whnf))
  replace F := fr_pin F m1
  try k_fold
  k_extra "my k_steps"
  all_goals first | exact Fr.keep (by k_asm) | exact rfl | exact ⟨rfl, _, _, rfl, Fr.keep (by k_asm)⟩ | exact ⟨_, _, rfl, Fr.keep (by k_asm)⟩
theorem order_c {t1 t2 : Tok} : Con w mean mg mb 307 [.int n t1, .int m t2] 26 420 (fun _ => n.natAbs < 10 ^ 5 ∧ m.natAbs < 10 ^ 5) (OutB true) := by
  intro dp un fr gd s Q E X T ⟨hn, hm⟩ hd hu hret
  have sn : Sm n := Sm.le (k := 5) (Nat.le_of_lt hn) (by decide)
  have sm : Sm m := Sm.le (k := 5) (Nat.le_of_lt hm) (by decide)
  have hn' : n.natAbs < 10 ^ 10 := by omega
  have hm' : m.natAbs < 10 ^ 10 := by omega
  refine' enterC (i := 46) ?eX ?eT ?eo ?ec ?er ?ep ?eb ?es ?ez ?ek ?el ?en ?_ ?e1 ?e2 ?e3
  (case eX => assumption)
  (case eT => assumption)
  (case eo => k_is)
  (case ec => k_is)
  (case er => (show (_ : Nat) < _; (try dsimp only [AA]); omega))
  (case ep => (conv => lhs; whnf))
  (case eb => exact bodyO)
  (case es => (conv => lhs; whnf))
  (case ez => (conv => lhs; simp only [List.map_cons, List.map_nil, List.zip_cons_cons, List.zip_nil_right, List.zip_nil_left]))
  (case ek => exact rfl)
  (case el => exact rfl)
  (case en => decide +kernel)
  (case e1 => exact rfl)
  (case e2 => exact rfl)
  (case e3 => exact rfl)
  intro L' h' tk' cells' F' N' Y'
  k_cells Y'
  try simp only [List.cons_append, List.nil_append] at N'
  rename_i o2 o1 e2 e1
  have d2 : o2.data = .cell none := e2
  have d1 : o1.data = .cell none := e1
  clear e1 e2
  show wpAny (model Pg w) (AA (dp + 1) (un + 3) _ gd) (execs [O0, O1, O2] (orEnv L')) _ _ _
  refine wpAny_execs_cons (ordO0 F' rfl rfl N' X T fun h1 tk1 M1 to o F1 m1 m2 m3 N1 ho => ?_)
  refine wpAny_execs_cons (ordFor (o := o) (to := to) sn sm X T (by omega) (by omega) (fun s M o1 o2 tl v1 v2 k k' F a b c N e1 e2 i1 i2 => ?_) F1 m1 m2 m3 N1 d1 d2 fun h2 tk2 M2 F2 p1 p2 => ?_)
  · have cc : ∀ x y : Int, cmpI x y = if x < y then -1 else if y < x then 1 else 0 := fun x y => by unfold cmpI; split <;> split <;> (try split) <;> omega
    rcases ho with ⟨rfl, h⟩ | ⟨rfl, h⟩ | ⟨rfl, rfl⟩
    · exact turnO_lt F a b c N e1 e2 i1 i2 X T hn' hm' (by rw [cc, if_pos h]) (by rw [cc, if_neg (by omega), if_pos h]) (by omega) (by omega)
    · exact turnO_gt F a b c N e1 e2 i1 i2 X T hn' hm' (by rw [cc, if_neg (by omega), if_pos h]) (by rw [cc, if_pos h]) (by omega) (by omega)
    · exact turnO_eq F a b c N e1 e2 i1 i2 X T hn' hm' (by rw [cc, if_neg (by omega), if_neg (by omega)]) (by rw [cc, if_neg (by omega), if_neg (by omega)]) (by omega) (by omega)
  · refine wpAny_execs_cons (wpAny_mono (ordO2 hn' sn (by omega) (by omega) F2 p1 News.nil X T) (fun f s' y => ?_) fun _ _ e => e)
    obtain ⟨rfl, h4, tk4, rfl, st⟩ := y
    exact hret _ h4 tk4 st rfl
end
end
section
set_option maxHeartbeats 8000000
noncomputable abbrev coS : Scope := sScope (stm 39)
noncomputable abbrev coEnv (L : Addr) : Env := envOf "_law_coin" coS L 262 (.ref 261)
section
variable {w : World} {mean : ExcName → Option Value} {mg mb : Str → Option Value} {h₀ : Heap} {L P C : Addr} {k many : Int} {tk0 tm : Tok} {M : Str → Option Value} {o : Obj} {news : List (Addr × Obj)} {s : Shared} {dp un : Nat} {fr : Option (List Env)} {gd : Option (List Code)} {vs : List Value} {ns : List Int}
theorem coin_in {body : List Stmt} {scope : Scope} {Q : Flow → Shared → Prop} (hb : sBody (stm 39) = body) (hs : coS = scope) (h : wpAny (model Pg w) (AA dp un fr gd) (execs body (envOf "_law_coin" scope L 262 (.ref 261))) Q (fun _ _ => False) s) : wpAny (model Pg w) (AA dp un fr gd) (execs (sBody (stm 39)) (coEnv L)) Q (fun _ _ => False) s := by
  subst hb hs; exact h
noncomputable def CoinEnd (w : World) (h₀ : Heap) (L P C : Addr) (k many : Int) (s : Shared) (f : Flow) (s' : Shared) : Prop :=
  ∃ r tr h' tk' o' t', f = .ret (.int r tr) ∧ 0 ≤ r ∧ r < many ∧ s' = { s with heap := h', toks := tk' } ∧ h₀.StaysIn h' ∧ h'.get? P = some o' ∧ o'.IsDictOf (PySem.strKind Pg w) [("coins", .ref C), ("spent", .int (k + 1) t')]
theorem words18 : True := by
  (k_with "my ktr_rel" => first | exact isV.keeps (by assumption) (Fr.keep (by assumption)) | trivial | k_extra "my is_list" | assumption | k_extra "my ktn_ord" | omega | rfl | (with_reducible exact ⟨_, rfl⟩))
  (k_with "call ref" => (k_here; k_dflt (refine' Con.useT dec_c ?zF ?zN ?zX ?zT ?zp ?zd ?zu ?_; k_extra "my cz"; k_extra "my cy"); intro _ _ _ _ _ _ _))
  (k_with "my evk" => (refine' CallOK.T dec_c ?ep ?ed ?eu; k_extra "my ee"))
  trivial
theorem coin_walk (F : Fr h₀ L s.heap M) (m1 : M "purse" = some (.ref P)) (m2 : M "many" = some (.int many tm)) (N : News h₀ L s.heap [(P, o)]) (hd : o.IsDictOf (PySem.strKind Pg w) [("coins", .ref C), ("spent", .int k tk0)]) (hl : h₀.IsList C vs.toArray) (hi : IntsAre vs ns) (hlen : vs.length ≤ 40) (hlen2 : ns.length = vs.length)
    (X : (K w.params).In h₀) (T : TopM mean mg mb h₀) (k0 : 0 ≤ k) (k1 : k ≤ 1000) (hm : 1 ≤ many) (hm2 : many ≤ 65536) (hdp : dp + 2 < recursionLimit) (hu : un + 40 < cLine) :
    wpAny (model Pg w) (AA dp un fr gd) (execs (sBody (stm 39)) (coEnv L)) (CoinEnd w h₀ L P C k many s) (fun _ _ => False) s := by
  refine' coin_in ?hb ?hs ?_
  (case hb => (conv => lhs; whnf))
  (case hs => (conv => lhs; whnf))
  replace F := fr_pin2 F m1 m2
  try k_fold
  k_extra "my k_steps"
  all_goals show CoinEnd _ _ _ _ _ _ _ _ _ _
  all_goals rename Obj.IsDictOf _ _ _ => hD
  all_goals exact ⟨_, _, _, _, _, _, rfl, Int.fmod_nonneg_of_pos _ (by omega), Int.fmod_lt_of_pos _ (by omega), rfl, Fr.keep (by k_asm), News.get (by k_asm) (.head _), hD⟩
end
end
section
set_option maxHeartbeats 8000000
section
variable {w : World} {mean : ExcName → Option Value} {mg mb : Str → Option Value} {base : Heap} {P C : Addr} {k many : Int} {tk0 tm : Tok} {o : Obj} {s : Shared} {dp un : Nat} {fr : Option (List Env)} {gd : Option (List Code)} {vs : List Value} {ns : List Int} {Q E : Value → Shared → Prop}
theorem coin_c (X : (K w.params).In base) (T : TopM mean mg mb base) (B : base.StaysIn s.heap) (hP : base.get? P = none) (g : s.heap.get? P = some o) (hd : o.IsDictOf (PySem.strKind Pg w) [("coins", .ref C), ("spent", .int k tk0)]) (hl : s.heap.IsList C vs.toArray) (hC : C ≠ P) (hi : IntsAre vs ns) (hlen : vs.length ≤ 40) (hlen2 : ns.length = vs.length)
    (k0 : 0 ≤ k) (k1 : k ≤ 1000) (hm : 1 ≤ many) (hm2 : many ≤ 65536) (hdp : dp + 3 < recursionLimit) (hu : un + 48 < cLine)
    (hq : ∀ r tr h' tk' o' t', 0 ≤ r → r < many → (∀ b ob, b ≠ P → s.heap.get? b = some ob → h'.get? b = some ob) → h'.get? P = some o' → o'.IsDictOf (PySem.strKind Pg w) [("coins", .ref C), ("spent", .int (k + 1) t')] → Q (.int r tr) { s with heap := h', toks := tk' }) :
    wpAny (model Pg w) (AA dp un fr gd) (call (.ref 262) [.ref P, .int many tm]) Q E s := by
  have X' := X.keeps B
  have T' := T.keeps B
  have st : base.StaysIn (hideAll s.heap [P]) := fun b ob e => hideAll_get _ (B b ob e) fun hm => by
    rw [List.mem_singleton.mp hm, hP] at e; cases e
  have hl0 : (hideAll s.heap [P]).IsList C vs.toArray := let ⟨oc, gc, r⟩ := hl; ⟨oc, hideAll_get _ gc (by simpa using hC), r⟩
  have up : (hideAll s.heap [P]).StaysIn s.heap := fun b ob e => of_hideAll _ e
  have back : ∀ b ob, b ≠ P → s.heap.get? b = some ob → (hideAll s.heap [P]).get? b = some ob := fun b ob n e => hideAll_get _ e (by simpa using n)
  have sz : (hideAll s.heap [P]).objs.size = s.heap.objs.size := hideAll_size _ _
  have hP0 : (hideAll s.heap [P]).get? P = none := hideAll_none _ (.head _)
  generalize hideAll s.heap [P] = h₀ at *
  refine' enter (i := 39) ?eX ?eT ?eo ?ec ?er ?ep ?eb ?es ?ez ?eR ?ek ?el ?_ ?ee ?e1 ?e2 ?e3
  (case eX => exact X')
  (case eT => exact T')
  (case eo => k_is)
  (case ec => k_is)
  (case er => (show (_ : Nat) < _; (try dsimp only [AA]); omega))
  (case ep => (conv => lhs; whnf))
  (case eb => exact rfl)
  (case es => exact rfl)
  (case ez => (conv => lhs; simp only [List.map_cons, List.map_nil, List.zip_cons_cons, List.zip_nil_right, List.zip_nil_left]))
  (case eR => (conv => lhs; simp only [List.reverse_cons, List.reverse_nil, List.nil_append, List.cons_append]))
  (case ek => exact rfl)
  (case el => exact rfl)
  (case ee => exact rfl)
  (case e1 => exact rfl)
  (case e2 => exact rfl)
  (case e3 => exact rfl)
  intro L' h' tk' F' N'
  have hLP : P ≠ L' := fun z => Nat.lt_irrefl _ (Nat.lt_of_lt_of_le (Heap.lt_size g) (z ▸ F'.above))
  have F0 := (⟨F'.ns, fun b ob e => F'.keep b ob (up b ob e), by rw [sz]; exact F'.above⟩ : Fr h₀ L' h' _)
  have N0 : News h₀ L' h' [(P, o)] := fun p hp => by
    rw [List.mem_singleton.mp hp]
    exact ⟨F'.keep _ _ g, hLP, hP0⟩
  show wpAny (model Pg w) (AA (dp + 1) (un + 3) _ gd) (execs (sBody (stm 39)) (coEnv L')) _ _ _
  refine wpAny_mono (coin_walk F0 rfl rfl N0 hd hl0 hi hlen hlen2 (X.keeps st) (T.keeps st) k0 k1 hm hm2 (by omega) (by omega)) (fun f s' y => ?_) (fun _ _ e => e)
  obtain ⟨r, tr, h2, tk2, o', t', rfl, r0, r1, rfl, st2, g2, d2⟩ := y
  exact hq r tr h2 tk2 o' t' r0 r1 (fun b ob n e => st2 b ob (back b ob n e)) g2 d2
end
end
end
section
set_option maxHeartbeats 8000000
noncomputable abbrev laS : Scope := sScope (stm 47)
noncomputable abbrev laEnv (L f : Addr) : Env := envOfC "law" laS L f (.ref 311)
noncomputable abbrev A0 : Stmt := (sBody (stm 47)).getD 0 (.Pass default)
section
variable {w : World} {mean : ExcName → Option Value} {mg mb : Str → Option Value} {h₀ : Heap} {L S fa : Addr} {tk0 tm : Tok} {M : Str → Option Value} {w1 w2 w3 w4 t1 t2 : Obj} {news : List (Addr × Obj)} {s : Shared} {dp un : Nat} {fr : Option (List Env)} {gd : Option (List Code)} {vs : List Value} {ns : List Int}
theorem la_in {st st' : Stmt} {scope : Scope} {Q : Flow → Shared → Prop} (hb : st = st') (hs : laS = scope) (h : wpAny (model Pg w) (AA dp un fr gd) (exec st' (envOfC "law" scope L fa (.ref 311))) Q (fun _ _ => False) s) : wpAny (model Pg w) (AA dp un fr gd) (exec st (laEnv L fa)) Q (fun _ _ => False) s := by
  subst hb hs; exact h
theorem words19 : True := by
  k_with_none
  (k_with "my cz" => ((case zF => k_asm); (case zN => k_asm); (case zX => k_asm); (case zT => k_asm)))
  (k_with "my cy" => ((case zp => first | trivial | ((try dsimp only); (repeat' (with_reducible refine And.intro ?_ ?_)) <;> k_extra "my ktr_rel")); (case zd => k_extra "my ktr_room"); (case zu => k_extra "my ktr_room")))
  (k_with "my ee" => ((case ep => k_extra "my evp"); (case ed => k_extra "my ktr_room"); (case eu => k_extra "my ktr_room")))
  (k_with "my ktr_room" => ((try dsimp only [AA]); first | exact room1 hd rfl | exact room hu rfl | exact room hd rfl | omega))
  (k_with "my ktr_rel" => first | trivial | assumption | omega | rfl | (with_reducible exact ⟨_, rfl⟩))
  (k_with "my ktr_rel" => first | exact isV.keeps (by assumption) (Fr.keep (by assumption)) | trivial | k_extra "my is_list" | assumption | k_extra "my ktn_ord" | omega | rfl | (with_reducible exact ⟨_, rfl⟩))
  (k_with "my evp" => first | trivial | ((try dsimp only); (repeat' (with_reducible refine And.intro ?_ ?_)) <;> first | exact isV.keeps (isV.keeps (by assumption) (Cx.F C9).keep) st9 | k_extra "my ktr_rel"))
  (k_with "my ev" => first
    | exact Ev.lit
    | exact Ev.nmI C9 rfl
    | (apply Ev.add; k_extra "my ev"; k_extra "my ev")
    | (apply Ev.sub; k_extra "my ev"; k_extra "my ev")
    | (apply Ev.mul; k_extra "my ev"; k_extra "my ev"; first | exact Sm.mulOk (by k_extra "my ktn_ord") (by k_extra "my ktn_ord") | mul_fits)
    | (apply Ev.fdiv; k_extra "my ev"; k_extra "my ev"; k_extra "my km_fact"; k_extra "my kbt_ne")
    | (apply Ev.mod; k_extra "my ev"; k_extra "my ev"; k_extra "my km_fact")
    | (apply Ev.pow; k_extra "my ev"; k_extra "my ev"; omega; omega; first | decide | omega)
    | (apply Ev.neg; k_extra "my ev")
    | (apply Ev.cmpI; k_extra "my ev"; k_extra "my ev"; k_extra "my cmp"; rfl)
    | (apply Ev.item0; k_extra "my evt")
    | (apply Ev.item1; k_extra "my evt")
    | (apply Ev.call C9; rfl; rfl; rfl; rfl; k_is; k_is; k_extra "my evl"; (intro hh9 st9; (repeat (intro _)); k_extra "my evk"))
    | (apply Ev.abs C9; rfl; k_is; rfl; k_extra "my ev")
    | (apply Ev.isi C9; rfl; k_is; rfl; rfl; k_extra "my evl"; k_extra "my isi")
    | ((rename EvIf => if9); apply Ev.iteI; k_extra "my ec"; (intro hc9; k_extra "my ev"); (intro hc9; k_extra "my ev"))
    | exact Ev.text
    | exact Ev.nmS C9 rfl
    | exact Ev.nmB C9 rfl
    | (refine' Ev.nmT C9 rfl ?i; (case i => is_list))
    | exact Ev.nmV C9 rfl
    | (apply Ev.nmBT C9; rfl; rfl; boot_fast; decide; k_is))
  (k_with "my isi" => first | exact IsiIs.tt | exact IsiIs.ts | exact IsiIs.it | exact IsiIs.is)
  (k_with "my evt" => (refine' Ev.nmT C9 rfl ?i; (case i => is_list)))
  (k_with "my evl" => first | exact EvL.nil | (apply EvL.cons; k_extra "my ev"; k_extra "my evl"; rfl))
  (k_with "my cmp" => first | exact CmpIs.eq | exact CmpIs.lt | exact CmpIs.ne | exact CmpIs.le | exact CmpIs.gt | exact CmpIs.ge | exact CmpIs.eqs | exact CmpIs.nes | exact CmpIs.eqb)
  (k_with "my ec" => first | (apply Ec.cmpI; k_extra "my ev"; k_extra "my ev"; k_extra "my cmp"; rfl) | (apply Ec.plain; k_extra "my ev"; (intro _; rfl)) | (apply Ec.not; k_extra "my ec"))
  (k_with "my cx" => (refine' Cx.mk ?cxX ?cxT ?cxF ?cxl ?cxg ?cxk ?cxb; (case cxF => k_asm); (case cxX => k_asm); (case cxT => k_asm); (case cxl => rfl); (case cxg => rfl); (case cxk => rfl); (case cxb => rfl)))
  (k_with "my evline" => (k_here; k_whole; (fail_if_success (rename EvOff => off9)); k_dflt (refine' Ev.use0 ?C ?N ?ev ?_; (case C => k_extra "my cx"); (case N => k_asm); (case ev => (intro C9; k_extra "my ev")); first | (refine giveI ?_; intro t9 h9 tk9 F9 N9) | (refine giveT ?_; intro a9 t9 v9 h9 tk9 F9 N9) | (refine giveB ?_; intro h9 tk9 F9 N9) | (refine giveV ?_; intro r9 h9 tk9 F9 N9 O9) | (refine giveT3 ?_; intro a9 t9 v9 x9 h9 tk9 F9 N9))))
  (k_with "eval Call" => k_extra "my evline")
  (k_with "eval BinOp" => k_extra "my evline")
  (k_with "eval UnaryOp" => k_extra "my evline")
  (k_with "eval Compare" => k_extra "my evline")
  (k_with "eval Subscript" => k_extra "my evline")
  (k_with "my ecline" => (k_here; k_whole; (fail_if_success (rename EvOff => off9)); k_dflt (refine' Ec.use0 ?C ?N ?ev ?_; (case C => k_extra "my cx"); (case N => k_asm); (case ev => (intro C9; k_extra "my ec")); intro h9 tk9 F9 N9)))
  (k_with "isTrue Compare" => k_extra "my ecline")
  (k_with "isTrue Call" => k_extra "my ecline")
  (k_with "isTrue UnaryOp" => k_extra "my ecline")
  (k_with "my ktr_enter" => (
  refine' enter ?eX_k9 ?eT_k9 ?eo_k9 ?ec_k9 ?er_k9 ?ep ?eb_k9 ?es_k9 ?ez_k9 ?eR_k9 ?ek_k9 ?el_k9 ?_ ?ee_k9 ?e1_k9 ?e2_k9 ?e3_k9
  (case eX_k9 => assumption)
  (case eT_k9 => assumption)
  (case eo_k9 => k_is)
  (case ec_k9 => k_is)
  (case er_k9 => (show (_ : Nat) < _; (try dsimp only [AA]); omega))
  (case ep => (conv => lhs; whnf))
  (case eb_k9 => (conv => lhs; whnf))
  (case es_k9 => (conv => lhs; whnf))
  (case ez_k9 => (conv => lhs; simp only [List.map_cons, List.map_nil, List.zip_cons_cons, List.zip_nil_right, List.zip_nil_left]))
  (case eR_k9 => (conv => lhs; simp only [List.reverse_cons, List.reverse_nil, List.nil_append, List.cons_append]))
  (case ek_k9 => exact rfl)
  (case el_k9 => exact rfl)
  (case ee_k9 => exact rfl)
  (case e1_k9 => exact rfl)
  (case e2_k9 => exact rfl)
  (case e3_k9 => exact rfl)
  intro _ _ _ _ _
  try dsimp only
  try k_fold))
  (k_with "my k_steps" => repeat' (first | (k_unfold; (try dsimp only)) | ((with_reducible show wpAny _ _ (exec _ _) _ _ _); k_whole; k_fold) | ((with_reducible show (_ : Flow → Shared → Prop) _ _); k_unfold; (try dsimp only)) | ((with_reducible show (_ : Value → Shared → Prop) _ _); k_unfold; (try dsimp only)) | walk1 | (dsimp only; k_unfold; (try dsimp only)) | (dsimp only; walk1) | fail "no step"))
  (k_with "my k_steps" => repeat' (first | (k_unfold; (try dsimp only)) | ((with_reducible show wpAny _ _ (exec _ _) _ _ _); k_whole; k_fold) | ((with_reducible show (_ : Flow → Shared → Prop) _ _); k_unfold; (try dsimp only)) | ((with_reducible show (_ : Value → Shared → Prop) _ _); k_unfold; (try dsimp only)) | ((fail_if_success (with_reducible show wpAny _ _ (exec (Stmt.While _ _ _ _) _) _ _ _)); walk1) | (dsimp only; k_unfold; (try dsimp only)) | (dsimp only; (fail_if_success (with_reducible show wpAny _ _ (exec (Stmt.While _ _ _ _) _) _ _ _)); walk1) | fail "no step"))
  (k_with "my km_fact" => first | exact pow10_ne _ | assumption | omega | decide)
  (k_with "my kbt_ne" => first | exact (Sm.pow10 (by omega)).log2 | exact (Sm.small (by omega) (by omega)).log2 | exact Sm.log2 (by assumption))
  (k_with "binaryOp FloorDiv int int" => (k_here; (with_reducible refine floordiv_int ?kzb_k9 ?_ (Or.inl (PyProof.noPylong_of_log2 ?kzp_k9))); (case kzb_k9 => k_extra "my km_fact"); (case kzp_k9 => k_extra "my kbt_ne")))
  (k_with "inplaceOp FloorDiv int int" => (k_here; (with_reducible refine ifloordiv_int ?kzb_k9 ?_ (Or.inl (PyProof.noPylong_of_log2 ?kzp_k9))); (case kzb_k9 => k_extra "my km_fact"); (case kzp_k9 => k_extra "my kbt_ne")))
  (k_with "binaryOp Mod int int" => (k_here; (with_reducible refine mod_int' ?kzb_k9 ?_); (case kzb_k9 => k_extra "my km_fact")))
  (k_with "call builtin:abs" => (k_here; (refine call_abs ?_); intro _ _))
  (k_with "my ktn_ord" => first | assumption | exact Sm.pow10 (by omega) | exact Sm.small (by omega) (by omega))
  (k_with "binaryOp Mult int int" => (k_here; (with_reducible refine mul_int ?_ ?kzm_k9); (case kzm_k9 => first | exact Sm.mulOk (by k_extra "my ktn_ord") (by k_extra "my ktn_ord") | mul_fits)))
  (k_with "call ref" => (k_here; k_dflt (refine' Con.useI figures_of_c ?zF ?zN ?zX ?zT ?zp ?zd ?zu ?_; k_extra "my cz"; (case zp => trivial); (case zd => k_extra "my ktr_room"); (case zu => k_extra "my ktr_room")); intro _ _ _ _ _))
  (k_with "call ref" => (k_here; k_dflt (refine' Con.useI rounded_by_c ?zF ?zN ?zX ?zT ?zp ?zd ?zu ?_; k_extra "my cz"; (case zp => ((try dsimp only); omega)); (case zd => k_extra "my ktr_room"); (case zu => k_extra "my ktr_room")); intro _ _ _ _ _))
  (k_with "call ref" => (k_here; k_dflt (refine' Con.useT made_c ?zF ?zN ?zX ?zT ?zp ?zd ?zu ?_; k_extra "my cz"; k_extra "my cy"); intro _ _ _ _ _ _ _))
  (k_with "call ref" => (k_here; k_dflt (refine' Con.useI whole_near_c ?zF ?zN ?zX ?zT ?zp ?zd ?zu ?_; k_extra "my cz"; k_extra "my cy"); intro _ _ _ _ _))
  (k_with "call ref" => (k_here; k_dflt (refine' Con.useB fits_c ?zF ?zN ?zX ?zT ?zp ?zd ?zu ?_; k_extra "my cz"; k_extra "my cy"); intro _ _ _ _))
  (k_with "call ref" => (k_here; k_dflt (refine' Con.useI whole_of_ci ?zF ?zN ?zX ?zT ?zp ?zd ?zu ?_; k_extra "my cz"; k_extra "my cy"); intro _ _ _ _ _))
  (k_with "call ref" => (k_here; k_dflt (refine' Con.useI whole_of_ct ?zF ?zN ?zX ?zT ?zp ?zd ?zu ?_; k_extra "my cz"; k_extra "my cy"); intro _ _ _ _ _))
  (k_with "call ref" => (k_here; k_dflt (refine' Con.useT decimal_of_ci ?zF ?zN ?zX ?zT ?zp ?zd ?zu ?_; k_extra "my cz"; k_extra "my cy"); intro _ _ _ _ _ _ _))
  (k_with "call ref" => (k_here; k_dflt (refine' Con.useT decimal_of_ct ?zF ?zN ?zX ?zT ?zp ?zd ?zu ?_; k_extra "my cz"; k_extra "my cy"); intro _ _ _ _ _ _ _))
  (k_with "call ref" => (k_here; k_dflt (refine' Con.useT d_negated_c ?zF ?zN ?zX ?zT ?zp ?zd ?zu ?_; k_extra "my cz"; k_extra "my cy"); intro _ _ _ _ _ _ _))
  (k_with "call ref" => (k_here; k_dflt (refine' Con.useT3 alike_c ?zF ?zN ?zX ?zT ?zp ?zd ?zu ?_; k_extra "my cz"; k_extra "my cy"); intro _ _ _ _ _ _ _ _))
  (k_with "call ref" => (k_here; k_dflt (refine' Con.useT with_rest_c ?zF ?zN ?zX ?zT ?zp ?zd ?zu ?_; k_extra "my cz"; k_extra "my cy"); intro _ _ _ _ _ _ _))
  (k_with "call ref" => (k_here; k_dflt (refine' Con.useT d_add_c ?zF ?zN ?zX ?zT ?zp ?zd ?zu ?_; k_extra "my cz"; k_extra "my cy"); intro _ _ _ _ _ _ _))
  (k_with "call ref" => (k_here; k_dflt (refine' Con.useT d_mul_c ?zF ?zN ?zX ?zT ?zp ?zd ?zu ?_; k_extra "my cz"; k_extra "my cy"); intro _ _ _ _ _ _ _))
  (k_with "call ref" => (k_here; k_dflt (refine' Con.useT d_sub_c ?zF ?zN ?zX ?zT ?zp ?zd ?zu ?_; k_extra "my cz"; k_extra "my cy"); intro _ _ _ _ _ _ _))
  (k_with "call ref" => (k_here; k_dflt (refine' Con.useT d_div_c ?zF ?zN ?zX ?zT ?zp ?zd ?zu ?_; k_extra "my cz"; k_extra "my cy"); intro _ _ _ _ _ _ _))
  (k_with "call ref" => (k_here; k_dflt (refine' Con.useI d_compare_c ?zF ?zN ?zX ?zT ?zp ?zd ?zu ?_; k_extra "my cz"; k_extra "my cy"); intro _ _ _ _ _))
  (k_with "call ref" => (k_here; k_dflt (refine' Con.useT square_c ?zF ?zN ?zX ?zT ?zp ?zd ?zu ?_; k_extra "my cz"; k_extra "my cy"); intro _ _ _ _ _ _ _))
  (k_with "call ref" => (k_here; k_dflt (refine' Con.useT decimal_of_v ?zF ?zN ?zX ?zT ?zp ?zd ?zu ?_; k_extra "my cz"; k_extra "my cy"); intro _ _ _ _ _ _ _))
  (k_with "call ref" => (k_here; k_dflt (refine' Con.useI whole_of_v ?zF ?zN ?zX ?zT ?zp ?zd ?zu ?_; k_extra "my cz"; k_extra "my cy"); intro _ _ _ _ _))
  (k_with "call ref" => (k_here; k_dflt (refine' Con.useB is_whole_ci ?zF ?zN ?zX ?zT ?zp ?zd ?zu ?_; k_extra "my cz"; k_extra "my cy"); intro _ _ _ _))
  (k_with "call ref" => (k_here; k_dflt (refine' Con.useB is_whole_ct ?zF ?zN ?zX ?zT ?zp ?zd ?zu ?_; k_extra "my cz"; k_extra "my cy"); intro _ _ _ _))
  (k_with "call ref" => (k_here; k_dflt (refine' Con.useB is_whole_v ?zF ?zN ?zX ?zT ?zp ?zd ?zu ?_; k_extra "my cz"; k_extra "my cy"); intro _ _ _ _))
  (k_with "call ref" => (k_here; k_dflt (refine' Con.useV settled_c ?zF ?zN ?zX ?zT ?zp ?zd ?zu ?_; k_extra "my cz"; k_extra "my cy"); intro _ _ _ _ _ _))
  (k_with "call ref" => (k_here; k_dflt (refine' Con.useV whole_reckoned_c ?zF ?zN ?zX ?zT ?zp ?zd ?zu ?_; k_extra "my cz"; k_extra "my cy"); intro _ _ _ _ _ _))
  (k_with "call ref" => (k_here; k_dflt (refine' Con.useI cut_quotient_c ?zF ?zN ?zX ?zT ?zp ?zd ?zu ?_; k_extra "my cz"; k_extra "my cy"); intro _ _ _ _ _))
  (k_with "call ref" => (k_here; k_dflt (refine' Con.useI exponent_of_v ?zF ?zN ?zX ?zT ?zp ?zd ?zu ?_; k_extra "my cz"; k_extra "my cy"); intro _ _ _ _ _))
  (k_with "call ref" => (k_here; k_dflt (refine' Con.useV whole_power_c ?zF ?zN ?zX ?zT ?zp ?zd ?zu ?_; k_extra "my cz"; k_extra "my cy"); intro _ _ _ _ _ _))
  (k_with "call ref" => (k_here; k_dflt (refine' Con.useV whole_reckoned_v ?zF ?zN ?zX ?zT ?zp ?zd ?zu ?_; k_extra "my cz"; k_extra "my cy"); intro _ _ _ _ _ _))
  (k_with "call ref" => (k_here; k_dflt (refine' Con.useV whole_power_v ?zF ?zN ?zX ?zT ?zp ?zd ?zu ?_; k_extra "my cz"; k_extra "my cy"); intro _ _ _ _ _ _))
  (k_with "call ref" => (k_here; k_dflt (refine' Con.useT d_power_c ?zF ?zN ?zX ?zT ?zp ?zd ?zu ?_; k_extra "my cz"; k_extra "my cy"); intro _ _ _ _ _ _ _))
  (k_with "call ref" => (k_here; k_dflt (refine' Con.useT d_add_l ?zF ?zN ?zX ?zT ?zp ?zd ?zu ?_; k_extra "my cz"; k_extra "my cy"); intro _ _ _ _ _ _ _))
  (k_with "call ref" => (k_here; k_dflt (refine' Con.useT d_sub_l ?zF ?zN ?zX ?zT ?zp ?zd ?zu ?_; k_extra "my cz"; k_extra "my cy"); intro _ _ _ _ _ _ _))
  (k_with "call ref" => (k_here; k_dflt (refine' Con.useT d_mul_l ?zF ?zN ?zX ?zT ?zp ?zd ?zu ?_; k_extra "my cz"; k_extra "my cy"); intro _ _ _ _ _ _ _))
  (k_with "call ref" => (k_here; k_dflt (refine' Con.useT d_div_l ?zF ?zN ?zX ?zT ?zp ?zd ?zu ?_; k_extra "my cz"; k_extra "my cy"); intro _ _ _ _ _ _ _))
  (k_with "call ref" => (k_here; k_dflt (refine' Con.useI d_compare_l ?zF ?zN ?zX ?zT ?zp ?zd ?zu ?_; k_extra "my cz"; k_extra "my cy"); intro _ _ _ _ _))
  (k_with "call ref" => (k_here; k_dflt (refine' Con.useV negated_v ?zF ?zN ?zX ?zT ?zp ?zd ?zu ?_; k_extra "my cz"; k_extra "my cy"); intro _ _ _ _ _ _))
  (k_with "call ref" => (k_here; k_dflt (refine' Con.useI order_v ?zF ?zN ?zX ?zT ?zp ?zd ?zu ?_; k_extra "my cz"; k_extra "my cy"); intro _ _ _ _ _))
  (k_with "call ref" => (k_here; k_dflt (refine' Con.useB stands_c ?zF ?zN ?zX ?zT ?zp ?zd ?zu ?_; k_extra "my cz"; k_extra "my cy"); intro _ _ _ _))
  (k_with "call ref" => (k_here; k_dflt (refine' Con.useI inverted_c ?zF ?zN ?zX ?zT ?zp ?zd ?zu ?_; k_extra "my cz"; k_extra "my cy"); intro _ _ _ _ _))
  (k_with "call ref" => (k_here; k_dflt (refine' Con.useT dec_c ?zF ?zN ?zX ?zT ?zp ?zd ?zu ?_; k_extra "my cz"; k_extra "my cy"); intro _ _ _ _ _ _ _))
  (k_with "my evk" => (refine' CallOK.I figures_of_c ?ep ?ed ?eu; k_extra "my ee"))
  (k_with "my evk" => (refine' CallOK.I rounded_by_c ?ep ?ed ?eu; k_extra "my ee"))
  (k_with "my evk" => (refine' CallOK.T made_c ?ep ?ed ?eu; k_extra "my ee"))
  (k_with "my evk" => (refine' CallOK.I whole_near_c ?ep ?ed ?eu; k_extra "my ee"))
  (k_with "my evk" => (refine' CallOK.B fits_c ?ep ?ed ?eu; k_extra "my ee"))
  (k_with "my evk" => (refine' CallOK.I whole_of_ci ?ep ?ed ?eu; k_extra "my ee"))
  (k_with "my evk" => (refine' CallOK.I whole_of_ct ?ep ?ed ?eu; k_extra "my ee"))
  (k_with "my evk" => (refine' CallOK.T decimal_of_ci ?ep ?ed ?eu; k_extra "my ee"))
  (k_with "my evk" => (refine' CallOK.T decimal_of_ct ?ep ?ed ?eu; k_extra "my ee"))
  (k_with "my evk" => (refine' CallOK.T d_negated_c ?ep ?ed ?eu; k_extra "my ee"))
  (k_with "my evk" => (refine' CallOK.T3 alike_c ?ep ?ed ?eu; k_extra "my ee"))
  (k_with "my evk" => (refine' CallOK.T with_rest_c ?ep ?ed ?eu; k_extra "my ee"))
  (k_with "my evk" => (refine' CallOK.T d_add_c ?ep ?ed ?eu; k_extra "my ee"))
  (k_with "my evk" => (refine' CallOK.T d_mul_c ?ep ?ed ?eu; k_extra "my ee"))
  (k_with "my evk" => (refine' CallOK.T d_sub_c ?ep ?ed ?eu; k_extra "my ee"))
  (k_with "my evk" => (refine' CallOK.T d_div_c ?ep ?ed ?eu; k_extra "my ee"))
  (k_with "my evk" => (refine' CallOK.I d_compare_c ?ep ?ed ?eu; k_extra "my ee"))
  (k_with "my evk" => (refine' CallOK.T square_c ?ep ?ed ?eu; k_extra "my ee"))
  (k_with "my evk" => (refine' CallOK.T decimal_of_v ?ep ?ed ?eu; k_extra "my ee"))
  (k_with "my evk" => (refine' CallOK.I whole_of_v ?ep ?ed ?eu; k_extra "my ee"))
  (k_with "my evk" => (refine' CallOK.B is_whole_ci ?ep ?ed ?eu; k_extra "my ee"))
  (k_with "my evk" => (refine' CallOK.B is_whole_ct ?ep ?ed ?eu; k_extra "my ee"))
  (k_with "my evk" => (refine' CallOK.B is_whole_v ?ep ?ed ?eu; k_extra "my ee"))
  (k_with "my evk" => (refine' CallOK.V settled_c ?ep ?ed ?eu; k_extra "my ee"))
  (k_with "my evk" => (refine' CallOK.V whole_reckoned_c ?ep ?ed ?eu; k_extra "my ee"))
  (k_with "my evk" => (refine' CallOK.I cut_quotient_c ?ep ?ed ?eu; k_extra "my ee"))
  (k_with "my evk" => (refine' CallOK.I exponent_of_v ?ep ?ed ?eu; k_extra "my ee"))
  (k_with "my evk" => (refine' CallOK.V whole_power_c ?ep ?ed ?eu; k_extra "my ee"))
  (k_with "my evk" => (refine' CallOK.V whole_reckoned_v ?ep ?ed ?eu; k_extra "my ee"))
  (k_with "my evk" => (refine' CallOK.V whole_power_v ?ep ?ed ?eu; k_extra "my ee"))
  (k_with "my evk" => (refine' CallOK.T d_power_c ?ep ?ed ?eu; k_extra "my ee"))
  (k_with "my evk" => (refine' CallOK.T d_add_l ?ep ?ed ?eu; k_extra "my ee"))
  (k_with "my evk" => (refine' CallOK.T d_sub_l ?ep ?ed ?eu; k_extra "my ee"))
  (k_with "my evk" => (refine' CallOK.T d_mul_l ?ep ?ed ?eu; k_extra "my ee"))
  (k_with "my evk" => (refine' CallOK.T d_div_l ?ep ?ed ?eu; k_extra "my ee"))
  (k_with "my evk" => (refine' CallOK.I d_compare_l ?ep ?ed ?eu; k_extra "my ee"))
  (k_with "my evk" => (refine' CallOK.V negated_v ?ep ?ed ?eu; k_extra "my ee"))
  (k_with "my evk" => (refine' CallOK.I order_v ?ep ?ed ?eu; k_extra "my ee"))
  (k_with "my evk" => (refine' CallOK.B stands_c ?ep ?ed ?eu; k_extra "my ee"))
  (k_with "my evk" => (refine' CallOK.I inverted_c ?ep ?ed ?eu; k_extra "my ee"))
  (k_with "my evk" => (refine' CallOK.T dec_c ?ep ?ed ?eu; k_extra "my ee"))
  (k_with "call builtin:min" => (k_here; k_dflt (refine' call_min ?kz1_k9 ?kz2_k9 ?kz3_k9 ?_; (case kz1_k9 => rfl); (case kz2_k9 => k_asm); (case kz3_k9 => k_asm)); intro _ _ _ _ _))
  (k_with "call builtin:max" => (k_here; k_dflt (refine' call_max ?kz1_k9 ?kz2_k9 ?kz3_k9 ?_; (case kz1_k9 => rfl); (case kz2_k9 => k_asm); (case kz3_k9 => k_asm)); intro _ _ _ _ _))
  (k_with "binaryOp Pow int int" => (k_here; (with_reducible refine pow_int_small ?kz1_k9 ?kz2_k9 ?kz3_k9 ?_); (case kz1_k9 => omega); (case kz2_k9 => omega); (case kz3_k9 => first | decide | omega)))
  (k_with "call builtin:isinstance" => (k_here; k_dflt (first | (refine' isi_tup ?kz1_k9 ?kz2_k9 ?_; (case kz1_k9 => k_in); (case kz2_k9 => k_extra "my is_list")) | (refine' isi_tup_str ?kz1_k9 ?kz2_k9 ?_; (case kz1_k9 => k_in); (case kz2_k9 => k_extra "my is_list"))); intro _))
  (k_with "my is_list" => first | exact Has.t0 (by assumption) (by assumption) (by assumption) | exact Has.t1 (by assumption) (by assumption) (by assumption) | exact Has.t2 (by assumption) (by assumption) (by assumption) | exact Has.t3 (by assumption) (by assumption) (by assumption) | exact Fr.tup (by assumption) (by assumption) | exact News.isTup (by assumption) (by k_mem) | assumption)
  (k_with "subscriptTail" => (k_here; (with_reducible show wpAny _ _ (subscriptTail _ _ (Value.ref _) (Value.int _ _)) _ _ _); k_dflt (refine' item_tupleT ?kt_k9 ?k1_k9 ?k2_k9 ?k3_k9 ?k4_k9 ?_; (case kt_k9 => k_extra "my is_list"); (case k1_k9 => decide); (case k2_k9 => decide); (case k3_k9 => rfl); (case k4_k9 => rfl))))
  trivial
theorem law0 {Q : Flow → Shared → Prop} (F : Fr h₀ L s.heap M) (m1 : M "script" = some (.ref S)) (hl : h₀.IsList S vs.toArray) (hi : IntsAre vs ns) (hlen : ns.length ≤ 63) (N : News h₀ L s.heap [(L + 4, w4), (L + 3, w3), (L + 2, w2), (L + 1, w1), (299, t1), (309, t2)]) (d1 : w1.data = .cell none) (d2 : w2.data = .cell none) (d3 : w3.data = .cell none) (d4 : w4.data = .cell none)
    (p9 : 299 < L) (p8 : 309 < L) (X : (K w.params).In h₀) (T : TopM mean mg mb h₀) (hdp : dp + 20 < recursionLimit) (hu : un + 300 < cLine)
    (hq : ∀ h' tk' M' P C o' w1' ys ms tb, Fr h₀ L h' M' → News h₀ L h' [(C, LCg.lst ys), (P, o'), (L + 4, w4), (L + 3, w3), (L + 2, w2), (L + 1, w1'), (299, t1), (309, t2)] → w1'.data = .cell (some (.ref P)) → o'.IsDictOf (PySem.strKind Pg w) [("coins", .ref C), ("spent", .int 0 tb)] → IntsAre ys ms → ys.length ≤ 40 → ms.length = ys.length → L + 4 < P → Q .next { s with heap := h', toks := tk' }) :
    wpAny (model Pg w) (AA dp un fr gd) (exec A0 (laEnv L fa)) Q (fun _ _ => False) s := by
  refine' la_in ?hb ?hs ?_
  (case hb => (conv => lhs; whnf))
  (case hs => (conv => lhs; whnf))
  replace F := fr_pin F m1
  try k_fold
  k_extra "my k_steps"
  rename Obj.IsDictOf _ _ _ => hD
  rename Fr _ _ _ _ => FX
  rename News _ _ _ _ => NX
  rename IntsAre _ _ => hI
  refine wpAny_storeName_cell rfl rfl rfl ⟨w1, NX.get (by k_mem), d1⟩ fun h2 c sb => ?_
  obtain ⟨w1', g1, e1⟩ := c
  show Q _ _
  rename List.length ys = _ => hL8
  have hlt : ∀ {a b : Nat} {c : Prop}, a < b ∧ c → a < b := fun x => x.1
  refine hq h2 _ _ _ _ _ w1' _ _ _ ⟨ns_move FX.ns fun ob e => (sb.2 L (Nat.ne_of_lt (Nat.lt_succ_self _))).trans e, fun b ob e => (sb.2 b fun z => by rw [z, (NX _ (.tail _ (.tail _ (.tail _ (.tail _ (.tail _ (.tail _ (.head _)))))))).2.2] at e; cases e).trans (FX.keep b ob e), FX.above⟩ ?news e1 hD hI ?len ?len2 ?p1
  case len => simp only [List.length_map, List.length_take] at hL8; omega
  case len2 => exact hL8.symm
  case p1 => exact And.left (by assumption)
  case news =>
    have hP : L + 4 < _ := And.left (by assumption)
    intro p hp
    have g1' := (NX (L + 1, w1) (by k_mem)).1
    dsimp only at g1'
    simp only [List.mem_cons, List.not_mem_nil, or_false] at hp
    rcases hp with rfl | rfl | rfl | rfl | rfl | rfl | rfl | rfl
    · refine ⟨(sb.2 _ fun z => ?_).trans (NX _ (by k_mem)).1, (NX _ (by k_mem)).2⟩
      have e := (NX _ (.head _)).1
      dsimp only at e z
      rw [z, g1'] at e; cases e; cases d1
    · refine ⟨(sb.2 _ fun z => ?_).trans (NX _ (.tail _ (.tail _ (.head _)))).1, (NX _ (.tail _ (.tail _ (.head _)))).2⟩
      dsimp only at z
      rw [z] at hP
      exact absurd hP (Nat.not_lt.mpr (Nat.add_le_add_left (by decide) L))
    · exact ⟨(sb.2 _ (Nat.ne_of_gt (Nat.add_lt_add_left (by decide) L))).trans (NX _ (.tail _ (.tail _ (.tail _ (.head _))))).1, (NX _ (.tail _ (.tail _ (.tail _ (.head _))))).2⟩
    · exact ⟨(sb.2 _ (Nat.ne_of_gt (Nat.add_lt_add_left (by decide) L))).trans (NX _ (.tail _ (.tail _ (.tail _ (.tail _ (.head _)))))).1, (NX _ (.tail _ (.tail _ (.tail _ (.tail _ (.head _)))))).2⟩
    · exact ⟨(sb.2 _ (Nat.ne_of_gt (Nat.add_lt_add_left (by decide) L))).trans (NX _ (.tail _ (.tail _ (.tail _ (.tail _ (.tail _ (.head _))))))).1, (NX _ (.tail _ (.tail _ (.tail _ (.tail _ (.tail _ (.head _))))))).2⟩
    · exact ⟨g1, (NX (L + 1, w1) (by k_mem)).2⟩
    · exact ⟨(sb.2 _ (Nat.ne_of_lt (Nat.lt_succ_of_lt p9))).trans (NX _ (.tail _ (.tail _ (.tail _ (.tail _ (.tail _ (.tail _ (.tail _ (.head _))))))))).1, (NX _ (.tail _ (.tail _ (.tail _ (.tail _ (.tail _ (.tail _ (.tail _ (.head _))))))))).2⟩
    · exact ⟨(sb.2 _ (Nat.ne_of_lt (Nat.lt_succ_of_lt p8))).trans (NX _ (.tail _ (.tail _ (.tail _ (.tail _ (.tail _ (.tail _ (.tail _ (.tail _ (.head _)))))))))).1, (NX _ (.tail _ (.tail _ (.tail _ (.tail _ (.tail _ (.tail _ (.tail _ (.tail _ (.head _)))))))))).2⟩
end
end
section
section
set_option maxHeartbeats 8000000
section
variable {w : World} {mean : ExcName → Option Value} {mg mb : Str → Option Value} {h₀ : Heap} {L P C fa : Addr} {k many : Int} {tk0 tm : Tok} {M : Str → Option Value} {o : Obj} {w1 w2 w3 w4 t1 t2 : Obj} {rest : List (Addr × Obj)} {s : Shared} {dp un : Nat} {fr : Option (List Env)} {gd : Option (List Code)} {ys : List Value} {ms : List Int}
theorem coin_use {Q E : Value → Shared → Prop} (F : Fr h₀ L s.heap M) (N : News h₀ L s.heap ((C, LCg.lst ys) :: (P, o) :: rest)) (hD : o.IsDictOf (PySem.strKind Pg w) [("coins", .ref C), ("spent", .int k tk0)]) (hI : IntsAre ys ms) (hlen : ys.length ≤ 40) (hlen2 : ms.length = ys.length) (hap : ∀ p ∈ (C, LCg.lst ys) :: rest, p.1 ≠ P)
    (X : (K w.params).In h₀) (T : TopM mean mg mb h₀) (k0 : 0 ≤ k) (k1 : k ≤ 1000) (hm : 1 ≤ many) (hm2 : many ≤ 65536) (hdp : dp + 3 < recursionLimit) (hu : un + 48 < cLine)
    (hq : ∀ r tr h' tk' o' t', 0 ≤ r → r < many → Fr h₀ L h' M → News h₀ L h' ((C, LCg.lst ys) :: (P, o') :: rest) → o'.IsDictOf (PySem.strKind Pg w) [("coins", .ref C), ("spent", .int (k + 1) t')] → Q (.int r tr) { s with heap := h', toks := tk' }) :
    wpAny (model Pg w) (AA dp un fr gd) (call (.ref 262) [.ref P, .int many tm]) Q E s := by
  have nP := N _ (.tail _ (.head _))
  have nC := N _ (.head _)
  refine coin_c X T F.keep nP.2.2 nP.1 hD ⟨_, nC.1, rfl, _, rfl⟩ (hap _ (.head _)) hI hlen hlen2 k0 k1 hm hm2 hdp hu fun r tr h' tk' o' t' r0 r1 st g d => ?_
  refine hq r tr h' tk' o' t' r0 r1 ⟨ns_move F.ns fun ob e => st L ob (fun z => nP.2.1 z.symm) e, fun b ob e => st b ob (fun z => by rw [z] at e; have := nP.2.2; dsimp only at this; rw [this] at e; cases e) (F.keep b ob e), F.above⟩ (fun p hp => ?_) d
  rcases List.mem_cons.mp hp with rfl | hp
  · exact ⟨st _ _ (hap _ (.head _)) nC.1, nC.2⟩
  rcases List.mem_cons.mp hp with rfl | hp
  · exact ⟨g, nP.2⟩
  · have := N p (.tail _ (.tail _ hp))
    exact ⟨st _ _ (hap p (.tail _ hp)) this.1, this.2⟩
theorem cell_store {M0 : Model} {A : Around} {E : Value → Shared → Prop} {Q : Unit → Shared → Prop} {env : Env} {x : Str} {c : Addr} {pre post : List (Addr × Obj)} {oc : Obj} {v0 : Option Value} {v : Value} (hk : env.scope.kind = .function) (hx : env.kindOf x = some .cell) (hc : env.cells.lookup x = some c) (F : Fr h₀ L s.heap M) (N : News h₀ L s.heap (pre ++ (c, oc) :: post)) (d : oc.data = .cell v0) (n1 : ∀ p ∈ pre, p.1 ≠ c) (n2 : ∀ p ∈ post, p.1 ≠ c)
    (hq : ∀ h' oc', Fr h₀ L h' M → News h₀ L h' (pre ++ (c, oc') :: post) → oc'.data = .cell (some v) → Q () { s with heap := h' }) : wpAny M0 A (storeName env x v) Q E s := by
  have hm := N (c, oc) (List.mem_append_right _ (.head _))
  refine wpAny_storeName_cell hk hx hc ⟨oc, hm.1, d⟩ fun h' ic sb => ?_
  obtain ⟨oc', g, d'⟩ := ic
  exact hq h' oc' (F.change sb hm.2.1 hm.2.2) (N.setIn n1 n2 sb g) d'
theorem ne_seq_cell {h : Heap} {l : List (Addr × Obj)} {c : Addr} {oc : Obj} {v0 : Option Value} (N : News h₀ L h l) (h1 : (C, LCg.lst ys) ∈ l) (h2 : (c, oc) ∈ l) (d : oc.data = .cell v0) : C ≠ c := fun z => by
  have e := (N _ h1).1
  dsimp only at e
  rw [z, (N _ h2).1] at e; cases e; cases d
noncomputable abbrev A1 : Stmt := (sBody (stm 47)).getD 1 (.Pass default)
theorem words20 : True := by
  (k_with "my k_steps" => repeat' (first | (k_unfold; (try dsimp only)) | ((with_reducible show wpAny _ _ (exec _ _) _ _ _); k_whole; k_fold) | ((with_reducible show (_ : Flow → Shared → Prop) _ _); k_unfold; (try dsimp only)) | ((with_reducible show (_ : Value → Shared → Prop) _ _); k_unfold; (try dsimp only)) | ((fail_if_success (with_reducible show wpAny _ _ (exec (Stmt.For _ _ _ _ _) _) _ _ _)); (fail_if_success (with_reducible show wpAny _ _ (eval (Expr.ListComp _ _ _ _) _) _ _ _)); (fail_if_success (with_reducible show wpAny _ _ (exec (Stmt.Assign _ (Expr.ListComp _ _ _ _) _) _) _ _ _)); walk1) | (dsimp only; k_unfold; (try dsimp only)) | (dsimp only; (fail_if_success (with_reducible show wpAny _ _ (exec (Stmt.For _ _ _ _ _) _) _ _ _)); (fail_if_success (with_reducible show wpAny _ _ (eval (Expr.ListComp _ _ _ _) _) _ _ _)); (fail_if_success (with_reducible show wpAny _ _ (exec (Stmt.Assign _ (Expr.ListComp _ _ _ _) _) _) _ _ _)); walk1) | fail "no step"))
  (k_with "call ref" => (k_here; (with_reducible show wpAny _ _ (call (Value.ref 262) _) _ _ _); k_dflt (refine' coin_use ?zF ?zN hD hI hlen hlen2 hap ?zX ?zT k0 k1 ?zm_k9 ?zm2_k9 ?zd ?zu ?_; k_extra "my cz"; (case zm_k9 => k_extra "my km_many"); (case zm2_k9 => k_extra "my km_many"); (case zd => k_extra "my ktr_room"); (case zu => k_extra "my ktr_room")); intro r9 tr9 h9 tk9 o9 t9 lo9 hi9 F9 N9 hD9))
  (k_with "my km_many" => first | decide | omega)
  trivial
theorem law1 {Q : Flow → Shared → Prop} (F : Fr h₀ L s.heap M) (N : News h₀ L s.heap ((C, LCg.lst ys) :: (P, o) :: [(L + 4, w4), (L + 3, w3), (L + 2, w2), (L + 1, w1), (299, t1), (309, t2)])) (d1 : w1.data = .cell (some (.ref P))) (d2 : w2.data = .cell none) (hD : o.IsDictOf (PySem.strKind Pg w) [("coins", .ref C), ("spent", .int k tk0)]) (hI : IntsAre ys ms) (hlen : ys.length ≤ 40) (hlen2 : ms.length = ys.length)
    (hap : ∀ p ∈ (C, LCg.lst ys) :: [(L + 4, w4), (L + 3, w3), (L + 2, w2), (L + 1, w1), (299, t1), (309, t2)], p.1 ≠ P) (k0 : 0 ≤ k) (k1 : k ≤ 1000) (X : (K w.params).In h₀) (T : TopM mean mg mb h₀) (hdp : dp + 20 < recursionLimit) (hu : un + 300 < cLine) (p9 : 299 < L) (p8 : 309 < L)
    (hq : ∀ h' tk' bits tb w2' o' t', 4 ≤ bits → bits ≤ 16 → Fr h₀ L h' M → News h₀ L h' ((C, LCg.lst ys) :: (P, o') :: [(L + 4, w4), (L + 3, w3), (L + 2, w2'), (L + 1, w1), (299, t1), (309, t2)]) → w2'.data = .cell (some (.int bits tb)) → o'.IsDictOf (PySem.strKind Pg w) [("coins", .ref C), ("spent", .int (k + 1) t')] → Q .next { s with heap := h', toks := tk' }) :
    wpAny (model Pg w) (AA dp un fr gd) (exec A1 (laEnv L fa)) Q (fun _ _ => False) s := by
  refine' la_in ?hb ?hs ?_
  (case hb => (conv => lhs; whnf))
  (case hs => (conv => lhs; whnf))
  try k_fold
  k_extra "my k_steps"
  refine cell_store (c := L + 2) (oc := w2) (pre := [(C, LCg.lst ys), (P, o9), (L + 4, w4), (L + 3, w3)]) (post := [(L + 1, w1), (299, t1), (309, t2)]) rfl rfl rfl F9 N9 d2 ?n1 ?n2 fun h' oc' F' N' d' => ?_
  case n1 =>
    have hc := ne_seq_cell N9 (.head _) (.tail _ (.tail _ (.tail _ (.tail _ (.head _))))) d2
    have hp := hap (L + 2, w2) (.tail _ (.tail _ (.tail _ (.head _))))
    intro p hp'
    simp only [List.mem_cons, List.not_mem_nil, or_false] at hp'
    rcases hp' with rfl | rfl | rfl | rfl
    · exact hc
    · exact hp.symm
    · exact Nat.ne_of_gt (Nat.add_lt_add_left (by decide) L)
    · exact Nat.ne_of_gt (Nat.add_lt_add_left (by decide) L)
  case n2 =>
    intro p hp'
    simp only [List.mem_cons, List.not_mem_nil, or_false] at hp'
    rcases hp' with rfl | rfl | rfl
    · exact Nat.ne_of_lt (Nat.lt_succ_self _)
    · exact Nat.ne_of_lt (Nat.lt_succ_of_lt (Nat.lt_succ_of_lt p9))
    · exact Nat.ne_of_lt (Nat.lt_succ_of_lt (Nat.lt_succ_of_lt p8))
  show Q _ _
  exact hq h' _ _ _ oc' o9 t9 (by omega) (by omega) F' N' d' hD9
end
end
section
set_option maxHeartbeats 8000000
theorem isV_ten {h : Heap} {a : Addr} {t u : Tok} (i : IsTup h a [Value.int 1 t, Value.int 1 u].toArray) : isV h true 10 (.ref a) := ⟨a, t, u, rfl, by rw [show lawDec 10 = (1, 1) by decide +kernel]; exact i⟩
noncomputable abbrev A2 : Stmt := (sBody (stm 47)).getD 2 (.Pass default)
section
variable {w : World} {mean : ExcName → Option Value} {mg mb : Str → Option Value} {h₀ : Heap} {L fa : Addr} {M : Str → Option Value} {news : List (Addr × Obj)} {s : Shared} {dp un : Nat} {fr : Option (List Env)} {gd : Option (List Code)}
theorem words21 : True := by
  (k_with "my ktr_rel" => first | (with_reducible exact isV_int) | exact isV_ten (by k_extra "my is_list") | (with_reducible assumption) | decide | trivial | omega | rfl)
  (k_with "call ref" => (k_here; k_dflt (refine' Con.useI order_o ?zF ?zN ?zX ?zT ?zp ?zd ?zu ?_; k_extra "my cz"; k_extra "my cy"); intro _ _ _ _ _))
  (k_with "my evk" => (refine' CallOK.I order_o ?ep ?ed ?eu; k_extra "my ee"))
  (k_with "my nw" => first | exact (by assumption) | exact (news_tl (by assumption)) | exact (news_tl (news_tl (by assumption))) | exact (news_tl (news_tl (news_tl (by assumption)))) | exact (news_tl (news_tl (news_tl (news_tl (by assumption))))) | exact (news_tl (news_tl (news_tl (news_tl (news_tl (by assumption)))))) | exact (news_tl (news_tl (news_tl (news_tl (news_tl (news_tl (by assumption))))))) | exact (news_tl (news_tl (news_tl (news_tl (news_tl (news_tl (news_tl (by assumption)))))))) | exact (news_tl (news_tl (news_tl (news_tl (news_tl (news_tl (news_tl (news_tl (by assumption))))))))) | exact (news_tl (news_tl (news_tl (news_tl (news_tl (news_tl (news_tl (news_tl (news_tl (by assumption)))))))))) | exact (news_tl (news_tl (news_tl (news_tl (news_tl (news_tl (news_tl (news_tl (news_tl (news_tl (by assumption))))))))))) | exact (news_tl (news_tl (news_tl (news_tl (news_tl (news_tl (news_tl (news_tl (news_tl (news_tl (news_tl (by assumption)))))))))))) | exact (news_tl (news_tl (news_tl (news_tl (news_tl (news_tl (news_tl (news_tl (news_tl (news_tl (news_tl (news_tl (by assumption))))))))))))) | exact (news_tl (news_tl (news_tl (news_tl (news_tl (news_tl (news_tl (news_tl (news_tl (news_tl (news_tl (news_tl (news_tl (by assumption)))))))))))))) | exact (news_tl (news_tl (news_tl (news_tl (news_tl (news_tl (news_tl (news_tl (news_tl (news_tl (news_tl (news_tl (news_tl (news_tl (by assumption))))))))))))))) | exact (news_tl (news_tl (news_tl (news_tl (news_tl (news_tl (news_tl (news_tl (news_tl (news_tl (news_tl (news_tl (news_tl (news_tl (news_tl (by assumption)))))))))))))))))
  trivial
theorem law2 {Q : Flow → Shared → Prop} (F : Fr h₀ L s.heap M) (N : News h₀ L s.heap news) (X : (K w.params).In h₀) (T : TopM mean mg mb h₀) (hdp : dp + 20 < recursionLimit) (hu : un + 300 < cLine)
    (hq : ∀ h' tk', Fr h₀ L h' M → News h₀ L h' news → Q .next { s with heap := h', toks := tk' }) :
    wpAny (model Pg w) (AA dp un fr gd) (exec A2 (laEnv L fa)) Q (fun _ _ => False) s := by
  have c1 : cmpI 5 10 = -1 := by decide
  have c2 : cmpI 10 5 = 1 := by decide
  refine' la_in ?hb ?hs ?_
  (case hb => (conv => lhs; whnf))
  (case hs => (conv => lhs; whnf))
  try k_fold
  k_extra "my k_steps"
  all_goals (show Q _ _; exact hq _ _ (by k_asm) (by k_extra "my nw"))
end
end
section
set_option maxHeartbeats 8000000
theorem isV_zero {h : Heap} {a : Addr} {t u : Tok} (i : IsTup h a [Value.int 0 t, Value.int 0 u].toArray) : isV h true 0 (.ref a) := ⟨a, t, u, rfl, by rw [show lawDec 0 = (0, 0) by decide +kernel]; exact i⟩
theorem reck_plus0 {w : World} {mean : ExcName → Option Value} {mg mb : Str → Option Value} {n bits d : Int} {t5 ta t2 t3 : Tok} {vb : Value} : Con w mean mg mb 220 [.str "+" t5, .int n ta, vb, .int bits t2, .int d t3] 8 128 (fun h => isV h true 0 vb ∧ 4 ≤ bits ∧ bits ≤ 16 ∧ n.natAbs < 10 ^ 5 ∧ fitsB n bits = true ∧ fitsB 0 bits = true ∧ 30 ≤ d) (OutT (lawDec (n + 0))) :=
  (reck_add (k := false) (k' := true)).mono (fun h y => ⟨⟨_, rfl⟩, y.1, y.2.1, y.2.2.1, y.2.2.2.1, by decide, y.2.2.2.2.1, y.2.2.2.2.2.1, y.2.2.2.2.2.2⟩) (fun _ _ _ o => o) (Nat.le_refl _) (Nat.le_refl _)
theorem pin_eq {M : Str → Option Value} {v : Value} {y : Str} (e : M y = some v) : ∀ x, (if x = y then some v else M x) = M x := fun x => by
  split
  · rename_i z; rw [z, e]
  · rfl
noncomputable abbrev A3 : Stmt := (sBody (stm 47)).getD 3 (.Pass default)
noncomputable abbrev B5 : Stmt := (forB A3).getD 5 (.Pass default)
noncomputable abbrev B6 : Stmt := (forB A3).getD 6 (.Pass default)
section
variable {w : World} {mean : ExcName → Option Value} {mg mb : Str → Option Value} {h₀ : Heap} {L fa : Addr} {n bits : Int} {ta tb : Tok} {M : Str → Option Value} {w2 : Obj} {pre news : List (Addr × Obj)} {s : Shared} {dp un : Nat} {fr : Option (List Env)} {gd : Option (List Code)}
theorem words22 : True := by
  (k_with "my ktr_rel" => first | (with_reducible exact isV_int) | exact isV_tup (by k_extra "my is_list") | exact isV_zero (by k_extra "my is_list") | (with_reducible assumption) | decide | trivial | omega | rfl)
  (k_with "call ref" => (k_here; k_dflt (refine' Con.useT reck_plus0 ?zF ?zN ?zX ?zT ?zp ?zd ?zu ?_; k_extra "my cz"; (case zp => ((try dsimp only); (repeat' (with_reducible refine And.intro ?_ ?_)) <;> k_extra "my ktr_rel")); (case zd => k_extra "my ktr_room"); (case zu => k_extra "my ktr_room")); intro _ _ _ _ _ _ _))
  (k_with "my evk" => (refine' CallOK.T reck_plus0 ?ep ?ed ?eu; k_extra "my ee"))
  (k_with "binaryOp Mult ref int" => (k_here; k_dflt (refine' KMa.mul ?F_k9 ?N_k9 ?l_k9 ?lo_k9 ?hi_k9 ?z_k9 ?e_k9 ?_; (case F_k9 => k_asm); (case N_k9 => k_asm); (case l_k9 => exact News.isList (by k_asm) (by k_mem)); (case lo_k9 => decide); (case hi_k9 => decide); (case z_k9 => (simp only [List.length_cons, List.length_nil]; decide)); (case e_k9 => exact rfl)); intro _ _ _ _ l8; (try k_lt l8)))
  (k_with "my turn_bad" => (rename (_ && _) = false => hx; rw [show (-1 - n : Int) = 0 - 1 - n by omega] at hx; simp at hx))
  trivial
theorem lawB5 {Q : Flow → Shared → Prop} (F : Fr h₀ L s.heap M) (m1 : M "a" = some (.int n ta)) (N : News h₀ L s.heap ((L + 2, w2) :: news)) (d2 : w2.data = .cell (some (.int bits tb))) (X : (K w.params).In h₀) (T : TopM mean mg mb h₀) (hdp : dp + 20 < recursionLimit) (hu : un + 300 < cLine)
    (hn : n.natAbs < 10 ^ 5) (sn : Sm n) (b1 : 4 ≤ bits) (b2 : bits ≤ 16) (fn : fitsB n bits = true) (hn2 : n.natAbs < 10 ^ 29)
    (hq : ∀ h' tk' M', Fr h₀ L h' M' → (∀ x, M' x = M x) → News h₀ L h' ((L + 2, w2) :: news) → Q .next { s with heap := h', toks := tk' }) :
    wpAny (model Pg w) (AA dp un fr gd) (exec B5 (laEnv L fa)) Q (fun _ _ => False) s := by
  refine' la_in ?hb ?hs ?_
  (case hb => (conv => lhs; whnf))
  (case hs => (conv => lhs; whnf))
  have F1 := fr_pin F m1
  clear F
  try k_fold
  k_extra "my k_steps"
  all_goals first | (show Q _ _; exact hq _ _ _ (by k_asm) (pin_eq m1) (by k_extra "my nw")) | (exfalso; k_extra "my turn_bad")
theorem lawB6 {Q : Flow → Shared → Prop} (F : Fr h₀ L s.heap M) (m1 : M "a" = some (.int n ta)) (N : News h₀ L s.heap ((L + 2, w2) :: news)) (d2 : w2.data = .cell (some (.int bits tb))) (X : (K w.params).In h₀) (T : TopM mean mg mb h₀) (hdp : dp + 20 < recursionLimit) (hu : un + 300 < cLine)
    (hn : n.natAbs < 10 ^ 5) (sn : Sm n) (b1 : 4 ≤ bits) (b2 : bits ≤ 16) (fn : fitsB n bits = true) (f0 : fitsB 0 bits = true)
    (hq : ∀ h' tk' M', Fr h₀ L h' M' → (∀ x, M' x = M x) → News h₀ L h' ((L + 2, w2) :: news) → Q .next { s with heap := h', toks := tk' }) :
    wpAny (model Pg w) (AA dp un fr gd) (exec B6 (laEnv L fa)) Q (fun _ _ => False) s := by
  refine' la_in ?hb ?hs ?_
  (case hb => (conv => lhs; whnf))
  (case hs => (conv => lhs; whnf))
  have F1 := fr_pin F m1
  clear F
  try k_fold
  k_extra "my k_steps"
  all_goals first | (show Q _ _; exact hq _ _ _ (by k_asm) (pin_eq m1) (by k_extra "my nw")) | (exfalso; k_extra "my turn_bad")
end
end
section
set_option maxHeartbeats 8000000
noncomputable abbrev B3 : Stmt := (forB A3).getD 3 (.Pass default)
theorem pick_i {h₀ h : Heap} {L : Addr} {x1 x2 x3 : Addr × Obj} {l : List (Addr × Obj)} (N : News h₀ L h (x1 :: x2 :: x3 :: l)) : News h₀ L h (x2 :: l) := fun p hp => by
  rcases List.mem_cons.mp hp with rfl | hp
  · exact N _ (.tail _ (.head _))
  · exact N _ (.tail _ (.tail _ (.tail _ hp)))
theorem pick_t {h₀ h : Heap} {L : Addr} {x1 x2 x3 x4 : Addr × Obj} {l : List (Addr × Obj)} (N : News h₀ L h (x1 :: x2 :: x3 :: x4 :: l)) : News h₀ L h (x2 :: x4 :: l) := fun p hp => by
  rcases List.mem_cons.mp hp with rfl | hp
  · exact N _ (.tail _ (.head _))
  · exact N _ (.tail _ (.tail _ (.tail _ hp)))
theorem ne_seq {h₀ h : Heap} {L a c : Addr} {l : List (Addr × Obj)} {o1 oc : Obj} {xs : Array Value} {k : Nat} {v0 : Option Value} (N : News h₀ L h l) (h1 : (a, o1) ∈ l) (e1 : o1.data = .seq xs k) (h2 : (c, oc) ∈ l) (d : oc.data = .cell v0) : a ≠ c := fun z => by
  have e := (N _ h1).1
  dsimp only at e
  rw [z, (N _ h2).1] at e; cases e; rw [e1] at d; cases d
section
variable {w : World} {mean : ExcName → Option Value} {mg mb : Str → Option Value} {h₀ : Heap} {L fa : Addr} {n bits : Int} {ta tb : Tok} {M : Str → Option Value} {w2 w3 w4 : Obj} {y3 y4 : Option Value} {pre news : List (Addr × Obj)} {s : Shared} {dp un : Nat} {fr : Option (List Env)} {gd : Option (List Code)}
theorem words23 : True := by
  (k_with "my ktr_rel" => first | (with_reducible exact isV_int) | exact isV_tup (by k_extra "my is_list") | (with_reducible assumption) | decide | trivial | omega | rfl)
  (k_with "call ref" => (k_here; (with_reducible show wpAny _ _ (call (Value.ref 227) (Value.int _ _ :: _)) _ _ _); k_dflt (refine' Con.useI (hN1 _ _ _) ?zF ?zN ?zX ?zT ?zp ?zd ?zu ?_; k_extra "my cz"; (case zp => first | trivial | exact isV_tup (by k_extra "my is_list")); (case zd => k_extra "my ktr_room"); (case zu => k_extra "my ktr_room")); intro t9 h9 tk9 F9 N9))
  (k_with "call ref" => (k_here; (with_reducible show wpAny _ _ (call (Value.ref 227) (Value.ref _ :: _)) _ _ _); k_dflt (refine' Con.useT (hN2 _ _ _) ?zF ?zN ?zX ?zT ?zp ?zd ?zu ?_; k_extra "my cz"; (case zp => first | trivial | exact isV_tup (by k_extra "my is_list")); (case zd => k_extra "my ktr_room"); (case zu => k_extra "my ktr_room")); intro a9 t9 v9 h9 tk9 F9 N9))
  (k_with "my evk" => (refine' CallOK.T dec_c ?ep ?ed ?eu; k_extra "my ee"))
  trivial
theorem lawB3_i {Q : Flow → Shared → Prop} (F : Fr h₀ L s.heap M) (m1 : M "a" = some (.int n ta)) (N : News h₀ L s.heap ((L + 4, w4) :: (L + 3, w3) :: (L + 2, w2) :: news)) (d2 : w2.data = .cell (some (.int bits tb))) (d3 : w3.data = .cell y3) (d4 : w4.data = .cell y4) (X : (K w.params).In h₀) (T : TopM mean mg mb h₀) (hdp : dp + 20 < recursionLimit) (hu : un + 300 < cLine)
    (sn : Sm n) (hnn : ∀ p ∈ news, p.1 ≠ L + 3 ∧ p.1 ≠ L + 4)
    (hq : ∀ h' tk' M' v1 a9 t9 v9 w3' w4' , Fr h₀ L h' M' → (∀ x, M' x = M x) → News h₀ L h' ((a9, tupO (lawDec (0 - n)).1 t9 (lawDec (0 - n)).2 v9) :: (L + 4, w4') :: (L + 3, w3') :: (L + 2, w2) :: news) → w3'.data = .cell (some v1) → w4'.data = .cell (some (.ref a9)) → (∃ t, v1 = .int (0 - n) t) → Q .next { s with heap := h', toks := tk' })
    (hN1 : ∀ t1 t2 t3, Con w mean mg mb 227 [.int n t1, .int bits t2, .int 30 t3] 5 80 (fun _ => True) (OutI (0 - n)))
    (hN2 : ∀ a t2 t3, Con w mean mg mb 227 [.ref a, .int bits t2, .int 30 t3] 5 80 (fun h => isV h true n (.ref a)) (OutT (lawDec (0 - n)))) :
    wpAny (model Pg w) (AA dp un fr gd) (exec B3 (laEnv L fa)) Q (fun _ _ => False) s := by
  refine' la_in ?hb ?hs ?_
  (case hb => (conv => lhs; whnf))
  (case hs => (conv => lhs; whnf))
  have F1 := fr_pin F m1
  clear F
  try k_fold
  k_extra "my k_steps"
  rename Fr _ _ _ _ => FX
  rename News _ _ _ _ => NX
  have e3 : (L + 3 : Nat) ≠ L + 4 := Nat.ne_of_lt (Nat.lt_succ_self _)
  have e2 : (L + 2 : Nat) ≠ L + 3 := Nat.ne_of_lt (Nat.lt_succ_self _)
  have e2' : (L + 2 : Nat) ≠ L + 4 := Nat.ne_of_lt (Nat.lt_succ_of_lt (Nat.lt_succ_self _))
  refine cell_store (c := L + 3) (oc := w3) (pre := [_, _, _, (L + 4, w4)]) (post := (L + 2, w2) :: news) rfl rfl rfl FX NX d3 ?n1 ?n2 fun h' oc' F' N' d' => ?_
  case n1 =>
    intro p hp
    simp only [List.mem_cons, List.not_mem_nil, or_false] at hp
    rcases hp with rfl | rfl | rfl | rfl
    · exact ne_seq NX (.head _) rfl (.tail _ (.tail _ (.tail _ (.tail _ (.head _))))) d3
    · exact ne_seq NX (.tail _ (.head _)) rfl (.tail _ (.tail _ (.tail _ (.tail _ (.head _))))) d3
    · exact ne_seq NX (.tail _ (.tail _ (.head _))) rfl (.tail _ (.tail _ (.tail _ (.tail _ (.head _))))) d3
    · exact e3.symm
  case n2 =>
    intro p hp
    rcases List.mem_cons.mp hp with rfl | hp
    · exact e2
    · exact (hnn p hp).1
  refine assignInOrder_cons (wpAny_assign_Name ?_)
  refine cell_store (c := L + 4) (oc := w4) (pre := [_, _, _]) (post := (L + 3, oc') :: (L + 2, w2) :: news) rfl rfl rfl F' N' d4 ?m1 ?m2 fun h2 oc2 F2 N2 d2' => ?_
  case m1 =>
    intro p hp
    simp only [List.mem_cons, List.not_mem_nil, or_false] at hp
    rcases hp with rfl | rfl | rfl
    · exact ne_seq N' (.head _) rfl (.tail _ (.tail _ (.tail _ (.head _)))) d4
    · exact ne_seq N' (.tail _ (.head _)) rfl (.tail _ (.tail _ (.tail _ (.head _)))) d4
    · exact ne_seq N' (.tail _ (.tail _ (.head _))) rfl (.tail _ (.tail _ (.tail _ (.head _)))) d4
  case m2 =>
    intro p hp
    rcases List.mem_cons.mp hp with rfl | hp
    · exact e3
    rcases List.mem_cons.mp hp with rfl | hp
    · exact e2'
    · exact (hnn p hp).2
  refine assignInOrder_nil ?_
  show Q _ _
  exact hq h2 _ _ _ _ _ _ oc' oc2 F2 (pin_eq m1) (pick_i N2) d' d2' ⟨_, rfl⟩
theorem words24 : True := by
  (k_with "call ref" => (k_here; (with_reducible show wpAny _ _ (call (Value.ref 227) (Value.int _ _ :: _)) _ _ _); k_dflt (refine' Con.useT (hN1 _ _ _) ?zF ?zN ?zX ?zT ?zp ?zd ?zu ?_; k_extra "my cz"; (case zp => first | trivial | exact isV_tup (by k_extra "my is_list")); (case zd => k_extra "my ktr_room"); (case zu => k_extra "my ktr_room")); intro a9 t9 v9 h9 tk9 F9 N9))
  (k_with "call ref" => (k_here; (with_reducible show wpAny _ _ (call (Value.ref 227) (Value.ref _ :: _)) _ _ _); k_dflt (refine' Con.useT (hN2 _ _ _) ?zF ?zN ?zX ?zT ?zp ?zd ?zu ?_; k_extra "my cz"; (case zp => first | trivial | exact isV_tup (by k_extra "my is_list")); (case zd => k_extra "my ktr_room"); (case zu => k_extra "my ktr_room")); intro a9 t9 v9 h9 tk9 F9 N9))
  trivial
theorem lawB3_t {Q : Flow → Shared → Prop} (F : Fr h₀ L s.heap M) (m1 : M "a" = some (.int n ta)) (N : News h₀ L s.heap ((L + 4, w4) :: (L + 3, w3) :: (L + 2, w2) :: news)) (d2 : w2.data = .cell (some (.int bits tb))) (d3 : w3.data = .cell y3) (d4 : w4.data = .cell y4) (X : (K w.params).In h₀) (T : TopM mean mg mb h₀) (hdp : dp + 20 < recursionLimit) (hu : un + 300 < cLine)
    (sn : Sm n) (hnn : ∀ p ∈ news, p.1 ≠ L + 3 ∧ p.1 ≠ L + 4)
    (hq : ∀ h' tk' M' v1 a9 t9 v9 a8 t8 v8 w3' w4' , Fr h₀ L h' M' → (∀ x, M' x = M x) → News h₀ L h' ((a9, tupO (lawDec (0 - n)).1 t9 (lawDec (0 - n)).2 v9) :: (a8, tupO (lawDec (0 - n)).1 t8 (lawDec (0 - n)).2 v8) :: (L + 4, w4') :: (L + 3, w3') :: (L + 2, w2) :: news) → w3'.data = .cell (some v1) → w4'.data = .cell (some (.ref a9)) → v1 = .ref a8 → Q .next { s with heap := h', toks := tk' })
    (hN1 : ∀ t1 t2 t3, Con w mean mg mb 227 [.int n t1, .int bits t2, .int 30 t3] 5 80 (fun _ => True) (OutT (lawDec (0 - n))))
    (hN2 : ∀ a t2 t3, Con w mean mg mb 227 [.ref a, .int bits t2, .int 30 t3] 5 80 (fun h => isV h true n (.ref a)) (OutT (lawDec (0 - n)))) :
    wpAny (model Pg w) (AA dp un fr gd) (exec B3 (laEnv L fa)) Q (fun _ _ => False) s := by
  refine' la_in ?hb ?hs ?_
  (case hb => (conv => lhs; whnf))
  (case hs => (conv => lhs; whnf))
  have F1 := fr_pin F m1
  clear F
  try k_fold
  k_extra "my k_steps"
  rename Fr _ _ _ _ => FX
  rename News _ _ _ _ => NX
  have e3 : (L + 3 : Nat) ≠ L + 4 := Nat.ne_of_lt (Nat.lt_succ_self _)
  have e2 : (L + 2 : Nat) ≠ L + 3 := Nat.ne_of_lt (Nat.lt_succ_self _)
  have e2' : (L + 2 : Nat) ≠ L + 4 := Nat.ne_of_lt (Nat.lt_succ_of_lt (Nat.lt_succ_self _))
  refine cell_store (c := L + 3) (oc := w3) (pre := [_, _, _, _, (L + 4, w4)]) (post := (L + 2, w2) :: news) rfl rfl rfl FX NX d3 ?n1 ?n2 fun h' oc' F' N' d' => ?_
  case n1 =>
    intro p hp
    simp only [List.mem_cons, List.not_mem_nil, or_false] at hp
    rcases hp with rfl | rfl | rfl | rfl | rfl
    · exact ne_seq NX (.head _) rfl (.tail _ (.tail _ (.tail _ (.tail _ (.tail _ (.head _)))))) d3
    · exact ne_seq NX (.tail _ (.head _)) rfl (.tail _ (.tail _ (.tail _ (.tail _ (.tail _ (.head _)))))) d3
    · exact ne_seq NX (.tail _ (.tail _ (.head _))) rfl (.tail _ (.tail _ (.tail _ (.tail _ (.tail _ (.head _)))))) d3
    · exact ne_seq NX (.tail _ (.tail _ (.tail _ (.head _)))) rfl (.tail _ (.tail _ (.tail _ (.tail _ (.tail _ (.head _)))))) d3
    · exact e3.symm
  case n2 =>
    intro p hp
    rcases List.mem_cons.mp hp with rfl | hp
    · exact e2
    · exact (hnn p hp).1
  refine assignInOrder_cons (wpAny_assign_Name ?_)
  refine cell_store (c := L + 4) (oc := w4) (pre := [_, _, _, _]) (post := (L + 3, oc') :: (L + 2, w2) :: news) rfl rfl rfl F' N' d4 ?m1 ?m2 fun h2 oc2 F2 N2 d2' => ?_
  case m1 =>
    intro p hp
    simp only [List.mem_cons, List.not_mem_nil, or_false] at hp
    rcases hp with rfl | rfl | rfl | rfl
    · exact ne_seq N' (.head _) rfl (.tail _ (.tail _ (.tail _ (.tail _ (.head _))))) d4
    · exact ne_seq N' (.tail _ (.head _)) rfl (.tail _ (.tail _ (.tail _ (.tail _ (.head _))))) d4
    · exact ne_seq N' (.tail _ (.tail _ (.head _))) rfl (.tail _ (.tail _ (.tail _ (.tail _ (.head _))))) d4
    · exact ne_seq N' (.tail _ (.tail _ (.tail _ (.head _)))) rfl (.tail _ (.tail _ (.tail _ (.tail _ (.head _))))) d4
  case m2 =>
    intro p hp
    rcases List.mem_cons.mp hp with rfl | hp
    · exact e3
    rcases List.mem_cons.mp hp with rfl | hp
    · exact e2'
    · exact (hnn p hp).2
  refine assignInOrder_nil ?_
  show Q _ _
  exact hq h2 _ _ _ _ _ _ _ _ _ oc' oc2 F2 (pin_eq m1) (pick_t N2) d' d2' rfl
end
end
section
set_option maxHeartbeats 8000000
section
variable {w : World} {mean : ExcName → Option Value} {mg mb : Str → Option Value} {h₀ : Heap} {L P C fa : Addr} {k many : Int} {tk0 tm : Tok} {M : Str → Option Value} {o : Obj} {w1 w2 w3 w4 t1 t2 : Obj} {rest : List (Addr × Obj)} {s : Shared} {dp un : Nat} {fr : Option (List Env)} {gd : Option (List Code)} {ys : List Value} {ms : List Int}
theorem coin_use1 {x : Addr × Obj} {xs : Array Value} {kk : Nat} (hx : x.2.data = .seq xs kk) {Q E : Value → Shared → Prop} (F : Fr h₀ L s.heap M) (N : News h₀ L s.heap (x :: (C, LCg.lst ys) :: (P, o) :: rest)) (hD : o.IsDictOf (PySem.strKind Pg w) [("coins", .ref C), ("spent", .int k tk0)]) (hI : IntsAre ys ms) (hlen : ys.length ≤ 40) (hlen2 : ms.length = ys.length) (hap : ∀ p ∈ (C, LCg.lst ys) :: rest, p.1 ≠ P)
    (X : (K w.params).In h₀) (T : TopM mean mg mb h₀) (k0 : 0 ≤ k) (k1 : k ≤ 1000) (hm : 1 ≤ many) (hm2 : many ≤ 65536) (hdp : dp + 3 < recursionLimit) (hu : un + 48 < cLine)
    (hq : ∀ r tr h' tk' o' t', 0 ≤ r → r < many → Fr h₀ L h' M → News h₀ L h' (x :: (C, LCg.lst ys) :: (P, o') :: rest) → o'.IsDictOf (PySem.strKind Pg w) [("coins", .ref C), ("spent", .int (k + 1) t')] → Q (.int r tr) { s with heap := h', toks := tk' }) :
    wpAny (model Pg w) (AA dp un fr gd) (call (.ref 262) [.ref P, .int many tm]) Q E s := by
  have nP := N _ (.tail _ (.tail _ (.head _)))
  have nC := N _ (.tail _ (.head _))
  have nX := N _ (.head _)
  have hxP : x.1 ≠ P := fun z => by
    obtain ⟨es, ep, _, dd, _⟩ := hD
    have e := nX.1
    rw [z] at e
    have e2 := nP.1
    dsimp only at e2
    rw [e] at e2; cases e2
    rw [hx] at dd; cases dd
  refine coin_c X T F.keep nP.2.2 nP.1 hD ⟨_, nC.1, rfl, _, rfl⟩ (hap _ (.head _)) hI hlen hlen2 k0 k1 hm hm2 hdp hu fun r tr h' tk' o' t' r0 r1 st g d => ?_
  refine hq r tr h' tk' o' t' r0 r1 ⟨ns_move F.ns fun ob e => st L ob (fun z => nP.2.1 z.symm) e, fun b ob e => st b ob (fun z => by rw [z] at e; have := nP.2.2; dsimp only at this; rw [this] at e; cases e) (F.keep b ob e), F.above⟩ (fun p hp => ?_) d
  rcases List.mem_cons.mp hp with rfl | hp
  · exact ⟨st _ _ hxP nX.1, nX.2⟩
  rcases List.mem_cons.mp hp with rfl | hp
  · exact ⟨st _ _ (hap _ (.head _)) nC.1, nC.2⟩
  rcases List.mem_cons.mp hp with rfl | hp
  · exact ⟨g, nP.2⟩
  · have := N p (.tail _ (.tail _ (.tail _ hp)))
    exact ⟨st _ _ (hap p (.tail _ hp)) this.1, this.2⟩
end
theorem fits_small {x b : Int} (hb : 5 ≤ b) (h1 : -16 ≤ x) (h2 : x < 16) : fitsB x b = true := by
  have p : (16 : Int) ≤ 2 ^ (b - 1).toNat := by
    have : (2 : Nat) ^ 4 ≤ 2 ^ (b - 1).toNat := Nat.pow_le_pow_right (by decide) (by omega)
    exact_mod_cast this
  exact decide_eq_true ⟨by omega, by omega⟩
theorem fits_zero {b : Int} (hb : 4 ≤ b) : fitsB 0 b = true := by
  have p : (0 : Int) < 2 ^ (b - 1).toNat := Int.pow_pos (by decide)
  exact decide_eq_true ⟨by omega, by omega⟩
theorem fits_pick {n b r : Int} (hb : 4 < b) (fn : fitsB n b = true) (h0 : 0 ≤ r) (h4 : r < 4) : fitsB ([0, -1, 10, n].getD r.toNat 0) b = true := by
  have : r = 0 ∨ r = 1 ∨ r = 2 ∨ r = 3 := by omega
  rcases this with rfl | rfl | rfl | rfl
  · exact fits_small (x := 0) (by omega) (by decide) (by decide)
  · exact fits_small (x := -1) (by omega) (by decide) (by decide)
  · exact fits_small (x := 10) (by omega) (by decide) (by decide)
  · exact fn
noncomputable abbrev B1 : Stmt := (forB A3).getD 1 (.Pass default)
section
variable {w : World} {mean : ExcName → Option Value} {mg mb : Str → Option Value} {h₀ : Heap} {L P C fa : Addr} {k n m bits turn : Int} {tk0 ta tb tt tn : Tok} {M : Str → Option Value} {o : Obj} {w1 w2 w3 w4 : Obj} {rest : List (Addr × Obj)} {s : Shared} {dp un : Nat} {fr : Option (List Env)} {gd : Option (List Code)} {ys : List Value} {ms : List Int}
theorem words25 : True := by
  (k_with "my ktr_rel" => first | exact isV.keeps (by assumption) (Fr.keep (by assumption)) | trivial | k_extra "my is_list" | assumption | k_extra "my ktn_ord" | omega | rfl | (with_reducible exact ⟨_, rfl⟩))
  (k_with "call ref" => (k_here; (with_reducible show wpAny _ _ (call (Value.ref 262) _) _ _ _); k_dflt (refine' coin_use1 ?zx_k9 ?zF ?zN hD hI hlen hlen2 hap ?zX ?zT k0 k1 ?zm_k9 ?zm2_k9 ?zd ?zu ?_; k_extra "my cz"; (case zx_k9 => exact rfl); (case zm_k9 => k_extra "my km_many"); (case zm2_k9 => k_extra "my km_many"); (case zd => k_extra "my ktr_room"); (case zu => k_extra "my ktr_room")); intro r9 tr9 h9 tk9 o9 t9 lo9 hi9 F9 N9 hD9))
  trivial
theorem lawB1 {Q : Flow → Shared → Prop} (F : Fr h₀ L s.heap M) (m1 : M "a" = some (.int n ta)) (m2 : M "b" = some (.int m tb)) (m3 : M "turn" = some (.int turn tt)) (N : News h₀ L s.heap ((C, LCg.lst ys) :: (P, o) :: (L + 4, w4) :: (L + 3, w3) :: (L + 2, w2) :: (L + 1, w1) :: rest)) (d1 : w1.data = .cell (some (.ref P))) (d2 : w2.data = .cell (some (.int bits tn))) (hD : o.IsDictOf (PySem.strKind Pg w) [("coins", .ref C), ("spent", .int k tk0)]) (hI : IntsAre ys ms) (hlen : ys.length ≤ 40) (hlen2 : ms.length = ys.length)
    (hap : ∀ p ∈ (C, LCg.lst ys) :: (L + 4, w4) :: (L + 3, w3) :: (L + 2, w2) :: (L + 1, w1) :: rest, p.1 ≠ P) (k0 : 0 ≤ k) (k1 : k ≤ 1000) (X : (K w.params).In h₀) (T : TopM mean mg mb h₀) (hdp : dp + 20 < recursionLimit) (hu : un + 300 < cLine) (fn : fitsB n bits = true) (fm : fitsB m bits = true) (b1 : 4 ≤ bits)
    (hq : ∀ h' tk' M' m' tb' o' k' t', (k' = k ∨ k' = k + 1) → fitsB m' bits = true → Fr h₀ L h' M' → M' "a" = some (.int n ta) → M' "b" = some (.int m' tb') → News h₀ L h' ((C, LCg.lst ys) :: (P, o') :: (L + 4, w4) :: (L + 3, w3) :: (L + 2, w2) :: (L + 1, w1) :: rest) → o'.IsDictOf (PySem.strKind Pg w) [("coins", .ref C), ("spent", .int k' t')] → Q .next { s with heap := h', toks := tk' }) :
    wpAny (model Pg w) (AA dp un fr gd) (exec B1 (laEnv L fa)) Q (fun _ _ => False) s := by
  refine' la_in ?hb ?hs ?_
  (case hb => (conv => lhs; whnf))
  (case hs => (conv => lhs; whnf))
  have F1 := fr_pin3 F m1 m2 m3
  clear F
  try k_fold
  k_extra "my k_steps"
  · rename News _ _ _ _ => NX
    show Q _ _
    refine hq _ _ _ _ _ o9 (k + 1) t9 (.inr rfl) ?_ (by k_asm) rfl rfl (fun p hp => NX p (.tail _ hp)) hD9
    have hb : 4 < bits := by assumption
    exact fits_pick hb fn lo9 hi9
  · show Q _ _
    exact hq _ _ _ _ _ o k tk0 (.inl rfl) (fits_zero b1) (by k_asm) rfl rfl (by k_asm) hD
  · show Q _ _
    exact hq _ _ _ _ _ o k tk0 (.inl rfl) fm (by k_asm) rfl rfl (by k_asm) hD
end
end
section
set_option maxHeartbeats 8000000
section
variable {w : World} {mean : ExcName → Option Value} {mg mb : Str → Option Value} {h₀ : Heap} {L P C fa : Addr} {k many bits : Int} {tk0 tm tn : Tok} {M : Str → Option Value} {o : Obj} {w1 w2 w3 w4 : Obj} {news rest : List (Addr × Obj)} {g : Obj → List (Addr × Obj)} {s : Shared} {dp un : Nat} {fr : Option (List Env)} {gd : Option (List Code)} {ys : List Value} {ms : List Int}
end
end
section
set_option maxHeartbeats 8000000
section
variable {w : World} {mean : ExcName → Option Value} {mg mb : Str → Option Value} {h₀ : Heap} {L P C fa : Addr} {k many bits : Int} {tk0 tm tn : Tok} {M : Str → Option Value} {o : Obj} {pre rest : List (Addr × Obj)} {s : Shared} {dp un : Nat} {fr : Option (List Env)} {gd : Option (List Code)} {ys : List Value} {ms : List Int}
theorem news_shift {h : Heap} {a b : Addr × Obj} (N : News h₀ L h (pre ++ a :: b :: rest)) : News h₀ L h (a :: b :: (pre ++ rest)) := fun p hp => by
  rcases List.mem_cons.mp hp with rfl | hp
  · exact N _ (List.mem_append_right _ (.head _))
  rcases List.mem_cons.mp hp with rfl | hp
  · exact N _ (List.mem_append_right _ (.tail _ (.head _)))
  rcases List.mem_append.mp hp with hp | hp
  · exact N _ (List.mem_append_left _ hp)
  · exact N _ (List.mem_append_right _ (.tail _ (.tail _ hp)))
theorem news_shift' {h : Heap} {a b : Addr × Obj} (N : News h₀ L h (a :: b :: (pre ++ rest))) : News h₀ L h (pre ++ a :: b :: rest) := fun p hp => by
  rcases List.mem_append.mp hp with hp | hp
  · exact N _ (.tail _ (.tail _ (List.mem_append_left _ hp)))
  rcases List.mem_cons.mp hp with rfl | hp
  · exact N _ (.head _)
  rcases List.mem_cons.mp hp with rfl | hp
  · exact N _ (.tail _ (.head _))
  · exact N _ (.tail _ (.tail _ (List.mem_append_right _ hp)))
theorem coin_useP {Q E : Value → Shared → Prop} (F : Fr h₀ L s.heap M) (N : News h₀ L s.heap (pre ++ (C, LCg.lst ys) :: (P, o) :: rest)) (hD : o.IsDictOf (PySem.strKind Pg w) [("coins", .ref C), ("spent", .int k tk0)]) (hI : IntsAre ys ms) (hlen : ys.length ≤ 40) (hlen2 : ms.length = ys.length) (hap : ∀ p ∈ pre ++ (C, LCg.lst ys) :: rest, p.1 ≠ P)
    (X : (K w.params).In h₀) (T : TopM mean mg mb h₀) (k0 : 0 ≤ k) (k1 : k ≤ 1000) (hm : 1 ≤ many) (hm2 : many ≤ 65536) (hdp : dp + 3 < recursionLimit) (hu : un + 48 < cLine)
    (hq : ∀ r tr h' tk' o' t', 0 ≤ r → r < many → Fr h₀ L h' M → News h₀ L h' (pre ++ (C, LCg.lst ys) :: (P, o') :: rest) → o'.IsDictOf (PySem.strKind Pg w) [("coins", .ref C), ("spent", .int (k + 1) t')] → Q (.int r tr) { s with heap := h', toks := tk' }) :
    wpAny (model Pg w) (AA dp un fr gd) (call (.ref 262) [.ref P, .int many tm]) Q E s := by
  refine coin_use F (news_shift N) hD hI hlen hlen2 (fun p hp => hap p ?_) X T k0 k1 hm hm2 hdp hu fun r tr h' tk' o' t' r0 r1 F' N' d' => hq r tr h' tk' o' t' r0 r1 F' (news_shift' N') d'
  rcases List.mem_cons.mp hp with rfl | hp
  · exact List.mem_append_right _ (.head _)
  rcases List.mem_append.mp hp with hp | hp
  · exact List.mem_append_left _ hp
  · exact List.mem_append_right _ (.tail _ hp)
end
noncomputable abbrev B0 : Stmt := (forB A3).getD 0 (.Pass default)
section
variable {w : World} {mean : ExcName → Option Value} {mg mb : Str → Option Value} {h₀ : Heap} {L P Cx fa : Addr} {k bits turn : Int} {tk0 tn tt : Tok} {M : Str → Option Value} {o : Obj} {w1 w2 w3 w4 : Obj} {rest : List (Addr × Obj)} {s : Shared} {dp un : Nat} {fr : Option (List Env)} {gd : Option (List Code)} {ys : List Value} {ms : List Int}
theorem hap_more {I C D : Addr} {oI oC oD a : Obj} {l : List (Addr × Obj)} (off : LCg.Off3 I C D ((Cx, a) :: (P, o) :: l)) (hap : ∀ p ∈ (Cx, a) :: l, p.1 ≠ P) : ∀ p ∈ (I, oI) :: (C, oC) :: (D, oD) :: (Cx, a) :: l, p.1 ≠ P := fun p hp => by
  have z := off.mem (P, o) (.tail _ (.head _))
  rcases List.mem_cons.mp hp with rfl | hp
  · exact z.1.symm
  rcases List.mem_cons.mp hp with rfl | hp
  · exact z.2.1.symm
  rcases List.mem_cons.mp hp with rfl | hp
  · exact z.2.2.symm
  exact hap p hp
theorem words26 : True := by
  (k_with "call ref" => (k_here; (with_reducible show wpAny _ _ (call (Value.ref 262) _) _ _ _); k_dflt (refine' coin_useP (pre := [_, _, _]) ?zF ?zN hD hI hlen hlen2 hap3 ?zX ?zT k0 k1 ?zm_k9 ?zm2_k9 ?zd ?zu ?_; k_extra "my cz"; (case zm_k9 => k_extra "my km_many"); (case zm2_k9 => k_extra "my km_many"); (case zd => k_extra "my ktr_room"); (case zu => k_extra "my ktr_room")); intro r9 tr9 h9 tk9 o9 t9 lo9 hi9 F9 N9 hD9; (try simp only [List.cons_append, List.nil_append] at N9)))
  (k_with "my km_many" => first | assumption | decide | omega)
  (k_with "CompSrc" => (k_here; k_dflt (refine LCg.CompSrc.range (by rfl) (by k_asm) (by k_asm) (by assumption) (by first | decide | rfl) (by first | rfl | decide) (by first | size_fits | exact Nat.le_of_ble_eq_true rfl) ?_; intro _; lcg_lit)))
  trivial
theorem lawB0 {Q : Flow → Shared → Prop} (F : Fr h₀ L s.heap M) (m3 : M "turn" = some (.int turn tt)) (N : News h₀ L s.heap ((Cx, LCg.lst ys) :: (P, o) :: (L + 4, w4) :: (L + 3, w3) :: (L + 2, w2) :: (L + 1, w1) :: rest)) (d1 : w1.data = .cell (some (.ref P))) (d2 : w2.data = .cell (some (.int bits tn))) (hD : o.IsDictOf (PySem.strKind Pg w) [("coins", .ref Cx), ("spent", .int k tk0)]) (hI : IntsAre ys ms) (hlen : ys.length ≤ 40) (hlen2 : ms.length = ys.length)
    (hap : ∀ p ∈ (Cx, LCg.lst ys) :: (L + 4, w4) :: (L + 3, w3) :: (L + 2, w2) :: (L + 1, w1) :: rest, p.1 ≠ P) (k0 : 0 ≤ k) (k1 : k ≤ 900) (b1 : 4 ≤ bits) (b2 : bits ≤ 16) (q1 : (1 : Int) ≤ 2 ^ bits.toNat) (q2 : (2 : Int) ^ bits.toNat ≤ 65536) (X : (K w.params).In h₀) (T : TopM mean mg mb h₀) (hdp : dp + 20 < recursionLimit) (hu : un + 300 < cLine)
    (hq : ∀ h' tk' M' a b ta tb o' t', 0 ≤ a + 2 ^ (bits - 1).toNat → a + 2 ^ (bits - 1).toNat < 2 ^ bits.toNat → 0 ≤ b + 2 ^ (bits - 1).toNat → b + 2 ^ (bits - 1).toNat < 2 ^ bits.toNat → Fr h₀ L h' M' → M' "a" = some (.int a ta) → M' "b" = some (.int b tb) → M' "turn" = some (.int turn tt) →
      News h₀ L h' ((Cx, LCg.lst ys) :: (P, o') :: (L + 4, w4) :: (L + 3, w3) :: (L + 2, w2) :: (L + 1, w1) :: rest) → o'.IsDictOf (PySem.strKind Pg w) [("coins", .ref Cx), ("spent", .int (k + 2) t')] → Q .next { s with heap := h', toks := tk' }) :
    wpAny (model Pg w) (AA dp un fr gd) (exec B0 (laEnv L fa)) Q (fun _ _ => False) s := by
  refine' la_in ?hb ?hs ?_
  (case hb => (conv => lhs; whnf))
  (case hs => (conv => lhs; whnf))
  have F1 := fr_pin F m3
  clear F
  try k_fold
  refine Assign_Tuple ?_
  refine LCg.ListComp_U (F₀ := F1) (by with_unfolding_all rfl) (by decide) (by rfl) (by decide) (by rfl) ?_
  k_dflt lcg_toSrc
  refine LCg.CompRest.succ ?_
  intro v' I' oI' C' oC' D' m' h' tk' E' hv' hC' hx' F' N' off' ne'
  obtain ⟨t9', hv9'⟩ := hv'
  subst hv9'
  have hap3 := hap_more (oI := oI') (oC := oC') (oD := LCg.lst []) off' hap
  have k1' : k ≤ 900 := k1
  replace k1 : k ≤ 1000 := by omega
  k_extra "my k_steps"
  refine LCg.CompEnd.intro F9 N9 ((Cx, LCg.lst ys) :: (P, o9) :: (L + 4, w4) :: (L + 3, w3) :: (L + 2, w2) :: (L + 1, w1) :: rest) (fun p hp => hp) off' trivial ?_
  have lo1 := lo9
  have hi1 := hi9
  clear hap3 hD off' N9 F9 N' F' lo9 hi9
  have hD := hD9
  clear hD9
  replace k0 : 0 ≤ k + 1 := by omega
  replace k1 : k + 1 ≤ 1000 := by omega
  refine LCg.CompRest.succ ?_
  intro v2 I2 oI2 C2 oC2 D2 m2 h2 tk2 E2 hv2 hC2 hx2 F2 N2 off2 ne2
  obtain ⟨t92, hv92⟩ := hv2
  subst hv92
  have hap3 := hap_more (oI := oI2) (oC := oC2) (oD := LCg.lst ([] ++ [Value.int (r9 - 2 ^ (bits - 1).toNat) (tk9 + 1 + 1 + 1 + 1)])) off2 hap
  k_extra "my k_steps"
  refine LCg.CompEnd.intro F9 N9 ((Cx, LCg.lst ys) :: (P, o9) :: (L + 4, w4) :: (L + 3, w3) :: (L + 2, w2) :: (L + 1, w1) :: rest) (fun p hp => hp) off2 trivial ?_
  refine LCg.CompRest.zero ?_
  unfold LCg.FinE
  clear F9 N9
  intro D3 h3 tk3 F3 N3 o3
  k_extra "my k_steps"
  rename News _ _ _ _ => NX
  rename Fr _ _ _ _ => FX
  rw [show k + 1 + 1 = k + 2 by omega] at hD9
  show Q _ _
  exact hq _ _ _ _ _ _ _ o9 t9 (by omega) (by omega) (by omega) (by omega) FX rfl rfl rfl (fun p hp => NX p (.tail _ hp)) hD9
end
end
section
set_option maxHeartbeats 2000000
noncomputable abbrev laQ : Str := "law" ++ ".<locals>." ++ "<lambda>"
theorem triples_str {l : List Value} (h : TriplesOk l) {q : Str} {t : Tok} (e : l[1]? = some (.str q t)) : False := by
  fun_induction TriplesOk l with
  | case1 => simp at e
  | case2 => simp at e
  | case3 => exact h.elim
theorem TabI.but {tab a : Addr} {q : Str} {h h' : Heap} (x : TabI tab q h) (n : tab ≠ a) (na : ∀ o vs q t, h.get? a = some o → o.data = .fields vs → vs[1]? = some (.str q t) → False) (k : ∀ b o vs, b ≠ a → h.get? b = some o → o.data = .fields vs → h'.get? b = some o) : TabI tab q h' := by
  obtain ⟨ps, g, t, f⟩ := x
  refine ⟨ps, k _ _ _ n g rfl, t, fun pos cv e => ?_⟩
  obtain ⟨c, a, b, d⟩ := f pos cv e
  refine ⟨c, a, b, ?_⟩
  obtain ⟨c', o, vs, u, e0, g0, d0, v0⟩ := d
  cases e0
  exact ⟨c, o, vs, u, rfl, k c o vs (fun z => na o vs _ _ (z ▸ g0) d0 v0) g0 d0, d0, v0⟩
theorem TabI.nostr {tab : Addr} {q : Str} {h : Heap} (x : TabI tab q h) : ∀ o vs q t, h.get? tab = some o → o.data = .fields vs → vs[1]? = some (.str q t) → False := by
  obtain ⟨ps, g, t, _⟩ := x
  intro o vs q u e d v
  rw [g] at e; cases e; cases d
  exact triples_str t (by simpa using v)
/-- two tables, one ledger -/
theorem TabL.two {tab tab' L : Addr} {q q' : Str} {h₀ h : Heap} {tl tl' : List (Addr × Obj)} (x : TabL h₀ tab q tl) (N : News h₀ L h tl) (y : TabI tab' q' h) (n : tab ≠ tab') (k : ∀ p ∈ tl, p.1 ≠ tab' → p ∈ tl') : TabL h₀ tab q tl' := by
  obtain ⟨ps, g, t, f⟩ := x
  refine ⟨ps, k _ g n, t, fun pos cv e => ?_⟩
  obtain ⟨c, a, b, d⟩ := f pos cv e
  refine ⟨c, a, b, d.imp id fun ⟨oc, vs, u, m, d1, d2⟩ => ⟨oc, vs, u, k _ m (fun z => ?_), d1, d2⟩⟩
  have e := (N _ m).1
  dsimp only at e z
  rw [z] at e
  exact y.nostr _ _ _ _ e d1 d2
theorem news_app {h₀ h : Heap} {L : Addr} {pre tl : List (Addr × Obj)} (N : News h₀ L h (pre ++ tl)) : News h₀ L h tl := fun p hp => N p (List.mem_append_right _ hp)
theorem isW.keep {h h' : Heap} {p : Int × Int} {v : Value} (x : isW false h h p v) (k : h.StaysIn h') : isW false h h' p v :=
  x.imp (fun ⟨a, t, u, e, i, _⟩ => ⟨a, t, u, e, i.keeps k, fun z => nomatch z⟩) id
theorem isW.keep2 {h h' : Heap} {p : Int × Int} {v : Value} (x : isW false h h p v) (k : h.StaysIn h') : isW false h' h' p v :=
  x.imp (fun ⟨a, t, u, e, i, _⟩ => ⟨a, t, u, e, i.keeps k, fun z => nomatch z⟩) id
theorem isW.but {h h' : Heap} {p : Int × Int} {v : Value} {tab : Addr} {ps : Array Value} (x : isW false h h p v) (g : h.get? tab = some (tabObj ps)) (k : ∀ b o, b ≠ tab → h.get? b = some o → h'.get? b = some o) : isW false h' h' p v :=
  x.imp (fun ⟨a, t, u, e, ⟨o, g1, c1, kk, d1⟩, _⟩ => ⟨a, t, u, e, ⟨o, k a o (fun z => by rw [z, g] at g1; cases g1; cases d1) g1, c1, kk, d1⟩, fun z => nomatch z⟩) id
section
variable {w : World} {mean : ExcName → Option Value} {mg mb : Str → Option Value} {h₀ : Heap} {L fa : Addr} {m : Str → Option Value} {pre tl : List (Addr × Obj)} {s : Shared} {dp un : Nat} {fr : Option (List Env)} {gd : Option (List Code)} {Q E : Value → Shared → Prop}
theorem lamN_con {f c : Addr} {x qual : Str} {px : Pos} {scope : Scope} {clos : List (Str × Addr)} {v : Value} {p : Int × Int} (hcell : ∀ x ∈ scope.names, x.2 ≠ .cell) (hco : scope.isCoroutine = false) (hgen : scope.isGenerator = false) (hk : scope.kind = .function)
    (hx : scope.names.lookup x = some .free) (hc : clos.lookup x = some c) (hd1 : (x == ("__debug__" : Str)) = false) (hn1 : (x == ("__classdict__" : Str)) = false) :
    Con w mean mg mb f [] 1 3 (fun h => LamAt h f qual (.Name x px) scope clos ∧ h.IsCell c (some v) ∧ isW false h h p v) (fun h h' r => isW false h h' p r) := by
  intro dp un fr gd s Q E X T ⟨hl, hv, hw⟩ hd hu hret
  exact lam_name T hl (show dp < _ by omega) hcell hco hgen hk hx hc hv hd1 hn1 fun h' st => hret v h' s.toks st (hw.keep st)
/-- the worth of a captured name -/
theorem worth_law {x : Str} {c : Addr} {v : Value} {p : Int × Int} {lscope : Scope} {p0 p1 px lpos : Pos} (F : Fr h₀ L s.heap m) (N : News h₀ L s.heap (pre ++ tl)) (hpre : ∀ p ∈ pre, p.1 ≠ 309) (tabl : TabL h₀ 309 laQ tl) (ht : h₀.get? 309 = none) (X : (K w.params).In h₀) (T : TopM mean mg mb h₀)
    (e5 : closureFor lscope (laEnv L fa) = pure [(x, c)]) (hcell : ∀ x ∈ lscope.names, x.2 ≠ .cell) (hco : lscope.isCoroutine = false) (hgen : lscope.isGenerator = false) (hk : lscope.kind = .function)
    (hx : lscope.names.lookup x = some .free) (hc : [(x, c)].lookup x = some c) (hd1 : (x == ("__debug__" : Str)) = false) (hn1 : (x == ("__classdict__" : Str)) = false)
    (hv : s.heap.IsCell c (some v)) (hw : isW false s.heap s.heap p v) (hd : dp + 9 < recursionLimit) (hu : un + 110 < cLine)
    (hq1 : ∀ a t u dd k sl h' tk' tl', Fr h₀ L h' m → News h₀ L h' ((a, tupF p.1 t p.2 u dd k sl) :: (pre ++ tl')) → TabL h₀ 309 laQ tl' → (∀ p ∈ tl, p.1 ≠ 309 → p ∈ tl') → Q (.ref a) { s with heap := h', toks := tk' })
    (hq2 : ∀ a h' tk' tl', Reads h₀ (.ref a) (.tuple [.int p.1, .int p.2]) [] → Fr h₀ L h' m → News h₀ L h' (pre ++ tl') → TabL h₀ 309 laQ tl' → (∀ p ∈ tl, p.1 ≠ 309 → p ∈ tl') → Q (.ref a) { s with heap := h', toks := tk' }) :
    wpAny (model Pg w) (AA dp un fr gd) (eval (.Call (.Name "_law_worth" p0) [.Lambda noPar (.Name x px) lscope lpos] [] p1) (laEnv L fa)) Q E s := by
  have TI := tabl.tabI F (news_app N)
  have gs := T.g.keeps F.keep
  have fn : FnAt 276 s.heap := ⟨_, _, _, _, F.keep _ _ (X 276 _ (by rfl))⟩
  refine wpAny_Call_ofName ?_
  refine wpAny_Name (ks_loadName_global rfl rfl (Calls.loadGlobal_global (env := laEnv L fa) (v := .ref 276) gs (mg_of X T.g (by kernel_rfl)) ?_)) (by decide)
  refine callWith_F fn (spliced_more ?_)
  refine lam_make (tab := 309) (cd := 311) X T F.keep ht ((head_law X).keeps F.keep) TI rfl rfl e5 fun f h₁ tk₁ k₁ nf TI₁ hl => ?_
  obtain ⟨ps, g9, _⟩ := TI
  have L9 : L ≠ 309 := fun z => by
    obtain ⟨o, es, ep, e, d, _⟩ := F.ns
    rw [z, g9] at e; cases e; cases d
  have F₁ : Fr h₀ L h₁ m := ⟨ns_move F.ns fun o e => k₁ L o L9 e, fun b o e => k₁ b o (fun z => by rw [z, ht] at e; cases e) (F.keep b o e), F.above⟩
  obtain ⟨tl₁, N₁t, T₁, _, kk, _⟩ := tail_of (tl := tl) (outer := []) (base := h₀) TI₁ F₁ trivial (fun p hp n => ⟨k₁ _ _ n (N p (List.mem_append_right _ hp)).1, (N p (List.mem_append_right _ hp)).2⟩) (fun _ _ hm => nomatch hm) ht
  have N₁ : News h₀ L h₁ (pre ++ tl₁) := fun p hp => by
    rcases List.mem_append.mp hp with hp | hp
    · exact ⟨k₁ _ _ (hpre p hp) (N p (List.mem_append_left _ hp)).1, (N p (List.mem_append_left _ hp)).2⟩
    · exact N₁t p hp
  have hv₁ : h₁.IsCell c (some v) := by
    obtain ⟨o, g, d⟩ := hv
    exact ⟨o, k₁ c o (fun z => by rw [z, g9] at g; cases g; cases d) g, d⟩
  have hw₁ := hw.but g9 k₁
  refine spliced_none ⟨⟨_, _, _, _, F₁.keep _ _ (X 276 _ (by rfl))⟩, ?_⟩
  have C := worth_c (z := false) (lamN_con (w := w) (mean := mean) (mg := mg) (mb := mb) (f := f) (qual := laQ) (px := px) (v := v) (p := p) hcell hco hgen hk hx hc hd1 hn1) (grows_lam.and (Grows.and (fun _ _ k y => y.keeps k) (fun _ _ k y => isW.keep2 y k)))
  refine Con.use C (s := { s with heap := h₁, toks := tk₁ }) F₁ N₁ X T ⟨⟨hl, hv₁, hw₁⟩, hl.fn⟩ (by omega) (by omega) fun r h₂ tk₂ F₂ N₂ st₂ o₂ => ?_
  obtain ⟨a, t, u, rfl, ⟨⟨oc, od, odt, osl⟩, g, c1, kn, d⟩, _⟩ := o₂
  dsimp only at c1 d
  subst c1 d
  cases z : h₀.get? a with
  | none =>
    refine hq1 a t u od kn osl h₂ tk₂ tl₁ F₂ (fun q hq => ?_) T₁ kk
    rcases List.mem_cons.mp hq with rfl | hq
    · refine ⟨g, fun y => ?_, z⟩
      obtain ⟨o, es, ep, e, d, _⟩ := F₂.ns
      rw [← y, g] at e; cases e; cases d
    · exact N₂ q hq
  | some o' =>
    have := F₂.keep a o' z
    rw [g] at this; cases this
    exact hq2 a h₂ tk₂ tl₁ (reads_tuple_at z rfl rfl (.cons (.int _ _) (.cons (.int _ _) .nil))) F₂ N₂ T₁ kk
/-- the pair's law, called by law -/
theorem pair_use {n k bits : Int} {t1 t2 t3 : Tok} (F : Fr h₀ L s.heap m) (N : News h₀ L s.heap (pre ++ tl)) (hpre : ∀ p ∈ pre, p.1 ≠ 299) (tabl : TabL h₀ 299 prQ tl) (ht : h₀.get? 299 = none) (X : (K w.params).In h₀) (T : TopM mean mg mb h₀)
    (hn : n.natAbs < 10 ^ 5) (hm : k.natAbs < 10 ^ 5) (fn : fitsB n bits = true) (fm : fitsB k bits = true) (b1 : 4 ≤ bits) (b2 : bits ≤ 16) (hd : dp + 24 < recursionLimit) (hu : un + 400 < cLine)
    (hq : ∀ h' tk' tl', Fr h₀ L h' m → News h₀ L h' (pre ++ tl') → TabL h₀ 299 prQ tl' → (∀ p ∈ tl, p.1 ≠ 299 → p ∈ tl') → Q (.bool true) { s with heap := h', toks := tk' }) :
    wpAny (model Pg w) (AA dp un (some [laEnv L fa]) gd) (call (.ref 302) [.int n t1, .int k t2, .int bits t3]) Q E s := by
  have L0 : h₀.get? L = none := Heap.get?_none_of_le F.above
  have FF : s.heap.FunFrames h₀ [laEnv L fa] := Heap.FunFrames.cons (L := L) (fun q => nomatch (show ScopeKind.function = ScopeKind.module from q)) rfl F.ns L0 trivial
  have fL : frm [laEnv L fa] = [L] := rfl
  refine pair_right_c hn hm fn fm b1 b2 X T F.keep ht FF (tabl.tabI F (news_app N)) hd hu fun h' tk' st up TI => ?_
  rw [fL] at st
  have F' : Fr h₀ L h' m := by
    refine ⟨?_, fun b o e => st b o (fun z => by rw [z, ht] at e; cases e) (fun z => by rw [List.mem_singleton.mp z, L0] at e; cases e) (F.keep b o e), F.above⟩
    obtain ⟨o, es, ep, e, r⟩ := F.ns
    obtain ⟨sl, e'⟩ := up L o (by rw [fL]; exact .head _) e
    exact ⟨_, es, ep, e', r⟩
  have mv : ∀ p : Addr × Obj, h₀.get? p.1 = none → p.1 ≠ L → p.1 ≠ 299 → s.heap.get? p.1 = some p.2 → h'.get? p.1 = some p.2 := fun p _ n1 n2 e => st _ _ n2 (fun z => n1 (List.mem_singleton.mp z)) e
  obtain ⟨tl₁, N₁t, T₁, _, kk, _⟩ := tail_of (tl := tl) (outer := []) (base := h₀) TI F' trivial (fun p hp n => let y := N p (List.mem_append_right _ hp); ⟨mv p y.2.2 y.2.1 n y.1, y.2⟩) (fun _ _ hm => nomatch hm) ht
  exact hq h' tk' tl₁ F' (fun p hp => by
    rcases List.mem_append.mp hp with hp | hp
    · have y := N p (List.mem_append_left _ hp)
      exact ⟨mv p y.2.2 y.2.1 (hpre p hp) y.1, y.2⟩
    · exact N₁t p hp) T₁ kk
end
end
section
set_option maxHeartbeats 8000000
noncomputable abbrev B4 : Stmt := (forB A3).getD 4 (.Pass default)
section
variable {w : World} {mean : ExcName → Option Value} {mg mb : Str → Option Value} {h₀ : Heap} {L fa : Addr} {n bits : Int} {ta tb : Tok} {M : Str → Option Value} {w3 w4 : Obj} {v1 : Value} {a9 : Addr} {t9 v9 : Tok} {tl : List (Addr × Obj)} {s : Shared} {dp un : Nat} {fr : Option (List Env)} {gd : Option (List Code)}
theorem words27 : True := by
  k_with_none
  (k_with "my cz" => ((case zF => k_asm); (case zN => k_asm); (case zX => k_asm); (case zT => k_asm)))
  (k_with "my cy" => ((case zp => first | trivial | ((try dsimp only); (repeat' (with_reducible refine And.intro ?_ ?_)) <;> k_extra "my ktr_rel")); (case zd => k_extra "my ktr_room"); (case zu => k_extra "my ktr_room")))
  (k_with "my ee" => ((case ep => k_extra "my evp"); (case ed => k_extra "my ktr_room"); (case eu => k_extra "my ktr_room")))
  (k_with "my ktr_room" => ((try dsimp only [AA]); first | exact room1 hd rfl | exact room hu rfl | exact room hd rfl | omega))
  (k_with "my ktr_rel" => first | trivial | assumption | omega | rfl | (with_reducible exact ⟨_, rfl⟩))
  (k_with "my ktr_rel" => first | exact isV.keeps (by assumption) (Fr.keep (by assumption)) | trivial | k_extra "my is_list" | assumption | k_extra "my ktn_ord" | omega | rfl | (with_reducible exact ⟨_, rfl⟩))
  (k_with "my evp" => first | trivial | ((try dsimp only); (repeat' (with_reducible refine And.intro ?_ ?_)) <;> first | exact isV.keeps (isV.keeps (by assumption) (Cx.F C9).keep) st9 | k_extra "my ktr_rel"))
  (k_with "my ev" => first
    | exact Ev.lit
    | exact Ev.nmI C9 rfl
    | (apply Ev.add; k_extra "my ev"; k_extra "my ev")
    | (apply Ev.sub; k_extra "my ev"; k_extra "my ev")
    | (apply Ev.mul; k_extra "my ev"; k_extra "my ev"; first | exact Sm.mulOk (by k_extra "my ktn_ord") (by k_extra "my ktn_ord") | mul_fits)
    | (apply Ev.fdiv; k_extra "my ev"; k_extra "my ev"; k_extra "my km_fact"; k_extra "my kbt_ne")
    | (apply Ev.mod; k_extra "my ev"; k_extra "my ev"; k_extra "my km_fact")
    | (apply Ev.pow; k_extra "my ev"; k_extra "my ev"; omega; omega; first | decide | omega)
    | (apply Ev.neg; k_extra "my ev")
    | (apply Ev.cmpI; k_extra "my ev"; k_extra "my ev"; k_extra "my cmp"; rfl)
    | (apply Ev.item0; k_extra "my evt")
    | (apply Ev.item1; k_extra "my evt")
    | (apply Ev.call C9; rfl; rfl; rfl; rfl; k_is; k_is; k_extra "my evl"; (intro hh9 st9; (repeat (intro _)); k_extra "my evk"))
    | (apply Ev.abs C9; rfl; k_is; rfl; k_extra "my ev")
    | (apply Ev.isi C9; rfl; k_is; rfl; rfl; k_extra "my evl"; k_extra "my isi")
    | ((rename EvIf => if9); apply Ev.iteI; k_extra "my ec"; (intro hc9; k_extra "my ev"); (intro hc9; k_extra "my ev"))
    | exact Ev.text
    | exact Ev.nmS C9 rfl
    | exact Ev.nmB C9 rfl
    | (refine' Ev.nmT C9 rfl ?i; (case i => is_list))
    | exact Ev.nmV C9 rfl
    | (apply Ev.nmBT C9; rfl; rfl; boot_fast; decide; k_is))
  (k_with "my isi" => first | exact IsiIs.tt | exact IsiIs.ts | exact IsiIs.it | exact IsiIs.is)
  (k_with "my evt" => (refine' Ev.nmT C9 rfl ?i; (case i => is_list)))
  (k_with "my evl" => first | exact EvL.nil | (apply EvL.cons; k_extra "my ev"; k_extra "my evl"; rfl))
  (k_with "my cmp" => first | exact CmpIs.eq | exact CmpIs.lt | exact CmpIs.ne | exact CmpIs.le | exact CmpIs.gt | exact CmpIs.ge | exact CmpIs.eqs | exact CmpIs.nes | exact CmpIs.eqb)
  (k_with "my ec" => first | (apply Ec.cmpI; k_extra "my ev"; k_extra "my ev"; k_extra "my cmp"; rfl) | (apply Ec.plain; k_extra "my ev"; (intro _; rfl)) | (apply Ec.not; k_extra "my ec"))
  (k_with "my cx" => (refine' Cx.mk ?cxX ?cxT ?cxF ?cxl ?cxg ?cxk ?cxb; (case cxF => k_asm); (case cxX => k_asm); (case cxT => k_asm); (case cxl => rfl); (case cxg => rfl); (case cxk => rfl); (case cxb => rfl)))
  (k_with "my evline" => (k_here; k_whole; (fail_if_success (rename EvOff => off9)); k_dflt (refine' Ev.use0 ?C ?N ?ev ?_; (case C => k_extra "my cx"); (case N => k_asm); (case ev => (intro C9; k_extra "my ev")); first | (refine giveI ?_; intro t9 h9 tk9 F9 N9) | (refine giveT ?_; intro a9 t9 v9 h9 tk9 F9 N9) | (refine giveB ?_; intro h9 tk9 F9 N9) | (refine giveV ?_; intro r9 h9 tk9 F9 N9 O9) | (refine giveT3 ?_; intro a9 t9 v9 x9 h9 tk9 F9 N9))))
  (k_with "eval Call" => k_extra "my evline")
  (k_with "eval BinOp" => k_extra "my evline")
  (k_with "eval UnaryOp" => k_extra "my evline")
  (k_with "eval Compare" => k_extra "my evline")
  (k_with "eval Subscript" => k_extra "my evline")
  (k_with "my ecline" => (k_here; k_whole; (fail_if_success (rename EvOff => off9)); k_dflt (refine' Ec.use0 ?C ?N ?ev ?_; (case C => k_extra "my cx"); (case N => k_asm); (case ev => (intro C9; k_extra "my ec")); intro h9 tk9 F9 N9)))
  (k_with "isTrue Compare" => k_extra "my ecline")
  (k_with "isTrue Call" => k_extra "my ecline")
  (k_with "isTrue UnaryOp" => k_extra "my ecline")
  (k_with "my ktr_enter" => (
  refine' enter ?eX_k9 ?eT_k9 ?eo_k9 ?ec_k9 ?er_k9 ?ep ?eb_k9 ?es_k9 ?ez_k9 ?eR_k9 ?ek_k9 ?el_k9 ?_ ?ee_k9 ?e1_k9 ?e2_k9 ?e3_k9
  (case eX_k9 => assumption)
  (case eT_k9 => assumption)
  (case eo_k9 => k_is)
  (case ec_k9 => k_is)
  (case er_k9 => (show (_ : Nat) < _; (try dsimp only [AA]); omega))
  (case ep => (conv => lhs; whnf))
  (case eb_k9 => (conv => lhs; whnf))
  (case es_k9 => (conv => lhs; whnf))
  (case ez_k9 => (conv => lhs; simp only [List.map_cons, List.map_nil, List.zip_cons_cons, List.zip_nil_right, List.zip_nil_left]))
  (case eR_k9 => (conv => lhs; simp only [List.reverse_cons, List.reverse_nil, List.nil_append, List.cons_append]))
  (case ek_k9 => exact rfl)
  (case el_k9 => exact rfl)
  (case ee_k9 => exact rfl)
  (case e1_k9 => exact rfl)
  (case e2_k9 => exact rfl)
  (case e3_k9 => exact rfl)
  intro _ _ _ _ _
  try dsimp only
  try k_fold))
  (k_with "my k_steps" => repeat' (first | (k_unfold; (try dsimp only)) | ((with_reducible show wpAny _ _ (exec _ _) _ _ _); k_whole; k_fold) | ((with_reducible show (_ : Flow → Shared → Prop) _ _); k_unfold; (try dsimp only)) | ((with_reducible show (_ : Value → Shared → Prop) _ _); k_unfold; (try dsimp only)) | walk1 | (dsimp only; k_unfold; (try dsimp only)) | (dsimp only; walk1) | fail "no step"))
  (k_with "my k_steps" => repeat' (first | (k_unfold; (try dsimp only)) | ((with_reducible show wpAny _ _ (exec _ _) _ _ _); k_whole; k_fold) | ((with_reducible show (_ : Flow → Shared → Prop) _ _); k_unfold; (try dsimp only)) | ((with_reducible show (_ : Value → Shared → Prop) _ _); k_unfold; (try dsimp only)) | ((fail_if_success (with_reducible show wpAny _ _ (exec (Stmt.While _ _ _ _) _) _ _ _)); walk1) | (dsimp only; k_unfold; (try dsimp only)) | (dsimp only; (fail_if_success (with_reducible show wpAny _ _ (exec (Stmt.While _ _ _ _) _) _ _ _)); walk1) | fail "no step"))
  (k_with "my k_steps" => repeat' (first | (k_unfold; (try dsimp only)) | ((with_reducible show wpAny _ _ (exec _ _) _ _ _); k_whole; k_fold) | ((with_reducible show (_ : Flow → Shared → Prop) _ _); k_unfold; (try dsimp only)) | ((with_reducible show (_ : Value → Shared → Prop) _ _); k_unfold; (try dsimp only)) | ((fail_if_success (with_reducible show wpAny _ _ (exec (Stmt.For _ _ _ _ _) _) _ _ _)); (fail_if_success (with_reducible show wpAny _ _ (eval (Expr.ListComp _ _ _ _) _) _ _ _)); (fail_if_success (with_reducible show wpAny _ _ (exec (Stmt.Assign _ (Expr.ListComp _ _ _ _) _) _) _ _ _)); walk1) | (dsimp only; k_unfold; (try dsimp only)) | (dsimp only; (fail_if_success (with_reducible show wpAny _ _ (exec (Stmt.For _ _ _ _ _) _) _ _ _)); (fail_if_success (with_reducible show wpAny _ _ (eval (Expr.ListComp _ _ _ _) _) _ _ _)); (fail_if_success (with_reducible show wpAny _ _ (exec (Stmt.Assign _ (Expr.ListComp _ _ _ _) _) _) _ _ _)); walk1) | fail "no step"))
  (k_with "my k_steps" => repeat' (first | (k_unfold; (try dsimp only)) | ((with_reducible show wpAny _ _ (exec _ _) _ _ _); k_whole; k_fold) | ((with_reducible show (_ : Flow → Shared → Prop) _ _); k_unfold; (try dsimp only)) | ((with_reducible show (_ : Value → Shared → Prop) _ _); k_unfold; (try dsimp only)) | ((fail_if_success (with_reducible show wpAny _ _ (exec (Stmt.For _ _ _ _ _) _) _ _ _)); (fail_if_success (with_reducible show wpAny _ _ (eval (Expr.ListComp _ _ _ _) _) _ _ _)); (fail_if_success (with_reducible show wpAny _ _ (exec (Stmt.Assign _ (Expr.ListComp _ _ _ _) _) _) _ _ _)); (fail_if_success (with_reducible show wpAny _ _ (eval (Expr.Call _ [Expr.Lambda _ _ _ _] _ _) _) _ _ _)); (fail_if_success (with_reducible show wpAny _ _ (call (Value.ref 302) _) _ _ _)); walk1) | (dsimp only; k_unfold; (try dsimp only)) | (dsimp only; (fail_if_success (with_reducible show wpAny _ _ (exec (Stmt.For _ _ _ _ _) _) _ _ _)); (fail_if_success (with_reducible show wpAny _ _ (eval (Expr.ListComp _ _ _ _) _) _ _ _)); (fail_if_success (with_reducible show wpAny _ _ (exec (Stmt.Assign _ (Expr.ListComp _ _ _ _) _) _) _ _ _)); (fail_if_success (with_reducible show wpAny _ _ (eval (Expr.Call _ [Expr.Lambda _ _ _ _] _ _) _) _ _ _)); (fail_if_success (with_reducible show wpAny _ _ (call (Value.ref 302) _) _ _ _)); walk1) | fail "no step"))
  (k_with "my km_fact" => first | exact pow10_ne _ | assumption | omega | decide)
  (k_with "my kbt_ne" => first | exact (Sm.pow10 (by omega)).log2 | exact (Sm.small (by omega) (by omega)).log2 | exact Sm.log2 (by assumption))
  (k_with "binaryOp FloorDiv int int" => (k_here; (with_reducible refine floordiv_int ?kzb_k9 ?_ (Or.inl (PyProof.noPylong_of_log2 ?kzp_k9))); (case kzb_k9 => k_extra "my km_fact"); (case kzp_k9 => k_extra "my kbt_ne")))
  (k_with "inplaceOp FloorDiv int int" => (k_here; (with_reducible refine ifloordiv_int ?kzb_k9 ?_ (Or.inl (PyProof.noPylong_of_log2 ?kzp_k9))); (case kzb_k9 => k_extra "my km_fact"); (case kzp_k9 => k_extra "my kbt_ne")))
  (k_with "binaryOp Mod int int" => (k_here; (with_reducible refine mod_int' ?kzb_k9 ?_); (case kzb_k9 => k_extra "my km_fact")))
  (k_with "call builtin:abs" => (k_here; (refine call_abs ?_); intro _ _))
  (k_with "my ktn_ord" => first | assumption | exact Sm.pow10 (by omega) | exact Sm.small (by omega) (by omega))
  (k_with "binaryOp Mult int int" => (k_here; (with_reducible refine mul_int ?_ ?kzm_k9); (case kzm_k9 => first | exact Sm.mulOk (by k_extra "my ktn_ord") (by k_extra "my ktn_ord") | mul_fits)))
  (k_with "call ref" => (k_here; k_dflt (refine' Con.useI figures_of_c ?zF ?zN ?zX ?zT ?zp ?zd ?zu ?_; k_extra "my cz"; (case zp => trivial); (case zd => k_extra "my ktr_room"); (case zu => k_extra "my ktr_room")); intro _ _ _ _ _))
  (k_with "call ref" => (k_here; k_dflt (refine' Con.useI rounded_by_c ?zF ?zN ?zX ?zT ?zp ?zd ?zu ?_; k_extra "my cz"; (case zp => ((try dsimp only); omega)); (case zd => k_extra "my ktr_room"); (case zu => k_extra "my ktr_room")); intro _ _ _ _ _))
  (k_with "call ref" => (k_here; k_dflt (refine' Con.useT made_c ?zF ?zN ?zX ?zT ?zp ?zd ?zu ?_; k_extra "my cz"; k_extra "my cy"); intro _ _ _ _ _ _ _))
  (k_with "call ref" => (k_here; k_dflt (refine' Con.useI whole_near_c ?zF ?zN ?zX ?zT ?zp ?zd ?zu ?_; k_extra "my cz"; k_extra "my cy"); intro _ _ _ _ _))
  (k_with "call ref" => (k_here; k_dflt (refine' Con.useB fits_c ?zF ?zN ?zX ?zT ?zp ?zd ?zu ?_; k_extra "my cz"; k_extra "my cy"); intro _ _ _ _))
  (k_with "call ref" => (k_here; k_dflt (refine' Con.useI whole_of_ci ?zF ?zN ?zX ?zT ?zp ?zd ?zu ?_; k_extra "my cz"; k_extra "my cy"); intro _ _ _ _ _))
  (k_with "call ref" => (k_here; k_dflt (refine' Con.useI whole_of_ct ?zF ?zN ?zX ?zT ?zp ?zd ?zu ?_; k_extra "my cz"; k_extra "my cy"); intro _ _ _ _ _))
  (k_with "call ref" => (k_here; k_dflt (refine' Con.useT decimal_of_ci ?zF ?zN ?zX ?zT ?zp ?zd ?zu ?_; k_extra "my cz"; k_extra "my cy"); intro _ _ _ _ _ _ _))
  (k_with "call ref" => (k_here; k_dflt (refine' Con.useT decimal_of_ct ?zF ?zN ?zX ?zT ?zp ?zd ?zu ?_; k_extra "my cz"; k_extra "my cy"); intro _ _ _ _ _ _ _))
  (k_with "call ref" => (k_here; k_dflt (refine' Con.useT d_negated_c ?zF ?zN ?zX ?zT ?zp ?zd ?zu ?_; k_extra "my cz"; k_extra "my cy"); intro _ _ _ _ _ _ _))
  (k_with "call ref" => (k_here; k_dflt (refine' Con.useT3 alike_c ?zF ?zN ?zX ?zT ?zp ?zd ?zu ?_; k_extra "my cz"; k_extra "my cy"); intro _ _ _ _ _ _ _ _))
  (k_with "call ref" => (k_here; k_dflt (refine' Con.useT with_rest_c ?zF ?zN ?zX ?zT ?zp ?zd ?zu ?_; k_extra "my cz"; k_extra "my cy"); intro _ _ _ _ _ _ _))
  (k_with "call ref" => (k_here; k_dflt (refine' Con.useT d_add_c ?zF ?zN ?zX ?zT ?zp ?zd ?zu ?_; k_extra "my cz"; k_extra "my cy"); intro _ _ _ _ _ _ _))
  (k_with "call ref" => (k_here; k_dflt (refine' Con.useT d_mul_c ?zF ?zN ?zX ?zT ?zp ?zd ?zu ?_; k_extra "my cz"; k_extra "my cy"); intro _ _ _ _ _ _ _))
  (k_with "call ref" => (k_here; k_dflt (refine' Con.useT d_sub_c ?zF ?zN ?zX ?zT ?zp ?zd ?zu ?_; k_extra "my cz"; k_extra "my cy"); intro _ _ _ _ _ _ _))
  (k_with "call ref" => (k_here; k_dflt (refine' Con.useT d_div_c ?zF ?zN ?zX ?zT ?zp ?zd ?zu ?_; k_extra "my cz"; k_extra "my cy"); intro _ _ _ _ _ _ _))
  (k_with "call ref" => (k_here; k_dflt (refine' Con.useI d_compare_c ?zF ?zN ?zX ?zT ?zp ?zd ?zu ?_; k_extra "my cz"; k_extra "my cy"); intro _ _ _ _ _))
  (k_with "call ref" => (k_here; k_dflt (refine' Con.useT square_c ?zF ?zN ?zX ?zT ?zp ?zd ?zu ?_; k_extra "my cz"; k_extra "my cy"); intro _ _ _ _ _ _ _))
  (k_with "call ref" => (k_here; k_dflt (refine' Con.useT decimal_of_v ?zF ?zN ?zX ?zT ?zp ?zd ?zu ?_; k_extra "my cz"; k_extra "my cy"); intro _ _ _ _ _ _ _))
  (k_with "call ref" => (k_here; k_dflt (refine' Con.useI whole_of_v ?zF ?zN ?zX ?zT ?zp ?zd ?zu ?_; k_extra "my cz"; k_extra "my cy"); intro _ _ _ _ _))
  (k_with "call ref" => (k_here; k_dflt (refine' Con.useB is_whole_ci ?zF ?zN ?zX ?zT ?zp ?zd ?zu ?_; k_extra "my cz"; k_extra "my cy"); intro _ _ _ _))
  (k_with "call ref" => (k_here; k_dflt (refine' Con.useB is_whole_ct ?zF ?zN ?zX ?zT ?zp ?zd ?zu ?_; k_extra "my cz"; k_extra "my cy"); intro _ _ _ _))
  (k_with "call ref" => (k_here; k_dflt (refine' Con.useB is_whole_v ?zF ?zN ?zX ?zT ?zp ?zd ?zu ?_; k_extra "my cz"; k_extra "my cy"); intro _ _ _ _))
  (k_with "call ref" => (k_here; k_dflt (refine' Con.useV settled_c ?zF ?zN ?zX ?zT ?zp ?zd ?zu ?_; k_extra "my cz"; k_extra "my cy"); intro _ _ _ _ _ _))
  (k_with "call ref" => (k_here; k_dflt (refine' Con.useV whole_reckoned_c ?zF ?zN ?zX ?zT ?zp ?zd ?zu ?_; k_extra "my cz"; k_extra "my cy"); intro _ _ _ _ _ _))
  (k_with "call ref" => (k_here; k_dflt (refine' Con.useI cut_quotient_c ?zF ?zN ?zX ?zT ?zp ?zd ?zu ?_; k_extra "my cz"; k_extra "my cy"); intro _ _ _ _ _))
  (k_with "call ref" => (k_here; k_dflt (refine' Con.useI exponent_of_v ?zF ?zN ?zX ?zT ?zp ?zd ?zu ?_; k_extra "my cz"; k_extra "my cy"); intro _ _ _ _ _))
  (k_with "call ref" => (k_here; k_dflt (refine' Con.useV whole_power_c ?zF ?zN ?zX ?zT ?zp ?zd ?zu ?_; k_extra "my cz"; k_extra "my cy"); intro _ _ _ _ _ _))
  (k_with "call ref" => (k_here; k_dflt (refine' Con.useV whole_reckoned_v ?zF ?zN ?zX ?zT ?zp ?zd ?zu ?_; k_extra "my cz"; k_extra "my cy"); intro _ _ _ _ _ _))
  (k_with "call ref" => (k_here; k_dflt (refine' Con.useV whole_power_v ?zF ?zN ?zX ?zT ?zp ?zd ?zu ?_; k_extra "my cz"; k_extra "my cy"); intro _ _ _ _ _ _))
  (k_with "call ref" => (k_here; k_dflt (refine' Con.useT d_power_c ?zF ?zN ?zX ?zT ?zp ?zd ?zu ?_; k_extra "my cz"; k_extra "my cy"); intro _ _ _ _ _ _ _))
  (k_with "call ref" => (k_here; k_dflt (refine' Con.useT d_add_l ?zF ?zN ?zX ?zT ?zp ?zd ?zu ?_; k_extra "my cz"; k_extra "my cy"); intro _ _ _ _ _ _ _))
  (k_with "call ref" => (k_here; k_dflt (refine' Con.useT d_sub_l ?zF ?zN ?zX ?zT ?zp ?zd ?zu ?_; k_extra "my cz"; k_extra "my cy"); intro _ _ _ _ _ _ _))
  (k_with "call ref" => (k_here; k_dflt (refine' Con.useT d_mul_l ?zF ?zN ?zX ?zT ?zp ?zd ?zu ?_; k_extra "my cz"; k_extra "my cy"); intro _ _ _ _ _ _ _))
  (k_with "call ref" => (k_here; k_dflt (refine' Con.useT d_div_l ?zF ?zN ?zX ?zT ?zp ?zd ?zu ?_; k_extra "my cz"; k_extra "my cy"); intro _ _ _ _ _ _ _))
  (k_with "call ref" => (k_here; k_dflt (refine' Con.useI d_compare_l ?zF ?zN ?zX ?zT ?zp ?zd ?zu ?_; k_extra "my cz"; k_extra "my cy"); intro _ _ _ _ _))
  (k_with "call ref" => (k_here; k_dflt (refine' Con.useV negated_v ?zF ?zN ?zX ?zT ?zp ?zd ?zu ?_; k_extra "my cz"; k_extra "my cy"); intro _ _ _ _ _ _))
  (k_with "call ref" => (k_here; k_dflt (refine' Con.useI order_v ?zF ?zN ?zX ?zT ?zp ?zd ?zu ?_; k_extra "my cz"; k_extra "my cy"); intro _ _ _ _ _))
  (k_with "call ref" => (k_here; k_dflt (refine' Con.useB stands_c ?zF ?zN ?zX ?zT ?zp ?zd ?zu ?_; k_extra "my cz"; k_extra "my cy"); intro _ _ _ _))
  (k_with "call ref" => (k_here; k_dflt (refine' Con.useI inverted_c ?zF ?zN ?zX ?zT ?zp ?zd ?zu ?_; k_extra "my cz"; k_extra "my cy"); intro _ _ _ _ _))
  (k_with "call ref" => (k_here; k_dflt (refine' Con.useT dec_c ?zF ?zN ?zX ?zT ?zp ?zd ?zu ?_; k_extra "my cz"; k_extra "my cy"); intro _ _ _ _ _ _ _))
  (k_with "my evk" => (refine' CallOK.I figures_of_c ?ep ?ed ?eu; k_extra "my ee"))
  (k_with "my evk" => (refine' CallOK.I rounded_by_c ?ep ?ed ?eu; k_extra "my ee"))
  (k_with "my evk" => (refine' CallOK.T made_c ?ep ?ed ?eu; k_extra "my ee"))
  (k_with "my evk" => (refine' CallOK.I whole_near_c ?ep ?ed ?eu; k_extra "my ee"))
  (k_with "my evk" => (refine' CallOK.B fits_c ?ep ?ed ?eu; k_extra "my ee"))
  (k_with "my evk" => (refine' CallOK.I whole_of_ci ?ep ?ed ?eu; k_extra "my ee"))
  (k_with "my evk" => (refine' CallOK.I whole_of_ct ?ep ?ed ?eu; k_extra "my ee"))
  (k_with "my evk" => (refine' CallOK.T decimal_of_ci ?ep ?ed ?eu; k_extra "my ee"))
  (k_with "my evk" => (refine' CallOK.T decimal_of_ct ?ep ?ed ?eu; k_extra "my ee"))
  (k_with "my evk" => (refine' CallOK.T d_negated_c ?ep ?ed ?eu; k_extra "my ee"))
  (k_with "my evk" => (refine' CallOK.T3 alike_c ?ep ?ed ?eu; k_extra "my ee"))
  (k_with "my evk" => (refine' CallOK.T with_rest_c ?ep ?ed ?eu; k_extra "my ee"))
  (k_with "my evk" => (refine' CallOK.T d_add_c ?ep ?ed ?eu; k_extra "my ee"))
  (k_with "my evk" => (refine' CallOK.T d_mul_c ?ep ?ed ?eu; k_extra "my ee"))
  (k_with "my evk" => (refine' CallOK.T d_sub_c ?ep ?ed ?eu; k_extra "my ee"))
  (k_with "my evk" => (refine' CallOK.T d_div_c ?ep ?ed ?eu; k_extra "my ee"))
  (k_with "my evk" => (refine' CallOK.I d_compare_c ?ep ?ed ?eu; k_extra "my ee"))
  (k_with "my evk" => (refine' CallOK.T square_c ?ep ?ed ?eu; k_extra "my ee"))
  (k_with "my evk" => (refine' CallOK.T decimal_of_v ?ep ?ed ?eu; k_extra "my ee"))
  (k_with "my evk" => (refine' CallOK.I whole_of_v ?ep ?ed ?eu; k_extra "my ee"))
  (k_with "my evk" => (refine' CallOK.B is_whole_ci ?ep ?ed ?eu; k_extra "my ee"))
  (k_with "my evk" => (refine' CallOK.B is_whole_ct ?ep ?ed ?eu; k_extra "my ee"))
  (k_with "my evk" => (refine' CallOK.B is_whole_v ?ep ?ed ?eu; k_extra "my ee"))
  (k_with "my evk" => (refine' CallOK.V settled_c ?ep ?ed ?eu; k_extra "my ee"))
  (k_with "my evk" => (refine' CallOK.V whole_reckoned_c ?ep ?ed ?eu; k_extra "my ee"))
  (k_with "my evk" => (refine' CallOK.I cut_quotient_c ?ep ?ed ?eu; k_extra "my ee"))
  (k_with "my evk" => (refine' CallOK.I exponent_of_v ?ep ?ed ?eu; k_extra "my ee"))
  (k_with "my evk" => (refine' CallOK.V whole_power_c ?ep ?ed ?eu; k_extra "my ee"))
  (k_with "my evk" => (refine' CallOK.V whole_reckoned_v ?ep ?ed ?eu; k_extra "my ee"))
  (k_with "my evk" => (refine' CallOK.V whole_power_v ?ep ?ed ?eu; k_extra "my ee"))
  (k_with "my evk" => (refine' CallOK.T d_power_c ?ep ?ed ?eu; k_extra "my ee"))
  (k_with "my evk" => (refine' CallOK.T d_add_l ?ep ?ed ?eu; k_extra "my ee"))
  (k_with "my evk" => (refine' CallOK.T d_sub_l ?ep ?ed ?eu; k_extra "my ee"))
  (k_with "my evk" => (refine' CallOK.T d_mul_l ?ep ?ed ?eu; k_extra "my ee"))
  (k_with "my evk" => (refine' CallOK.T d_div_l ?ep ?ed ?eu; k_extra "my ee"))
  (k_with "my evk" => (refine' CallOK.I d_compare_l ?ep ?ed ?eu; k_extra "my ee"))
  (k_with "my evk" => (refine' CallOK.V negated_v ?ep ?ed ?eu; k_extra "my ee"))
  (k_with "my evk" => (refine' CallOK.I order_v ?ep ?ed ?eu; k_extra "my ee"))
  (k_with "my evk" => (refine' CallOK.B stands_c ?ep ?ed ?eu; k_extra "my ee"))
  (k_with "my evk" => (refine' CallOK.I inverted_c ?ep ?ed ?eu; k_extra "my ee"))
  (k_with "my evk" => (refine' CallOK.T dec_c ?ep ?ed ?eu; k_extra "my ee"))
  (k_with "call builtin:min" => (k_here; k_dflt (refine' call_min ?kz1_k9 ?kz2_k9 ?kz3_k9 ?_; (case kz1_k9 => rfl); (case kz2_k9 => k_asm); (case kz3_k9 => k_asm)); intro _ _ _ _ _))
  (k_with "call builtin:max" => (k_here; k_dflt (refine' call_max ?kz1_k9 ?kz2_k9 ?kz3_k9 ?_; (case kz1_k9 => rfl); (case kz2_k9 => k_asm); (case kz3_k9 => k_asm)); intro _ _ _ _ _))
  (k_with "binaryOp Pow int int" => (k_here; (with_reducible refine pow_int_small ?kz1_k9 ?kz2_k9 ?kz3_k9 ?_); (case kz1_k9 => omega); (case kz2_k9 => omega); (case kz3_k9 => first | decide | omega)))
  (k_with "call builtin:isinstance" => (k_here; k_dflt (first | (refine' isi_tup ?kz1_k9 ?kz2_k9 ?_; (case kz1_k9 => k_in); (case kz2_k9 => k_extra "my is_list")) | (refine' isi_tup_str ?kz1_k9 ?kz2_k9 ?_; (case kz1_k9 => k_in); (case kz2_k9 => k_extra "my is_list"))); intro _))
  (k_with "my is_list" => first | exact Has.t0 (by assumption) (by assumption) (by assumption) | exact Has.t1 (by assumption) (by assumption) (by assumption) | exact Has.t2 (by assumption) (by assumption) (by assumption) | exact Has.t3 (by assumption) (by assumption) (by assumption) | exact Fr.tup (by assumption) (by assumption) | exact News.isTup (by assumption) (by k_mem) | assumption)
  (k_with "subscriptTail" => (k_here; (with_reducible show wpAny _ _ (subscriptTail _ _ (Value.ref _) (Value.int _ _)) _ _ _); k_dflt (refine' item_tupleT ?kt_k9 ?k1_k9 ?k2_k9 ?k3_k9 ?k4_k9 ?_; (case kt_k9 => k_extra "my is_list"); (case k1_k9 => decide); (case k2_k9 => decide); (case k3_k9 => rfl); (case k4_k9 => rfl))))
  (k_with "my nw" => first | exact (by assumption) | exact (news_tl (by assumption)) | exact (news_tl (news_tl (by assumption))) | exact (news_tl (news_tl (news_tl (by assumption)))) | exact (news_tl (news_tl (news_tl (news_tl (by assumption))))) | exact (news_tl (news_tl (news_tl (news_tl (news_tl (by assumption)))))) | exact (news_tl (news_tl (news_tl (news_tl (news_tl (news_tl (by assumption))))))) | exact (news_tl (news_tl (news_tl (news_tl (news_tl (news_tl (news_tl (by assumption)))))))) | exact (news_tl (news_tl (news_tl (news_tl (news_tl (news_tl (news_tl (news_tl (by assumption))))))))) | exact (news_tl (news_tl (news_tl (news_tl (news_tl (news_tl (news_tl (news_tl (news_tl (by assumption)))))))))) | exact (news_tl (news_tl (news_tl (news_tl (news_tl (news_tl (news_tl (news_tl (news_tl (news_tl (by assumption))))))))))) | exact (news_tl (news_tl (news_tl (news_tl (news_tl (news_tl (news_tl (news_tl (news_tl (news_tl (news_tl (by assumption)))))))))))) | exact (news_tl (news_tl (news_tl (news_tl (news_tl (news_tl (news_tl (news_tl (news_tl (news_tl (news_tl (news_tl (by assumption))))))))))))) | exact (news_tl (news_tl (news_tl (news_tl (news_tl (news_tl (news_tl (news_tl (news_tl (news_tl (news_tl (news_tl (news_tl (by assumption)))))))))))))) | exact (news_tl (news_tl (news_tl (news_tl (news_tl (news_tl (news_tl (news_tl (news_tl (news_tl (news_tl (news_tl (news_tl (news_tl (by assumption))))))))))))))) | exact (news_tl (news_tl (news_tl (news_tl (news_tl (news_tl (news_tl (news_tl (news_tl (news_tl (news_tl (news_tl (news_tl (news_tl (news_tl (by assumption)))))))))))))))))
  (k_with "binaryOp Mult ref int" => (k_here; k_dflt (refine' KMa.mul ?F_k9 ?N_k9 ?l_k9 ?lo_k9 ?hi_k9 ?z_k9 ?e_k9 ?_; (case F_k9 => k_asm); (case N_k9 => k_asm); (case l_k9 => exact News.isList (by k_asm) (by k_mem)); (case lo_k9 => decide); (case hi_k9 => decide); (case z_k9 => (simp only [List.length_cons, List.length_nil]; decide)); (case e_k9 => exact rfl)); intro _ _ _ _ l8; (try k_lt l8)))
  trivial
theorem lawB4 {Q : Flow → Shared → Prop} (F : Fr h₀ L s.heap M) (m1 : M "a" = some (.int n ta)) (N : News h₀ L s.heap ((a9, tupO (lawDec (0 - n)).1 t9 (lawDec (0 - n)).2 v9) :: (L + 4, w4) :: (L + 3, w3) :: tl)) (d3 : w3.data = .cell (some v1)) (d4 : w4.data = .cell (some (.ref a9))) (hw : isW false s.heap s.heap (lawDec (0 - n)) v1) (tabl : TabL h₀ 309 laQ tl) (ht : h₀.get? 309 = none) (p8 : 309 < L)
    (X : (K w.params).In h₀) (T : TopM mean mg mb h₀) (hdp : dp + 20 < recursionLimit) (hu : un + 300 < cLine) (sn : Sm (0 - n))
    (hq : ∀ h' tk' M' tl', Fr h₀ L h' M' → (∀ x, M' x = M x) → News h₀ L h' ((L + 4, w4) :: (L + 3, w3) :: tl') → TabL h₀ 309 laQ tl' → (∀ p ∈ tl, p.1 ≠ 309 → p ∈ tl') → Q .next { s with heap := h', toks := tk' }) :
    wpAny (model Pg w) (AA dp un fr gd) (exec B4 (laEnv L fa)) Q (fun _ _ => False) s := by
  refine' la_in ?hb ?hs ?_
  (case hb => (conv => lhs; whnf))
  (case hs => (conv => lhs; whnf))
  have F1 := fr_pin F m1
  clear F
  try k_fold
  have e4 : L + 4 ≠ 309 := Nat.ne_of_gt (Nat.lt_of_lt_of_le p8 (Nat.le_add_right _ _))
  have e3 : L + 3 ≠ 309 := Nat.ne_of_gt (Nat.lt_of_lt_of_le p8 (Nat.le_add_right _ _))
  have e9 : a9 ≠ 309 := (tabl.more (fun p hp => .tail _ (.tail _ (.tail _ hp)))).but N (.head _) (fun vs z => nomatch z)
  have hp0 : ∀ p ∈ [(a9, tupO (lawDec (0 - n)).1 t9 (lawDec (0 - n)).2 v9), (L + 4, w4), (L + 3, w3)], p.1 ≠ 309 := fun p hp => by
    simp only [List.mem_cons, List.not_mem_nil, or_false] at hp
    rcases hp with rfl | rfl | rfl
    · exact e9
    · exact e4
    · exact e3
  k_extra "my k_steps"
  refine worth_law (x := "one") (c := L + 3) (v := v1) (p := lawDec (0 - n)) (pre := [(a9, tupO (lawDec (0 - n)).1 t9 (lawDec (0 - n)).2 v9), (L + 4, w4), (L + 3, w3)]) (tl := tl) F1 N hp0 tabl ht X T rfl (by decide) rfl rfl rfl (by decide) rfl (by decide) (by decide) ⟨w3, (N (L + 3, w3) (.tail _ (.tail _ (.head _)))).1, d3⟩ hw (by omega) (by omega) ?q1 ?q2
  case q1 =>
    intro a1 tt1 u1 dd1 k1 sl1 h' tk' tl1 F' N' T1 K1
    simp only [List.cons_append, List.nil_append] at N'
    clear N F1
    have ea : a1 ≠ 309 := (T1.more (fun p hp => .tail _ (.tail _ (.tail _ (.tail _ hp))))).but N' (.head _) (fun vs z => nomatch z)
    k_extra "my k_steps"
    refine worth_law (x := "other") (c := L + 4) (v := .ref a9) (p := lawDec (0 - n)) (pre := [_, _, _, _]) (tl := tl1) F' N' (List.forall_mem_cons.mpr ⟨ea, hp0⟩) T1 ht X T rfl (by decide) rfl rfl rfl (by decide) rfl (by decide) (by decide) ⟨w4, (N' (L + 4, w4) (.tail _ (.tail _ (.head _)))).1, d4⟩ (.inl ⟨a9, t9, v9, rfl, ⟨_, (N' (a9, _) (.tail _ (.head _))).1, rfl, _, rfl⟩, fun z => nomatch z⟩) (by omega) (by omega) ?r1 ?r2
    case r1 =>
      intro b tb' ub ddb kb slb h2 tk2 tl2 F2 N2 T2 K2
      simp only [List.cons_append, List.nil_append] at N2
      clear N' F'
      k_extra "my k_steps"
      all_goals first | (show Q _ _; exact hq _ _ _ tl2 (by k_asm) (pin_eq m1) (by k_extra "my nw") T2 (fun p hp z => K2 p (K1 p hp z) z))
    case r2 =>
      intro b h2 tk2 tl2 R2 F2 N2 T2 K2
      simp only [List.cons_append, List.nil_append] at N2
      clear N' F'
      k_extra "my k_steps"
      all_goals first | (show Q _ _; exact hq _ _ _ tl2 (by k_asm) (pin_eq m1) (by k_extra "my nw") T2 (fun p hp z => K2 p (K1 p hp z) z))
  case q2 =>
    intro a1 h' tk' tl1 R1 F' N' T1 K1
    simp only [List.cons_append, List.nil_append] at N'
    clear N F1
    k_extra "my k_steps"
    refine worth_law (x := "other") (c := L + 4) (v := .ref a9) (p := lawDec (0 - n)) (pre := [_, _, _]) (tl := tl1) F' N' hp0 T1 ht X T rfl (by decide) rfl rfl rfl (by decide) rfl (by decide) (by decide) ⟨w4, (N' (L + 4, w4) (.tail _ (.head _))).1, d4⟩ (.inl ⟨a9, t9, v9, rfl, ⟨_, (N' (a9, _) (.head _)).1, rfl, _, rfl⟩, fun z => nomatch z⟩) (by omega) (by omega) ?r1 ?r2
    case r1 =>
      intro b tb' ub ddb kb slb h2 tk2 tl2 F2 N2 T2 K2
      simp only [List.cons_append, List.nil_append] at N2
      clear N' F'
      k_extra "my k_steps"
      all_goals first | (show Q _ _; exact hq _ _ _ tl2 (by k_asm) (pin_eq m1) (by k_extra "my nw") T2 (fun p hp z => K2 p (K1 p hp z) z))
    case r2 =>
      intro b h2 tk2 tl2 R2 F2 N2 T2 K2
      simp only [List.cons_append, List.nil_append] at N2
      clear N' F'
      k_extra "my k_steps"
      all_goals first | (show Q _ _; exact hq _ _ _ tl2 (by k_asm) (pin_eq m1) (by k_extra "my nw") T2 (fun p hp z => K2 p (K1 p hp z) z))
end
end
section
set_option maxHeartbeats 8000000
noncomputable abbrev B2 : Stmt := (forB A3).getD 2 (.Pass default)
theorem pin_eq2 {M : Str → Option Value} {v u : Value} {y z : Str} (e : M y = some v) (e2 : M z = some u) : ∀ x, (if x = y then some v else if x = z then some u else M x) = M x := fun x => by
  split
  · rename_i q; rw [q, e]
  · split
    · rename_i q; rw [q, e2]
    · rfl
section
variable {w : World} {mean : ExcName → Option Value} {mg mb : Str → Option Value} {h₀ : Heap} {L fa : Addr} {n m bits : Int} {ta tm tb : Tok} {M : Str → Option Value} {w2 : Obj} {tl : List (Addr × Obj)} {s : Shared} {dp un : Nat} {gd : Option (List Code)}
theorem words28 : True := by
  (k_with "call ref" => (k_here; (with_reducible show wpAny _ _ (call (Value.ref 307) _) _ _ _); k_dflt (refine' Con.useB order_c ?zF ?zN ?zX ?zT ?zp ?zd ?zu ?_; k_extra "my cz"; (case zp => exact ⟨hn, hm⟩); (case zd => k_extra "my ktr_room"); (case zu => k_extra "my ktr_room")); intro h9 tk9 F9 N9))
  trivial
theorem lawB2 {Q : Flow → Shared → Prop} (F : Fr h₀ L s.heap M) (m1 : M "a" = some (.int n ta)) (m2 : M "b" = some (.int m tm)) (N : News h₀ L s.heap ((L + 2, w2) :: tl)) (d2 : w2.data = .cell (some (.int bits tb))) (tabl : TabL h₀ 299 prQ tl) (ht : h₀.get? 299 = none) (p9 : 299 < L)
    (X : (K w.params).In h₀) (T : TopM mean mg mb h₀) (hdp : dp + 40 < recursionLimit) (hu : un + 600 < cLine) (hn : n.natAbs < 10 ^ 5) (hm : m.natAbs < 10 ^ 5) (fn : fitsB n bits = true) (fm : fitsB m bits = true) (b1 : 4 ≤ bits) (b2 : bits ≤ 16)
    (hq : ∀ h' tk' M' tl', Fr h₀ L h' M' → (∀ x, M' x = M x) → News h₀ L h' ((L + 2, w2) :: tl') → TabL h₀ 299 prQ tl' → (∀ p ∈ tl, p.1 ≠ 299 → p ∈ tl') → Q .next { s with heap := h', toks := tk' }) :
    wpAny (model Pg w) (AA dp un (some [laEnv L fa]) gd) (exec B2 (laEnv L fa)) Q (fun _ _ => False) s := by
  have hes : ∃ fr0, fr0 = some [laEnv L fa] := ⟨_, rfl⟩
  obtain ⟨fr0, hfr⟩ := hes
  rw [← hfr]
  refine' la_in ?hb ?hs ?_
  (case hb => (conv => lhs; whnf))
  (case hs => (conv => lhs; whnf))
  have F1 := fr_pin2 F m1 m2
  clear F
  try k_fold
  k_extra "my k_steps"
  rename Fr _ _ _ _ => FX
  rename News _ _ _ _ => NX
  rw [hfr]
  refine pair_use (pre := [(L + 2, w2)]) (tl := tl) FX NX (fun p hp => by rw [List.mem_singleton.mp hp]; exact Nat.ne_of_gt (Nat.lt_of_lt_of_le p9 (Nat.le_add_right _ _))) tabl ht X T hn hm fn fm b1 b2 (by omega) (by omega) fun h' tk' tl' F' N' T' K' => ?_
  simp only [List.cons_append, List.nil_append] at N'
  clear NX FX
  rw [← hfr]
  k_extra "my k_steps"
  all_goals first | (show Q _ _; exact hq _ _ _ tl' (by k_asm) (pin_eq2 m1 m2) (by k_extra "my nw") T' K')
end
end
section
set_option maxHeartbeats 2000000
theorem fits_lt {n b : Int} (f : fitsB n b = true) (b2 : b ≤ 16) : n.natAbs < 10 ^ 5 := by
  obtain ⟨l, u⟩ := of_decide_eq_true f
  have p : (2 : Int) ^ (b - 1).toNat ≤ 2 ^ 15 := by
    have : (2 : Nat) ^ (b - 1).toNat ≤ 2 ^ 15 := Nat.pow_le_pow_right (by decide) (by omega)
    exact_mod_cast this
  have : (2 : Int) ^ 15 = 32768 := by decide
  omega
theorem fits_coin {n b : Int} (b1 : 4 ≤ b) (h0 : 0 ≤ n + 2 ^ (b - 1).toNat) (h1 : n + 2 ^ (b - 1).toNat < 2 ^ b.toNat) : fitsB n b = true := by
  have e : (2 : Int) ^ b.toNat = 2 ^ (b - 1).toNat * 2 := by
    rw [show b.toNat = (b - 1).toNat + 1 by omega, Int.pow_succ]
  exact decide_eq_true ⟨by omega, by omega⟩
theorem pow_room {b : Int} (b2 : b ≤ 16) : (1 : Int) ≤ 2 ^ b.toNat ∧ (2 : Int) ^ b.toNat ≤ 65536 := by
  have p0 : (0 : Int) < 2 ^ b.toNat := Int.pow_pos (by decide)
  have p1 : (2 : Int) ^ b.toNat ≤ 2 ^ 16 := by
    have : (2 : Nat) ^ b.toNat ≤ 2 ^ 16 := Nat.pow_le_pow_right (by decide) (by omega)
    exact_mod_cast this
  have : (2 : Int) ^ 16 = 65536 := by decide
  exact ⟨by omega, by omega⟩
theorem news_sub {h₀ h : Heap} {L : Addr} {l l' : List (Addr × Obj)} (N : News h₀ L h l) (k : ∀ p ∈ l', p ∈ l) : News h₀ L h l' := fun p hp => N p (k p hp)
theorem news_eq {h₀ h : Heap} {L : Addr} {l : List (Addr × Obj)} (N : News h₀ L h l) {x y : Addr × Obj} (hx : x ∈ l) (hy : y ∈ l) (e : x.1 = y.1) : x.2 = y.2 := by
  have a := (N x hx).1
  have b := (N y hy).1
  rw [e, b] at a
  exact (Option.some.inj a).symm
theorem news_app2 {h₀ h : Heap} {L : Addr} {l l' : List (Addr × Obj)} (N : News h₀ L h l) (N' : News h₀ L h l') : News h₀ L h (l ++ l') := fun p hp => (List.mem_append.mp hp).elim (N p) (N' p)
/-- the law's ledger between two statements of its loop -/
structure LSt (w : World) (h₀ h : Heap) (L P Cx I : Addr) (ys : List Value) (bits : Int) (tn : Tok) (M : Str → Option Value) (oI o w1 w2 w3 w4 : Obj) (k : Int) (tk0 : Tok) : Prop where
  fr : Fr h₀ L h M
  news : News h₀ L h [(Cx, LCg.lst ys), (P, o), (L + 4, w4), (L + 3, w3), (L + 2, w2), (L + 1, w1), (I, oI)]
  t9 : TabI 299 prQ h
  t8 : TabI 309 laQ h
  d1 : w1.data = .cell (some (.ref P))
  d2 : w2.data = .cell (some (.int bits tn))
  d3 : ∃ y, w3.data = .cell y
  d4 : ∃ y, w4.data = .cell y
  dI : ∃ vs, oI.data = .fields vs
  hD : o.IsDictOf (PySem.strKind Pg w) [("coins", .ref Cx), ("spent", .int k tk0)]
section
variable {w : World} {mean : ExcName → Option Value} {mg mb : Str → Option Value} {h₀ h : Heap} {L P Cx I fa : Addr} {ys : List Value} {ms : List Int} {bits k : Int} {tn tk0 : Tok} {M : Str → Option Value} {oI o w1 w2 w3 w4 : Obj}
/-- the two tables in the ledger -/
theorem LSt.tails (x : LSt w h₀ h L P Cx I ys bits tn M oI o w1 w2 w3 w4 k tk0) (h9 : h₀.get? 299 = none) (h8 : h₀.get? 309 = none) : ∃ tl, News h₀ L h tl ∧ TabL h₀ 299 prQ tl ∧ TabL h₀ 309 laQ tl ∧ ∀ p ∈ tl, ∃ vs, p.2.data = .fields vs := by
  obtain ⟨t1, N1, T1, _, _, z1⟩ := tail_of (tl := []) (outer := []) (base := h₀) x.t9 x.fr trivial (fun _ h => nomatch h) (fun _ h => nomatch h) h9
  obtain ⟨t2, N2, T2, _, _, z2⟩ := tail_of (tl := []) (outer := []) (base := h₀) x.t8 x.fr trivial (fun _ h => nomatch h) (fun _ h => nomatch h) h8
  refine ⟨t1 ++ t2, news_app2 N1 N2, T1.more fun p hp => List.mem_append_left _ hp, T2.more fun p hp => List.mem_append_right _ hp, fun p hp => ?_⟩
  rcases List.mem_append.mp hp with hp | hp
  · exact (z1 p hp).elim (fun h => nomatch h) id
  · exact (z2 p hp).elim (fun h => nomatch h) id
theorem LSt.pdict (x : LSt w h₀ h L P Cx I ys bits tn M oI o w1 w2 w3 w4 k tk0) : ∃ es ep, o.data = .dict es ep := let ⟨es, ep, _, dd, _⟩ := x.hD; ⟨es, ep, dd⟩
/-- apart of the purse -/
theorem LSt.apart (x : LSt w h₀ h L P Cx I ys bits tn M oI o w1 w2 w3 w4 k tk0) {tl : List (Addr × Obj)} (N : News h₀ L h tl) (z : ∀ p ∈ tl, ∃ vs, p.2.data = .fields vs) : ∀ p ∈ (Cx, LCg.lst ys) :: (L + 4, w4) :: (L + 3, w3) :: (L + 2, w2) :: (L + 1, w1) :: (I, oI) :: tl, p.1 ≠ P := by
  obtain ⟨es, ep, dd⟩ := x.pdict
  obtain ⟨y3, d3⟩ := x.d3
  obtain ⟨y4, d4⟩ := x.d4
  obtain ⟨vI, dI⟩ := x.dI
  have NA := news_app2 x.news N
  have mP : (P, o) ∈ [(Cx, LCg.lst ys), (P, o), (L + 4, w4), (L + 3, w3), (L + 2, w2), (L + 1, w1), (I, oI)] ++ tl := List.mem_append_left _ (.tail _ (.head _))
  have key : ∀ p ∈ [(Cx, LCg.lst ys), (P, o), (L + 4, w4), (L + 3, w3), (L + 2, w2), (L + 1, w1), (I, oI)] ++ tl, (∀ es ep, p.2.data ≠ .dict es ep) → p.1 ≠ P := fun p hp n e => n es ep (by rw [news_eq NA hp mP e]; exact dd)
  intro p hp
  rcases List.mem_cons.mp hp with rfl | hp
  · exact key _ (List.mem_append_left _ (.head _)) (fun _ _ q => nomatch q)
  rcases List.mem_cons.mp hp with rfl | hp
  · exact key _ (List.mem_append_left _ (.tail _ (.tail _ (.head _)))) (fun _ _ q => by dsimp only at q; rw [d4] at q; cases q)
  rcases List.mem_cons.mp hp with rfl | hp
  · exact key _ (List.mem_append_left _ (.tail _ (.tail _ (.tail _ (.head _))))) (fun _ _ q => by dsimp only at q; rw [d3] at q; cases q)
  rcases List.mem_cons.mp hp with rfl | hp
  · exact key _ (List.mem_append_left _ (.tail _ (.tail _ (.tail _ (.tail _ (.head _)))))) (fun _ _ q => by dsimp only at q; rw [x.d2] at q; cases q)
  rcases List.mem_cons.mp hp with rfl | hp
  · exact key _ (List.mem_append_left _ (.tail _ (.tail _ (.tail _ (.tail _ (.tail _ (.head _))))))) (fun _ _ q => by dsimp only at q; rw [x.d1] at q; cases q)
  rcases List.mem_cons.mp hp with rfl | hp
  · exact key _ (List.mem_append_left _ (.tail _ (.tail _ (.tail _ (.tail _ (.tail _ (.tail _ (.head _)))))))) (fun _ _ q => by dsimp only at q; rw [dI] at q; cases q)
  · obtain ⟨vs, d⟩ := z p hp
    exact key _ (List.mem_append_right _ hp) (fun _ _ q => by rw [d] at q; cases q)
/-- apart of the two cells -/
theorem LSt.cells (x : LSt w h₀ h L P Cx I ys bits tn M oI o w1 w2 w3 w4 k tk0) {tl : List (Addr × Obj)} (N : News h₀ L h tl) (z : ∀ p ∈ tl, ∃ vs, p.2.data = .fields vs) : ∀ p ∈ (Cx, LCg.lst ys) :: (P, o) :: (L + 1, w1) :: (I, oI) :: tl, p.1 ≠ L + 3 ∧ p.1 ≠ L + 4 := by
  obtain ⟨es, ep, dd⟩ := x.pdict
  obtain ⟨y3, d3⟩ := x.d3
  obtain ⟨y4, d4⟩ := x.d4
  obtain ⟨vI, dI⟩ := x.dI
  have NA := news_app2 x.news N
  have m4 : (L + 4, w4) ∈ [(Cx, LCg.lst ys), (P, o), (L + 4, w4), (L + 3, w3), (L + 2, w2), (L + 1, w1), (I, oI)] ++ tl := List.mem_append_left _ (.tail _ (.tail _ (.head _)))
  have m3 : (L + 3, w3) ∈ [(Cx, LCg.lst ys), (P, o), (L + 4, w4), (L + 3, w3), (L + 2, w2), (L + 1, w1), (I, oI)] ++ tl := List.mem_append_left _ (.tail _ (.tail _ (.tail _ (.head _))))
  have key : ∀ p ∈ [(Cx, LCg.lst ys), (P, o), (L + 4, w4), (L + 3, w3), (L + 2, w2), (L + 1, w1), (I, oI)] ++ tl, (∀ c, p.2.data ≠ .cell c) → p.1 ≠ L + 3 ∧ p.1 ≠ L + 4 := fun p hp n => ⟨fun e => n _ (by rw [news_eq NA hp m3 e]; exact d3), fun e => n _ (by rw [news_eq NA hp m4 e]; exact d4)⟩
  intro p hp
  rcases List.mem_cons.mp hp with rfl | hp
  · exact key _ (List.mem_append_left _ (.head _)) (fun _ q => nomatch q)
  rcases List.mem_cons.mp hp with rfl | hp
  · exact key _ (List.mem_append_left _ (.tail _ (.head _))) (fun _ q => by dsimp only at q; rw [dd] at q; cases q)
  rcases List.mem_cons.mp hp with rfl | hp
  · exact ⟨Nat.ne_of_lt (Nat.add_lt_add_left (by decide) L), Nat.ne_of_lt (Nat.add_lt_add_left (by decide) L)⟩
  rcases List.mem_cons.mp hp with rfl | hp
  · exact key _ (List.mem_append_left _ (.tail _ (.tail _ (.tail _ (.tail _ (.tail _ (.tail _ (.head _)))))))) (fun _ q => by dsimp only at q; rw [dI] at q; cases q)
  · obtain ⟨vs, d⟩ := z p hp
    exact key _ (List.mem_append_right _ hp) (fun _ q => by rw [d] at q; cases q)
end
end
section
set_option maxHeartbeats 2000000
theorem body7 : forB A3 = [B0, B1, B2, B3, B4, B5, B6] := by kernel_rfl
section
variable {h₀ h : Heap} {L : Addr} {a b c d e f g : Addr × Obj} {r : List (Addr × Obj)}
theorem bring5 (N : News h₀ L h (a :: b :: c :: d :: e :: r)) : News h₀ L h (e :: a :: b :: c :: d :: r) := news_sub N fun p hp => by
  rcases List.mem_cons.mp hp with rfl | hp
  · exact .tail _ (.tail _ (.tail _ (.tail _ (.head _))))
  rcases List.mem_cons.mp hp with rfl | hp
  · exact .head _
  rcases List.mem_cons.mp hp with rfl | hp
  · exact .tail _ (.head _)
  rcases List.mem_cons.mp hp with rfl | hp
  · exact .tail _ (.tail _ (.head _))
  rcases List.mem_cons.mp hp with rfl | hp
  · exact .tail _ (.tail _ (.tail _ (.head _)))
  · exact .tail _ (.tail _ (.tail _ (.tail _ (.tail _ hp))))
theorem bring345 (N : News h₀ L h (a :: b :: c :: d :: e :: r)) : News h₀ L h (c :: d :: e :: a :: b :: r) := news_sub N fun p hp => by
  rcases List.mem_cons.mp hp with rfl | hp
  · exact .tail _ (.tail _ (.head _))
  rcases List.mem_cons.mp hp with rfl | hp
  · exact .tail _ (.tail _ (.tail _ (.head _)))
  rcases List.mem_cons.mp hp with rfl | hp
  · exact .tail _ (.tail _ (.tail _ (.tail _ (.head _))))
  rcases List.mem_cons.mp hp with rfl | hp
  · exact .head _
  rcases List.mem_cons.mp hp with rfl | hp
  · exact .tail _ (.head _)
  · exact .tail _ (.tail _ (.tail _ (.tail _ (.tail _ hp))))
end
section
variable {w : World} {mean : ExcName → Option Value} {mg mb : Str → Option Value} {h₀ h h' : Heap} {L P Cx I fa : Addr} {ys : List Value} {ms : List Int} {bits k turn : Int} {tn tk0 tt : Tok} {M M' : Str → Option Value} {oI o w1 w2 w3 w4 : Obj} {s : Shared} {dp un : Nat} {gd : Option (List Code)}
theorem seven_of {tl : List (Addr × Obj)} (N : News h₀ L h' tl) (m1 : (Cx, LCg.lst ys) ∈ tl) (m2 : (P, o) ∈ tl) (m3 : (L + 4, w4) ∈ tl) (m4 : (L + 3, w3) ∈ tl) (m5 : (L + 2, w2) ∈ tl) (m6 : (L + 1, w1) ∈ tl) (m7 : (I, oI) ∈ tl) : News h₀ L h' [(Cx, LCg.lst ys), (P, o), (L + 4, w4), (L + 3, w3), (L + 2, w2), (L + 1, w1), (I, oI)] := news_sub N fun p hp => by
  simp only [List.mem_cons, List.not_mem_nil, or_false] at hp
  rcases hp with rfl | rfl | rfl | rfl | rfl | rfl | rfl <;> assumption
/-- the seven lie apart of a table -/
theorem LSt.off (x : LSt w h₀ h L P Cx I ys bits tn M oI o w1 w2 w3 w4 k tk0) {tab : Addr} {q : Str} (t : TabI tab q h) (hI : I ≠ tab) : Cx ≠ tab ∧ P ≠ tab ∧ L + 4 ≠ tab ∧ L + 3 ≠ tab ∧ L + 2 ≠ tab ∧ L + 1 ≠ tab ∧ I ≠ tab := by
  obtain ⟨es, ep, dd⟩ := x.pdict
  obtain ⟨y3, d3⟩ := x.d3
  obtain ⟨y4, d4⟩ := x.d4
  obtain ⟨ps, g, _⟩ := t
  have key : ∀ p ∈ [(Cx, LCg.lst ys), (P, o), (L + 4, w4), (L + 3, w3), (L + 2, w2), (L + 1, w1), (I, oI)], (∀ vs, p.2.data ≠ .fields vs) → p.1 ≠ tab := fun p hp n e => by
    have y := (x.news p hp).1
    rw [e, g] at y
    exact n ps (by rw [← Option.some.inj y])
  refine ⟨?_, ?_, ?_, ?_, ?_, ?_, hI⟩
  · exact key _ (.head _) (fun _ q => nomatch q)
  · exact key _ (.tail _ (.head _)) (fun _ q => by dsimp only at q; rw [dd] at q; cases q)
  · exact key _ (.tail _ (.tail _ (.head _))) (fun _ q => by dsimp only at q; rw [d4] at q; cases q)
  · exact key _ (.tail _ (.tail _ (.tail _ (.head _)))) (fun _ q => by dsimp only at q; rw [d3] at q; cases q)
  · exact key _ (.tail _ (.tail _ (.tail _ (.tail _ (.head _))))) (fun _ q => by dsimp only at q; rw [x.d2] at q; cases q)
  · exact key _ (.tail _ (.tail _ (.tail _ (.tail _ (.tail _ (.head _)))))) (fun _ q => by dsimp only at q; rw [x.d1] at q; cases q)
inductive LEnd (w : World) (h₀ : Heap) (L P Cx I : Addr) (ys : List Value) (bits : Int) (tn : Tok) (oI : Obj) (k : Int) (s : Shared) (f : Flow) (s' : Shared) : Prop
  | mk (ef : f = .next) (h' : Heap) (tk' : Nat) (M' : Str → Option Value) (o' w1' w2' w3' w4' : Obj) (k' : Int) (t' : Tok) (es : s' = { s with heap := h', toks := tk' }) (x : LSt w h₀ h' L P Cx I ys bits tn M' oI o' w1' w2' w3' w4' k' t') (k1 : k ≤ k') (k2 : k' ≤ k + 3)
/-- statements 4, 5 and 6 of a turn -/
theorem lawTail {n : Int} {ta : Tok} {v1 : Value} {a9 : Addr} {u9 v9 : Tok} {kk : Int} {s0 : Shared} {hh : Heap} {tk : Nat} (es : s = { s0 with heap := hh, toks := tk }) (x : LSt w h₀ s.heap L P Cx I ys bits tn M oI o w1 w2 w3 w4 k tk0) (m1 : M "a" = some (.int n ta)) (N9 : News h₀ L s.heap [(a9, tupO (lawDec (0 - n)).1 u9 (lawDec (0 - n)).2 v9)]) (d3 : w3.data = .cell (some v1)) (d4 : w4.data = .cell (some (.ref a9))) (hw : isW false s.heap s.heap (lawDec (0 - n)) v1)
    (hk : kk ≤ k ∧ k ≤ kk + 3) (b1 : 4 ≤ bits) (b2 : bits ≤ 16) (fn : fitsB n bits = true) (X : (K w.params).In h₀) (T : TopM mean mg mb h₀) (h9 : h₀.get? 299 = none) (h8 : h₀.get? 309 = none) (p9 : 299 < L) (p8 : 309 < L) (hI9 : I ≠ 299) (hI8 : I ≠ 309) (hdp : dp + 40 < recursionLimit) (hu : un + 600 < cLine) :
    wpAny (model Pg w) (AA dp un (some [laEnv L fa]) gd) (execs [B4, B5, B6] (laEnv L fa)) (LEnd w h₀ L P Cx I ys bits tn oI kk s0) (fun _ _ => False) s := by
  have hn := fits_lt fn b2
  have sn : Sm n := Sm.le (k := 5) (Nat.le_of_lt hn) (by decide)
  have sn' : Sm (0 - n) := Sm.le (k := 5) (by omega) (by decide)
  have hn2 : n.natAbs < 10 ^ 29 := Nat.lt_of_lt_of_le hn (Nat.pow_le_pow_right (by decide) (by decide))
  obtain ⟨tl, NT, T9, T8, zt⟩ := x.tails h9 h8
  have NA := news_app2 N9 (bring345 (news_app2 x.news NT))
  have big : ∀ p ∈ tl, p ∈ (L + 2, w2) :: (Cx, LCg.lst ys) :: (P, o) :: (L + 1, w1) :: (I, oI) :: tl := fun p hp => .tail _ (.tail _ (.tail _ (.tail _ (.tail _ hp))))
  obtain ⟨z1, z2, z3, z4, z5, z6, z7⟩ := x.off x.t8 hI8
  refine wpAny_execs_cons (lawB4 (tl := (L + 2, w2) :: (Cx, LCg.lst ys) :: (P, o) :: (L + 1, w1) :: (I, oI) :: tl) x.fr m1 NA d3 d4 hw (T8.more big) h8 p8 X T (by omega) (by omega) sn' fun h5 tk5 M5 tl5 F5 e5 N5 T85 K5 => ?_)
  have NB : News h₀ L s.heap ((L + 2, w2) :: (Cx, LCg.lst ys) :: (P, o) :: (L + 1, w1) :: (I, oI) :: tl) := news_sub NA fun p hp => .tail _ (.tail _ (.tail _ hp))
  have T95 : TabL h₀ 299 prQ tl5 := TabL.two (T9.more big) NB x.t8 (by decide) K5
  have N5t : News h₀ L h5 tl5 := fun p hp => N5 p (.tail _ (.tail _ hp))
  have x5 : LSt w h₀ h5 L P Cx I ys bits tn M5 oI o w1 w2 w3 w4 k tk0 := ⟨F5, seven_of N5 (.tail _ (.tail _ (K5 _ (.tail _ (.head _)) z1))) (.tail _ (.tail _ (K5 _ (.tail _ (.tail _ (.head _))) z2))) (.head _) (.tail _ (.head _)) (.tail _ (.tail _ (K5 _ (.head _) z5))) (.tail _ (.tail _ (K5 _ (.tail _ (.tail _ (.tail _ (.head _)))) z6))) (.tail _ (.tail _ (K5 _ (.tail _ (.tail _ (.tail _ (.tail _ (.head _))))) z7))),
    T95.tabI F5 N5t, T85.tabI F5 N5t, x.d1, x.d2, x.d3, x.d4, x.dI, x.hD⟩
  obtain ⟨tl6, NT6, T96, T86, _⟩ := x5.tails h9 h8
  have a5 : M5 "a" = some (.int n ta) := (e5 _).trans m1
  refine wpAny_execs_cons (lawB5 (news := (Cx, LCg.lst ys) :: (P, o) :: (L + 4, w4) :: (L + 3, w3) :: (L + 1, w1) :: (I, oI) :: tl6) F5 a5 (bring5 (news_app2 x5.news NT6)) x.d2 X T (by omega) (by omega) hn sn b1 b2 fn hn2 fun h6 tk6 M6 F6 e6 N6 => ?_)
  have a6 : M6 "a" = some (.int n ta) := (e6 _).trans a5
  refine wpAny_execs_cons (lawB6 (news := (Cx, LCg.lst ys) :: (P, o) :: (L + 4, w4) :: (L + 3, w3) :: (L + 1, w1) :: (I, oI) :: tl6) F6 a6 N6 x.d2 X T (by omega) (by omega) hn sn b1 b2 fn (fits_zero b1) fun h7 tk7 M7 F7 e7 N7 => ?_)
  refine wpAny_execs_nil ?_
  have N7t : News h₀ L h7 tl6 := fun p hp => N7 p (.tail _ (.tail _ (.tail _ (.tail _ (.tail _ (.tail _ (.tail _ hp)))))))
  subst es
  refine ⟨rfl, h7, tk7, M7, o, w1, w2, w3, w4, k, tk0, rfl, ⟨F7, seven_of N7 (.tail _ (.head _)) (.tail _ (.tail _ (.head _))) (.tail _ (.tail _ (.tail _ (.head _)))) (.tail _ (.tail _ (.tail _ (.tail _ (.head _))))) (.head _) (.tail _ (.tail _ (.tail _ (.tail _ (.tail _ (.head _)))))) (.tail _ (.tail _ (.tail _ (.tail _ (.tail _ (.tail _ (.head _))))))),
    T96.tabI F7 N7t, T86.tabI F7 N7t, x.d1, x.d2, x.d3, x.d4, x.dI, x.hD⟩, hk.1, hk.2⟩
/-- a turn of the law -/
theorem lawTurn (x : LSt w h₀ s.heap L P Cx I ys bits tn M oI o w1 w2 w3 w4 k tk0) (m3 : M "turn" = some (.int turn tt)) (hI : IntsAre ys ms) (hlen : ys.length ≤ 40) (hlen2 : ms.length = ys.length) (k0 : 0 ≤ k) (k1 : k ≤ 900) (b1 : 4 ≤ bits) (b2 : bits ≤ 16) (X : (K w.params).In h₀) (T : TopM mean mg mb h₀)
    (h9 : h₀.get? 299 = none) (h8 : h₀.get? 309 = none) (p9 : 299 < L) (p8 : 309 < L) (hI9 : I ≠ 299) (hI8 : I ≠ 309) (hdp : dp + 40 < recursionLimit) (hu : un + 600 < cLine) :
    wpAny (model Pg w) (AA dp un (some [laEnv L fa]) gd) (execs (forB A3) (laEnv L fa)) (LEnd w h₀ L P Cx I ys bits tn oI k s) (fun _ _ => False) s := by
  rw [body7]
  obtain ⟨q1, q2⟩ := pow_room b2
  obtain ⟨tl, NT, T9, T8, zt⟩ := x.tails h9 h8
  have hap := x.apart NT zt
  refine wpAny_execs_cons (lawB0 x.fr m3 (news_app2 x.news NT) x.d1 x.d2 x.hD hI hlen hlen2 hap k0 k1 b1 b2 q1 q2 X T (by omega) (by omega) fun h1 tk1 M1 n m ta tb o1 t1 n0 n1 m0 m1 F1 a1 c1 u1 N1 D1 => ?_)
  have fn := fits_coin b1 n0 n1
  have fm := fits_coin b1 m0 m1
  refine wpAny_execs_cons (lawB1 (rest := (I, oI) :: tl) F1 a1 c1 u1 N1 x.d1 x.d2 D1 hI hlen hlen2 hap (by omega) (by omega) X T (by omega) (by omega) fn fm b1 fun h2 tk2 M2 m2 tb2 o2 k2 t2 ek2 fm2 F2 a2 c2 N2 D2 => ?_)
  have hn := fits_lt fn b2
  have hm := fits_lt fm2 b2
  have big : ∀ p ∈ tl, p ∈ (Cx, LCg.lst ys) :: (P, o2) :: (L + 4, w4) :: (L + 3, w3) :: (L + 1, w1) :: (I, oI) :: tl := fun p hp => .tail _ (.tail _ (.tail _ (.tail _ (.tail _ (.tail _ hp)))))
  have NB := bring5 N2
  have N2t : News h₀ L h2 tl := fun p hp => NB p (.tail _ (big p hp))
  have x2 : LSt w h₀ h2 L P Cx I ys bits tn M2 oI o2 w1 w2 w3 w4 k2 t2 := ⟨F2, news_sub N2 (fun p hp => by
    simp only [List.mem_cons, List.not_mem_nil, or_false] at hp
    rcases hp with rfl | rfl | rfl | rfl | rfl | rfl | rfl
    · exact .head _
    · exact .tail _ (.head _)
    · exact .tail _ (.tail _ (.head _))
    · exact .tail _ (.tail _ (.tail _ (.head _)))
    · exact .tail _ (.tail _ (.tail _ (.tail _ (.head _))))
    · exact .tail _ (.tail _ (.tail _ (.tail _ (.tail _ (.head _)))))
    · exact .tail _ (.tail _ (.tail _ (.tail _ (.tail _ (.tail _ (.head _))))))), T9.tabI F2 N2t, T8.tabI F2 N2t, x.d1, x.d2, x.d3, x.d4, x.dI, D2⟩
  obtain ⟨z1, z2, z3, z4, z5, z6, z7⟩ := x2.off x2.t9 hI9
  refine wpAny_execs_cons (lawB2 (tl := (Cx, LCg.lst ys) :: (P, o2) :: (L + 4, w4) :: (L + 3, w3) :: (L + 1, w1) :: (I, oI) :: tl) F2 a2 c2 NB x.d2 (T9.more big) h9 p9 X T (by omega) (by omega) hn hm fn fm2 b1 b2 fun h3 tk3 M3 tl3 F3 e3 N3 T93 K3 => ?_)
  have T83 : TabL h₀ 309 laQ tl3 := TabL.two (T8.more big) (fun p hp => NB p (.tail _ hp)) x2.t9 (by decide) K3
  have N3t : News h₀ L h3 tl3 := fun p hp => N3 p (.tail _ hp)
  have a3 : M3 "a" = some (.int n ta) := (e3 _).trans a2
  have x3 : LSt w h₀ h3 L P Cx I ys bits tn M3 oI o2 w1 w2 w3 w4 k2 t2 := ⟨F3, seven_of N3 (.tail _ (K3 _ (.head _) z1)) (.tail _ (K3 _ (.tail _ (.head _)) z2)) (.tail _ (K3 _ (.tail _ (.tail _ (.head _))) z3)) (.tail _ (K3 _ (.tail _ (.tail _ (.tail _ (.head _)))) z4)) (.head _) (.tail _ (K3 _ (.tail _ (.tail _ (.tail _ (.tail _ (.head _))))) z6)) (.tail _ (K3 _ (.tail _ (.tail _ (.tail _ (.tail _ (.tail _ (.head _)))))) z7)),
    T93.tabI F3 N3t, T83.tabI F3 N3t, x.d1, x.d2, x.d3, x.d4, x.dI, D2⟩
  obtain ⟨tl4, NT4, T94, T84, zt4⟩ := x3.tails h9 h8
  have hnn := x3.cells NT4 zt4
  obtain ⟨y3, d3⟩ := x.d3
  obtain ⟨y4, d4⟩ := x.d4
  have sn : Sm n := Sm.le (k := 5) (Nat.le_of_lt hn) (by decide)
  have sn' : Sm (0 - n) := Sm.le (k := 5) (by omega) (by decide)
  have hn29 : (0 - n).natAbs < 10 ^ 29 := by
    have : n.natAbs < 10 ^ 29 := Nat.lt_of_lt_of_le hn (Nat.pow_le_pow_right (by decide) (by decide))
    omega
  have N4 := bring345 (news_app2 x3.news NT4)
  have N4' : News h₀ L h3 ((L + 4, w4) :: (L + 3, w3) :: (L + 2, w2) :: (Cx, LCg.lst ys) :: (P, o2) :: (L + 1, w1) :: (I, oI) :: tl4) := N4
  have hN2 : ∀ a t2 t3, Con w mean mg mb 227 [.ref a, .int bits t2, .int 30 t3] 5 80 (fun h => isV h true n (.ref a)) (OutT (lawDec (0 - n))) := fun a t2 t3 => (negated_v (k := true) (n := n) (b := bits) (d := 30)).mono (fun h y => ⟨y, by omega, by omega, hn29, by decide⟩) (fun _ _ _ o => o) (Nat.le_refl _) (Nat.le_refl _)
  have hk2 : k ≤ k2 ∧ k2 ≤ k + 3 := by omega
  have cont : ∀ (h5 : Heap) (tk5 : Nat) M5 v1 a9 u9 v9 w3' w4', Fr h₀ L h5 M5 → (∀ x, M5 x = M3 x) → News h₀ L h5 ((a9, tupO (lawDec (0 - n)).1 u9 (lawDec (0 - n)).2 v9) :: (L + 4, w4') :: (L + 3, w3') :: (L + 2, w2) :: (Cx, LCg.lst ys) :: (P, o2) :: (L + 1, w1) :: (I, oI) :: tl4) → w3'.data = .cell (some v1) → w4'.data = .cell (some (.ref a9)) → isW false h5 h5 (lawDec (0 - n)) v1 →
      wpAny (model Pg w) (AA dp un (some [laEnv L fa]) gd) (execs [B4, B5, B6] (laEnv L fa)) (LEnd w h₀ L P Cx I ys bits tn oI k s) (fun _ _ => False) { s with heap := h5, toks := tk5 } := fun h5 tk5 M5 v1 a9 u9 v9 w3' w4' F5 e5 N5 d3' d4' hw => by
    have N5t : News h₀ L h5 tl4 := fun p hp => N5 p (.tail _ (.tail _ (.tail _ (.tail _ (.tail _ (.tail _ (.tail _ (.tail _ hp))))))))
    have x5 : LSt w h₀ h5 L P Cx I ys bits tn M5 oI o2 w1 w2 w3' w4' k2 t2 := ⟨F5, seven_of N5 (.tail _ (.tail _ (.tail _ (.tail _ (.head _))))) (.tail _ (.tail _ (.tail _ (.tail _ (.tail _ (.head _)))))) (.tail _ (.head _)) (.tail _ (.tail _ (.head _))) (.tail _ (.tail _ (.tail _ (.head _)))) (.tail _ (.tail _ (.tail _ (.tail _ (.tail _ (.tail _ (.head _))))))) (.tail _ (.tail _ (.tail _ (.tail _ (.tail _ (.tail _ (.tail _ (.head _)))))))),
      T94.tabI F5 N5t, T84.tabI F5 N5t, x.d1, x.d2, ⟨_, d3'⟩, ⟨_, d4'⟩, x.dI, D2⟩
    exact lawTail (s := { s with heap := h5, toks := tk5 }) (s0 := s) rfl x5 ((e5 _).trans a3) (news_sub N5 fun p hp => by rw [List.mem_singleton.mp hp]; exact .head _) d3' d4' hw hk2 b1 b2 fn X T h9 h8 p9 p8 hI9 hI8 hdp hu
  cases hf : fitsB (0 - n) bits with
  | true =>
    refine wpAny_execs_cons (lawB3_i (news := (Cx, LCg.lst ys) :: (P, o2) :: (L + 1, w1) :: (I, oI) :: tl4) F3 a3 N4' x.d2 d3 d4 X T (by omega) (by omega) sn hnn (fun h5 tk5 M5 v1 a9 u9 v9 w3' w4' F5 e5 N5 d3' d4' ev => ?_) (fun t1 t2 t3 => (negated_v (k := false) (n := n) (b := bits) (d := 30)).mono (fun h _ => ⟨⟨_, rfl⟩, by omega, by omega, hn29, by decide⟩) (fun _ _ _ o => by rw [hf] at o; exact o) (Nat.le_refl _) (Nat.le_refl _)) hN2)
    obtain ⟨t, rfl⟩ := ev
    exact cont h5 tk5 M5 _ a9 u9 v9 w3' w4' F5 e5 N5 d3' d4' (.inr ⟨0 - n, t, rfl, sn', rfl⟩)
  | false =>
    refine wpAny_execs_cons (lawB3_t (news := (Cx, LCg.lst ys) :: (P, o2) :: (L + 1, w1) :: (I, oI) :: tl4) F3 a3 N4' x.d2 d3 d4 X T (by omega) (by omega) sn hnn (fun h5 tk5 M5 v1 a9 u9 v9 a8 u8 v8 w3' w4' F5 e5 N5 d3' d4' ev => ?_) (fun t1 t2 t3 => (negated_v (k := false) (n := n) (b := bits) (d := 30)).mono (fun h _ => ⟨⟨_, rfl⟩, by omega, by omega, hn29, by decide⟩) (fun _ _ _ o => by rw [hf] at o; exact o) (Nat.le_refl _) (Nat.le_refl _)) hN2)
    subst ev
    refine cont h5 tk5 M5 _ a9 u9 v9 w3' w4' F5 e5 (news_sub N5 fun p hp => ?_) d3' d4' (.inl ⟨a8, u8, v8, rfl, ⟨_, (N5 (a8, _) (.tail _ (.head _))).1, rfl, _, rfl⟩, fun z => nomatch z⟩)
    rcases List.mem_cons.mp hp with rfl | hp
    · exact .head _
    · exact .tail _ (.tail _ hp)
end
end
section
set_option maxHeartbeats 8000000
section
variable {w : World} {mean : ExcName → Option Value} {mg mb : Str → Option Value} {h₀ h h' : Heap} {L P Cx I fa : Addr} {ys : List Value} {ms : List Int} {bits k turn : Int} {tn tk0 tt : Tok} {M M' : Str → Option Value} {oI o w1 w2 w3 w4 : Obj} {s : Shared} {dp un : Nat} {gd : Option (List Code)}
theorem TabI.iter {tab : Addr} {q : Str} {a b c : Int} (x : TabI tab q h) (n : tab ≠ I) (st : IsRangeIter h I a b c) (k : ∀ b o, b ∉ [I] → h.get? b = some o → h'.get? b = some o) : TabI tab q h' :=
  x.but n (fun o vs q t e d v => by rw [show h.get? I = _ from st] at e; cases e; cases d; simp [rawInt] at v) fun b o vs nb e _ => k b o (by simpa using nb) e
/-- between two turns of the law's loop -/
structure LJ (w : World) (h₀ h : Heap) (L P Cx : Addr) (ys : List Value) (bits : Int) (tn : Tok) (M : Str → Option Value) (o w1 w2 w3 w4 : Obj) (k : Int) (tk0 : Tok) : Prop where
  fr : Fr h₀ L h M
  news : News h₀ L h [(Cx, LCg.lst ys), (P, o), (L + 4, w4), (L + 3, w3), (L + 2, w2), (L + 1, w1)]
  t9 : TabI 299 prQ h
  t8 : TabI 309 laQ h
  d1 : w1.data = .cell (some (.ref P))
  d2 : w2.data = .cell (some (.int bits tn))
  d3 : ∃ y, w3.data = .cell y
  d4 : ∃ y, w4.data = .cell y
  hD : o.IsDictOf (PySem.strKind Pg w) [("coins", .ref Cx), ("spent", .int k tk0)]
/-- between two turns -/
inductive LwJ (w : World) (h₀ : Heap) (L P Cx : Addr) (ys : List Value) (bits : Int) (tn : Tok) (i : Nat) (h : Heap) : Prop
  | mk (M' : Str → Option Value) (o' w1' w2' w3' w4' : Obj) (k' : Int) (t' : Tok) (x : LJ w h₀ h L P Cx ys bits tn M' o' w1' w2' w3' w4' k' t') (z0 : 0 ≤ k') (z1 : k' ≤ 1 + 3 * (i : Int))
theorem law_loop {p : Pos} {Q : Flow → Shared → Prop} {r : Addr} {u v t : Tok} (x : LJ w h₀ s.heap L P Cx ys bits tn M o w1 w2 w3 w4 k tk0) (hr : IsRange s.heap r 0 3 1 t u v) (hI : IntsAre ys ms) (hlen : ys.length ≤ 40) (hlen2 : ms.length = ys.length) (k0 : 0 ≤ k) (k1 : k ≤ 1) (b1 : 4 ≤ bits) (b2 : bits ≤ 16) (X : (K w.params).In h₀) (T : TopM mean mg mb h₀)
    (h9 : h₀.get? 299 = none) (h8 : h₀.get? 309 = none) (p9 : 299 < L) (p8 : 309 < L) (hdp : dp + 40 < recursionLimit) (hu : un + 600 < cLine)
    (fin : ∀ h' tk' M', Fr h₀ L h' M' → TabI 299 prQ h' → TabI 309 laQ h' → Q .next { s with heap := h', toks := tk' }) :
    wpAny (model Pg w) (AA dp un (some [laEnv L fa]) gd) (pyIter (.ref r)) (fun it s₂ => LoopIn Pg w (AA dp un (some [laEnv L fa]) gd) (laEnv L fa) (.Name "turn" p) (forB A3) Q (fun _ _ => False) it s₂) (fun _ _ => False) s := by
  refine wpAny_pyIter_range hr (by decide +kernel) ?_
  rw [show Builtin.Range.rangeSize 0 3 1 = 3 by decide +kernel]
  have old : ∀ b o, s.heap.get? b = some o → b ≠ s.heap.objs.size := fun b o e => Nat.ne_of_lt (Heap.lt_size e)
  have hI0 : h₀.get? s.heap.objs.size = none := by
    cases z : h₀.get? s.heap.objs.size with
    | none => rfl
    | some o => exact absurd rfl (old _ _ (x.fr.keep _ _ z))
  have hL : L ≠ s.heap.objs.size := by obtain ⟨o, _, _, g, _⟩ := x.fr.ns; exact old _ _ g
  have n9 : 299 ≠ s.heap.objs.size := by obtain ⟨ps, g, _⟩ := x.t9; exact old _ _ g
  have n8 : 309 ≠ s.heap.objs.size := by obtain ⟨ps, g, _⟩ := x.t8; exact old _ _ g
  have c1 : Cx ≠ s.heap.objs.size := old _ _ (x.news _ (.head _)).1
  have c2 : P ≠ s.heap.objs.size := old _ _ (x.news _ (.tail _ (.head _))).1
  have c3 : L + 4 ≠ s.heap.objs.size := old _ _ (x.news _ (.tail _ (.tail _ (.head _)))).1
  have c4 : L + 3 ≠ s.heap.objs.size := old _ _ (x.news _ (.tail _ (.tail _ (.tail _ (.head _))))).1
  have c5 : L + 2 ≠ s.heap.objs.size := old _ _ (x.news _ (.tail _ (.tail _ (.tail _ (.tail _ (.head _)))))).1
  have c6 : L + 1 ≠ s.heap.objs.size := old _ _ (x.news _ (.tail _ (.tail _ (.tail _ (.tail _ (.tail _ (.head _))))))).1
  have up : ∀ b o, s.heap.get? b = some o → (s.heap.push { cls := .type "range_iterator", data := .fields #[rawInt 0, rawInt 3, rawInt 1] }).get? b = some o := fun b o e => Heap.get?_push_of_some _ e
  have x1 : LJ w h₀ (s.heap.push { cls := .type "range_iterator", data := .fields #[rawInt 0, rawInt 3, rawInt 1] }) L P Cx ys bits tn M o w1 w2 w3 w4 k tk0 :=
    ⟨x.fr.push _, fun p hp => ⟨up _ _ (x.news p hp).1, (x.news p hp).2⟩, x.t9.keeps fun b o vs e _ => up b o e, x.t8.keeps fun b o vs e _ => up b o e, x.d1, x.d2, x.d3, x.d4, x.hD⟩
  have it0 : IsRangeIter (s.heap.push { cls := .type "range_iterator", data := .fields #[rawInt 0, rawInt 3, rawInt 1] }) s.heap.objs.size (0 + (0 : Nat) * 1) (((3 : Nat) : Int) - (0 : Nat)) 1 := by
    rw [show (0 : Int) + (0 : Nat) * 1 = 0 by rfl, show ((3 : Nat) : Int) - (0 : Nat) = 3 by omega]
    exact Heap.get?_push_size _ rfl
  clear x up old hr
  generalize s.heap.objs.size = I at *
  generalize s.heap.push { cls := .type "range_iterator", data := .fields #[rawInt 0, rawInt 3, rawInt 1] } = h1' at *
  refine ⟨I, [I], [I], 3, _, _, fun i h => LwJ w h₀ L P Cx ys bits tn i h, rfl, Walks.range rfl I 0 1 3, fun i s' v Q' E' _ _ hq => ?_, it0, ⟨M, o, w1, w2, w3, w4, k, tk0, x1, k0, by omega⟩, ?_, ?_, ?_⟩
  · exact wpAny_pure hq
  · rintro i h h' ⟨M', o', w1', w2', w3', w4', k', t', x, z0, z1⟩ st kk
    refine ⟨M', o', w1', w2', w3', w4', k', t', ⟨⟨ns_move x.fr.ns fun o e => kk _ o (by simpa using hL) e, fun b o e => kk b o (by simpa using fun z => by rw [z, hI0] at e; cases e) (x.fr.keep b o e), x.fr.above⟩, fun p hp => ⟨kk _ _ (fun hm => ?_) (x.news p hp).1, (x.news p hp).2⟩, x.t9.iter n9 st kk, x.t8.iter n8 st kk, x.d1, x.d2, x.d3, x.d4, x.hD⟩, z0, z1⟩
    have hm := List.mem_singleton.mp hm
    simp only [List.mem_cons, List.not_mem_nil, or_false] at hp
    rcases hp with rfl | rfl | rfl | rfl | rfl | rfl
    · exact c1 hm
    · exact c2 hm
    · exact c3 hm
    · exact c4 hm
    · exact c5 hm
    · exact c6 hm
  · rintro i v h tk hi ⟨tv, rfl⟩ ⟨M', o', w1', w2', w3', w4', k', t', x, z0, z1⟩ st
    refine wpAny_assign_Name (wpAny_storeName_local (by rfl) x.fr.ns (fun h₂ n₂ s₂ => ?_) (by rfl))
    have F2 := x.fr.set n₂ s₂
    have gi : h₂.get? I = _ := (s₂.2 I hL.symm).trans st
    have N2 := x.news.set s₂
    have kt : ∀ b o vs, h.get? b = some o → o.data = .fields vs → h₂.get? b = some o := fun b o vs e d => (s₂.2 b fun z => by
      obtain ⟨o2, es, ep, g, d2, _⟩ := x.fr.ns
      have z' : b = L := z
      rw [z', g] at e; cases e; rw [d2] at d; cases d).trans e
    have xx : LSt w h₀ h₂ L P Cx I ys bits tn _ { cls := .type "range_iterator", dict := none, data := .fields #[rawInt (0 + ((i + 1 : Nat) : Int) * 1), rawInt (((3 : Nat) : Int) - ((i + 1 : Nat) : Int)), rawInt 1], slots := #[] } o' w1' w2' w3' w4' k' t' :=
      ⟨F2, fun p hp => by
        simp only [List.mem_cons, List.not_mem_nil, or_false] at hp
        rcases hp with rfl | rfl | rfl | rfl | rfl | rfl | rfl
        · exact N2 _ (.head _)
        · exact N2 _ (.tail _ (.head _))
        · exact N2 _ (.tail _ (.tail _ (.head _)))
        · exact N2 _ (.tail _ (.tail _ (.tail _ (.head _))))
        · exact N2 _ (.tail _ (.tail _ (.tail _ (.tail _ (.head _)))))
        · exact N2 _ (.tail _ (.tail _ (.tail _ (.tail _ (.tail _ (.head _))))))
        · exact ⟨gi, hL.symm, hI0⟩, x.t9.keeps kt, x.t8.keeps kt, x.d1, x.d2, x.d3, x.d4, ⟨_, rfl⟩, x.hD⟩
    refine wpAny_mono (lawTurn (s := { s with heap := h₂, toks := tk + 1 }) xx (if_pos rfl) hI hlen hlen2 z0 (by omega) b1 b2 X T h9 h8 p9 p8 n9.symm n8.symm hdp hu) (fun f s₄ y => ?_) (fun _ _ e => False.elim e)
    obtain ⟨ef, h3, tk3, M3, o3, v1, v2, v3, v4, k3, t3, es, x3, y1, y2⟩ := y
    subst ef es
    refine ⟨h3, tk3, rfl, ⟨M3, o3, v1, v2, v3, v4, k3, t3, ⟨x3.fr, news_sub x3.news fun p hp => ?_, x3.t9, x3.t8, x3.d1, x3.d2, x3.d3, x3.d4, x3.hD⟩, by omega, by omega⟩, (x3.news _ (.tail _ (.tail _ (.tail _ (.tail _ (.tail _ (.tail _ (.head _)))))))).1⟩
    simp only [List.mem_cons, List.not_mem_nil, or_false] at hp
    simp only [List.mem_cons, List.not_mem_nil, or_false]
    rcases hp with z | z | z | z | z | z
    · exact .inl z
    · exact .inr (.inl z)
    · exact .inr (.inr (.inl z))
    · exact .inr (.inr (.inr (.inl z)))
    · exact .inr (.inr (.inr (.inr (.inl z))))
    · exact .inr (.inr (.inr (.inr (.inr (.inl z)))))
  · rintro h tk ⟨M', o', w1', w2', w3', w4', k', t', x, z0, z1⟩
    exact fin h tk M' x.fr x.t9 x.t8
theorem six_of {tl : List (Addr × Obj)} (N : News h₀ L h ((Cx, LCg.lst ys) :: (P, o) :: (L + 4, w4) :: (L + 3, w3) :: (L + 2, w2) :: (L + 1, w1) :: tl)) : News h₀ L h [(Cx, LCg.lst ys), (P, o), (L + 4, w4), (L + 3, w3), (L + 2, w2), (L + 1, w1)] := fun p hp => N p (List.mem_append_left tl hp)
theorem for3 : A3 = .For (.Name "turn" (forP A3)) (forI A3) (forB A3) [] (forQ A3) := by kernel_rfl
theorem evL_in {st : Stmt} {iter : Expr} {scope : Scope} {fr : Option (List Env)} {Q : Value → Shared → Prop} (hb : forI st = iter) (hs : laS = scope) (h : wpAny (model Pg w) (AA dp un fr gd) (eval iter (envOfC "law" scope L fa (.ref 311))) Q (fun _ _ => False) s) : wpAny (model Pg w) (AA dp un fr gd) (eval (forI st) (laEnv L fa)) Q (fun _ _ => False) s := by
  subst hb hs; exact h
theorem words29 : True := by
  (k_with "my k_steps" => repeat' (first | (k_unfold; (try dsimp only)) | ((with_reducible show wpAny _ _ (exec _ _) _ _ _); k_whole; k_fold) | ((with_reducible show (_ : Flow → Shared → Prop) _ _); k_unfold; (try dsimp only)) | ((with_reducible show (_ : Value → Shared → Prop) _ _); k_unfold; (try dsimp only)) | ((fail_if_success (with_reducible show wpAny _ _ (exec (Stmt.For _ _ _ _ _) _) _ _ _)); (fail_if_success (with_reducible show wpAny _ _ (eval (Expr.ListComp _ _ _ _) _) _ _ _)); (fail_if_success (with_reducible show wpAny _ _ (exec (Stmt.Assign _ (Expr.ListComp _ _ _ _) _) _) _ _ _)); (fail_if_success (with_reducible show wpAny _ _ (pyIter _) _ _ _)); walk1) | (dsimp only; k_unfold; (try dsimp only)) | (dsimp only; (fail_if_success (with_reducible show wpAny _ _ (exec (Stmt.For _ _ _ _ _) _) _ _ _)); (fail_if_success (with_reducible show wpAny _ _ (eval (Expr.ListComp _ _ _ _) _) _ _ _)); (fail_if_success (with_reducible show wpAny _ _ (exec (Stmt.Assign _ (Expr.ListComp _ _ _ _) _) _) _ _ _)); (fail_if_success (with_reducible show wpAny _ _ (pyIter _) _ _ _)); walk1) | fail "no step"))
  (k_with "call ref" => (k_here; k_dflt (refine' Con.useT dec_c ?zF ?zN ?zX ?zT ?zp ?zd ?zu ?_; k_extra "my cz"; k_extra "my cy"); intro _ _ _ _ _ _ _))
  trivial
theorem evR {news : List (Addr × Obj)} {fr : Option (List Env)} {Q : Value → Shared → Prop} (F : Fr h₀ L s.heap M) (N : News h₀ L s.heap news) (X : (K w.params).In h₀) (T : TopM mean mg mb h₀) (hq : ∀ r h' tk' u v t, Fr h₀ L h' M → News h₀ L h' news → IsRange h' r 0 3 1 t u v → Q (.ref r) { s with heap := h', toks := tk' }) :
    wpAny (model Pg w) (AA dp un fr gd) (eval (forI A3) (laEnv L fa)) Q (fun _ _ => False) s := by
  refine' evL_in ?hb ?hs ?_
  (case hb => (conv => lhs; whnf))
  (case hs => (conv => lhs; whnf))
  try k_fold
  k_extra "my k_steps"
  show Q _ _
  exact hq _ _ _ _ _ _ (by k_asm) (by k_asm) (by assumption)
theorem lawA3 {Q : Flow → Shared → Prop} (x : LJ w h₀ s.heap L P Cx ys bits tn M o w1 w2 w3 w4 k tk0) (hI : IntsAre ys ms) (hlen : ys.length ≤ 40) (hlen2 : ms.length = ys.length) (k0 : 0 ≤ k) (k1 : k ≤ 1) (b1 : 4 ≤ bits) (b2 : bits ≤ 16) (X : (K w.params).In h₀) (T : TopM mean mg mb h₀)
    (h9 : h₀.get? 299 = none) (h8 : h₀.get? 309 = none) (p9 : 299 < L) (p8 : 309 < L) (hdp : dp + 40 < recursionLimit) (hu : un + 600 < cLine)
    (fin : ∀ h' tk' M', Fr h₀ L h' M' → TabI 299 prQ h' → TabI 309 laQ h' → Q .next { s with heap := h', toks := tk' }) :
    wpAny (model Pg w) (AA dp un (some [laEnv L fa]) gd) (exec A3 (laEnv L fa)) Q (fun _ _ => False) s := by
  obtain ⟨x1, N0, x3, x4, x5, x6, x7, x8, x9⟩ := x
  have NT : ∃ tl, News h₀ L s.heap ((Cx, LCg.lst ys) :: (P, o) :: (L + 4, w4) :: (L + 3, w3) :: (L + 2, w2) :: (L + 1, w1) :: tl) ∧ TabL h₀ 299 prQ tl ∧ TabL h₀ 309 laQ tl := by
    obtain ⟨t1, N1, T1, _⟩ := tail_of (tl := []) (outer := []) (base := h₀) x3 x1 trivial (fun _ h => nomatch h) (fun _ h => nomatch h) h9
    obtain ⟨t2, N2, T2, _⟩ := tail_of (tl := []) (outer := []) (base := h₀) x4 x1 trivial (fun _ h => nomatch h) (fun _ h => nomatch h) h8
    exact ⟨t1 ++ t2, news_app2 N0 (news_app2 N1 N2), T1.more fun p hp => List.mem_append_left _ hp, T2.more fun p hp => List.mem_append_right _ hp⟩
  clear N0
  obtain ⟨tl, N, T9, T8⟩ := NT
  rw [for3]
  refine for_walks (evR x1 N X T fun r h' tk' u v t F' N' hr => ?_) (fun _ => by kernel_rfl) passes_false
  have Nt : News h₀ L h' tl := fun p hp => N' p (.tail _ (.tail _ (.tail _ (.tail _ (.tail _ (.tail _ hp))))))
  exact law_loop (s := { s with heap := h', toks := tk' }) ⟨F', six_of N', T9.tabI F' Nt, T8.tabI F' Nt, x5, x6, x7, x8, x9⟩ hr hI hlen hlen2 k0 k1 b1 b2 X T h9 h8 p9 p8 hdp hu fin
end
end
section
set_option maxHeartbeats 8000000
noncomputable abbrev A4 : Stmt := (sBody (stm 47)).getD 4 (.Pass default)
theorem body5 : sBody (stm 47) = [A0, A1, A2, A3, A4] := by kernel_rfl
section
variable {w : World} {mean : ExcName → Option Value} {mg mb : Str → Option Value} {h₀ : Heap} {L S fa : Addr} {M : Str → Option Value} {w1 w2 w3 w4 : Obj} {s : Shared} {dp un : Nat} {fr : Option (List Env)} {gd : Option (List Code)} {vs : List Value} {ns : List Int}
theorem words30 : True := by
  (k_with "my k_steps" => repeat' (first | (k_unfold; (try dsimp only)) | ((with_reducible show wpAny _ _ (exec _ _) _ _ _); k_whole; k_fold) | ((with_reducible show (_ : Flow → Shared → Prop) _ _); k_unfold; (try dsimp only)) | ((with_reducible show (_ : Value → Shared → Prop) _ _); k_unfold; (try dsimp only)) | ((fail_if_success (with_reducible show wpAny _ _ (exec (Stmt.For _ _ _ _ _) _) _ _ _)); (fail_if_success (with_reducible show wpAny _ _ (eval (Expr.ListComp _ _ _ _) _) _ _ _)); (fail_if_success (with_reducible show wpAny _ _ (exec (Stmt.Assign _ (Expr.ListComp _ _ _ _) _) _) _ _ _)); (fail_if_success (with_reducible show wpAny _ _ (eval (Expr.Call _ [Expr.Lambda _ _ _ _] _ _) _) _ _ _)); (fail_if_success (with_reducible show wpAny _ _ (call (Value.ref 302) _) _ _ _)); walk1) | (dsimp only; k_unfold; (try dsimp only)) | (dsimp only; (fail_if_success (with_reducible show wpAny _ _ (exec (Stmt.For _ _ _ _ _) _) _ _ _)); (fail_if_success (with_reducible show wpAny _ _ (eval (Expr.ListComp _ _ _ _) _) _ _ _)); (fail_if_success (with_reducible show wpAny _ _ (exec (Stmt.Assign _ (Expr.ListComp _ _ _ _) _) _) _ _ _)); (fail_if_success (with_reducible show wpAny _ _ (eval (Expr.Call _ [Expr.Lambda _ _ _ _] _ _) _) _ _ _)); (fail_if_success (with_reducible show wpAny _ _ (call (Value.ref 302) _) _ _ _)); walk1) | fail "no step"))
  trivial
theorem lawA4 {Q : Flow → Shared → Prop} (hq : Q (.ret (.bool true)) s) : wpAny (model Pg w) (AA dp un fr gd) (exec A4 (laEnv L fa)) Q (fun _ _ => False) s := by
  refine' la_in ?hb ?hs ?_
  (case hb => (conv => lhs; whnf))
  (case hs => (conv => lhs; whnf))
  try k_fold
  k_extra "my k_steps"
  exact hq
theorem tab_new {h : Heap} {tab : Addr} {q : Str} (g : h.get? tab = some (tabObj #[])) : TabI tab q h := ⟨#[], g, trivial, fun pos cv e => by simp [codeAmong] at e⟩
noncomputable def LawEnd (h₀ : Heap) (L : Addr) (s : Shared) (f : Flow) (s' : Shared) : Prop :=
  f = .ret (.bool true) ∧ ∃ h' tk' M', s' = { s with heap := h', toks := tk' } ∧ Fr h₀ L h' M' ∧ TabI 299 prQ h' ∧ TabI 309 laQ h'
theorem law_all (F : Fr h₀ L s.heap M) (m1 : M "script" = some (.ref S)) (hl : h₀.IsList S vs.toArray) (hi : IntsAre vs ns) (hlen : ns.length ≤ 63) (N : News h₀ L s.heap [(L + 4, w4), (L + 3, w3), (L + 2, w2), (L + 1, w1), (299, tabObj #[]), (309, tabObj #[])]) (d1 : w1.data = .cell none) (d2 : w2.data = .cell none) (d3 : w3.data = .cell none) (d4 : w4.data = .cell none)
    (p9 : 299 < L) (p8 : 309 < L) (X : (K w.params).In h₀) (T : TopM mean mg mb h₀) (hdp : dp + 40 < recursionLimit) (hu : un + 600 < cLine) :
    wpAny (model Pg w) (AA dp un (some [laEnv L fa]) gd) (execs (sBody (stm 47)) (laEnv L fa)) (LawEnd h₀ L s) (fun _ _ => False) s := by
  have h9 : h₀.get? 299 = none := (N _ (.tail _ (.tail _ (.tail _ (.tail _ (.head _)))))).2.2
  have h8 : h₀.get? 309 = none := (N _ (.tail _ (.tail _ (.tail _ (.tail _ (.tail _ (.head _))))))).2.2
  rw [body5]
  refine wpAny_execs_cons (law0 F m1 hl hi hlen N d1 d2 d3 d4 p9 p8 X T (by omega) (by omega) fun h1 tk1 M1 P C o1 w1' ys ms tb F1 N1 e1 D1 I1 l1 l2 hP => ?_)
  have hap : ∀ p ∈ (C, LCg.lst ys) :: [(L + 4, w4), (L + 3, w3), (L + 2, w2), (L + 1, w1'), (299, tabObj #[]), (309, tabObj #[])], p.1 ≠ P := by
    obtain ⟨es, ep, _, dd, _⟩ := D1
    have key : ∀ p ∈ (C, LCg.lst ys) :: (P, o1) :: [(L + 4, w4), (L + 3, w3), (L + 2, w2), (L + 1, w1'), (299, tabObj #[]), (309, tabObj #[])], (∀ es ep, p.2.data ≠ .dict es ep) → p.1 ≠ P := fun p hp n e => n _ _ (by rw [news_eq N1 hp (.tail _ (.head _)) e]; exact dd)
    intro p hp
    simp only [List.mem_cons, List.not_mem_nil, or_false] at hp
    rcases hp with rfl | rfl | rfl | rfl | rfl | rfl | rfl
    · exact key _ (.head _) (fun _ _ q => nomatch q)
    · exact key _ (.tail _ (.tail _ (.head _))) (fun _ _ q => by dsimp only at q; rw [d4] at q; cases q)
    · exact key _ (.tail _ (.tail _ (.tail _ (.head _)))) (fun _ _ q => by dsimp only at q; rw [d3] at q; cases q)
    · exact key _ (.tail _ (.tail _ (.tail _ (.tail _ (.head _))))) (fun _ _ q => by dsimp only at q; rw [d2] at q; cases q)
    · exact key _ (.tail _ (.tail _ (.tail _ (.tail _ (.tail _ (.head _)))))) (fun _ _ q => by dsimp only at q; rw [e1] at q; cases q)
    · exact key _ (.tail _ (.tail _ (.tail _ (.tail _ (.tail _ (.tail _ (.head _))))))) (fun _ _ q => nomatch q)
    · exact key _ (.tail _ (.tail _ (.tail _ (.tail _ (.tail _ (.tail _ (.tail _ (.head _)))))))) (fun _ _ q => nomatch q)
  refine wpAny_execs_cons (law1 F1 N1 e1 d2 D1 I1 l1 l2 hap (by decide) (by decide) X T (by omega) (by omega) p9 p8 fun h2 tk2 bits tb2 w2' o2 t2 b1 b2 F2 N2 e2 D2 => ?_)
  refine wpAny_execs_cons (law2 F2 N2 X T (by omega) (by omega) fun h3 tk3 F3 N3 => ?_)
  refine wpAny_execs_cons (lawA3 ⟨F3, six_of N3, tab_new (N3 _ (.tail _ (.tail _ (.tail _ (.tail _ (.tail _ (.tail _ (.head _)))))))).1, tab_new (N3 _ (.tail _ (.tail _ (.tail _ (.tail _ (.tail _ (.tail _ (.tail _ (.head _))))))))).1, e1, e2, ⟨_, d3⟩, ⟨_, d4⟩, D2⟩ I1 l1 l2 (by decide) (by decide) b1 b2 X T h9 h8 p9 p8 hdp hu fun h4 tk4 M4 F4 t9 t8 => ?_)
  refine wpAny_execs_cons (lawA4 ?_)
  exact ⟨rfl, h4, tk4, M4, rfl, F4, t9, t8⟩
end
end
section
set_option maxHeartbeats 8000000
theorem law_holds : PySem.Challenge.rw_pq0142_01.Holds := by
  w_on
  refine Mine.hd ?_
  intro w s₀ s₁ mg mb G Y fa o pm cd doc dV kV ho hd hcd hD hmg hg args vals as' hpre hlay hrd hwl hlo
  have KX := km_in_of (K := K) (as := Mine.as) (e := as_eq) (ts := [299, 309]) Y
  have hT8 := km_tabs_of (K := K) (as := Mine.as) (e := as_eq) (ts := [299, 309]) Y
  have X := (Ground.X G).1
  have V := (Ground.X G).2
  refine Ground.open G ?_
  intro T B D TE TW
  try (refine guard_noD D (by decide +kernel) ?_; clear D)
  have hmg' : mg (Str.ofString "law") = some (.ref fa) := hmg
  clear hmg
  have hmg : mg (Str.ofString "law") = some (.ref fa) := hmg'
  clear hmg'
  km_lay T hmg ho hd cd
  clear hmg
  wrow_args hpre hlay hrd hwl hlo
  all_goals (
    first | refine callC_kw (enter_call ?_) | refine enter_call ?_
    w_top on
    kn_posts
    w_call any ho hd hcd hD T F
    clear hd
    kn_ghosts F T
    k_drop
    skip)
  rename Fr _ _ _ _ => F
  rename News _ _ _ _ => N
  rename IntsAre _ _ => hI
  show wpAny (model Pg w) (AA 302 7 (some [laEnv s₁.heap.objs.size fa]) _) (execs (sBody (stm 47)) (laEnv s₁.heap.objs.size fa)) _ _ _
  refine wpAny_mono (law_all (mean := ExcName.means s₀.heap) (mg := mg) (mb := mb) F rfl lifted hI ?hlen N ?d1 ?d2 ?d3 ?d4 ?p9 ?p8 ?X ?T ?hd ?hu) (fun f s' y => ?_) (fun _ _ e => e.elim)
  case hlen => omega
  case d1 => assumption
  case d2 => assumption
  case d3 => assumption
  case d4 => assumption
  case p9 => exact And.left (by assumption)
  case p8 => exact And.right (by assumption)
  case X => assumption
  case T => assumption
  case hd => decide
  case hu => decide
  obtain ⟨rfl, h', tk', M', rfl, F', ⟨p1, t9, _⟩, ⟨p2, t8, _⟩⟩ := y
  refine ⟨?_, ⟨p1, t9⟩, ⟨p2, t8⟩, trivial⟩
  dsimp only
  wrow_close
end
end
end Mine
theorem PySem.Challenge.cw_pq0142_01_holds : PySem.Challenge.rw_pq0142_01.Holds := by
  exact Mine.law_holds

import PyProof.Rows.All
import Wide.All
import OpenK.AllK
import Wide.FinOn
import Lean
import PySem.Challenge.RW_oj0002_01
set_option Elab.async false
set_option linter.unusedVariables false
set_option exponentiation.threshold 100000
namespace Mine
theorem fdm (a b : Int) : a = b * a.fdiv b + a.fmod b := (Int.mul_fdiv_add_fmod a b).symm
theorem fmod_pos (a : Int) {b : Int} (h : 0 < b) : 0 ≤ a.fmod b ∧ a.fmod b < b := ⟨Int.fmod_nonneg_of_pos a h, Int.fmod_lt_of_pos a h⟩
theorem fmod_neg' (a : Int) {b : Int} (h : b < 0) : b < a.fmod b ∧ a.fmod b ≤ 0 := by
  have e : a.fmod b = -((-a).fmod (-b)) := by
    have h1 := fdm a b
    have h2 := fdm (-a) (-b)
    have h3 : (-a).fdiv (-b) = a.fdiv b := Int.neg_fdiv_neg a b
    rw [h3] at h2
    have : -b * a.fdiv b = -(b * a.fdiv b) := Int.neg_mul ..
    omega
  have := fmod_pos (-a) (b := -b) (by lia)
  omega
/-- what holds between two turns of the gcd's loop -/
structure Eg (a b r0 s0 t0 r1 s1 t1 : Int) : Prop where
  l0 : r0 = s0 * a + t0 * b
  l1 : r1 = s1 * a + t1 * b
  dv : ∀ d : Int, (d ∣ r0 ∧ d ∣ r1) ↔ (d ∣ a ∧ d ∣ b)
  ds : (r0 * s1 - r1 * s0 = -b) ∨ (r0 * s1 - r1 * s0 = b)
  dt : (r0 * t1 - r1 * t0 = -a) ∨ (r0 * t1 - r1 * t0 = a)
  bs : s1.natAbs * r0.natAbs ≤ 2 * (a.natAbs + b.natAbs)
  bt : t1.natAbs * r0.natAbs ≤ 2 * (a.natAbs + b.natAbs)
  ns0 : s0.natAbs ≤ 2 * (a.natAbs + b.natAbs) + 1
  nt0 : t0.natAbs ≤ 2 * (a.natAbs + b.natAbs) + 1
  ns1 : s1.natAbs ≤ 2 * (a.natAbs + b.natAbs) + 1
  nt1 : t1.natAbs ≤ 2 * (a.natAbs + b.natAbs) + 1
  nr0 : r0.natAbs ≤ a.natAbs + b.natAbs
  nr1 : r1.natAbs ≤ a.natAbs + b.natAbs
  ph : (r0 = a ∧ s0 = 1 ∧ t0 = 0 ∧ r1 = b ∧ s1 = 0 ∧ t1 = 1) ∨ (r1.natAbs < r0.natAbs ∧ ((0 ≤ r0 ∧ 0 ≤ r1) ∨ (r0 ≤ 0 ∧ r1 ≤ 0)))
theorem Eg.start (a b : Int) : Eg a b a 1 0 b 0 1 where
  l0 := by simp
  l1 := by simp
  dv := fun d => Iff.rfl
  ds := by left; simp
  dt := by right; simp
  bs := by simp
  bt := by simp; (simp +arith only [*])
  ns0 := by simp
  nt0 := by simp
  ns1 := by simp
  nt1 := by simp
  nr0 := by solve_by_elim (maxDepth := 3) only [*, Nat.le_of_lt, Nat.lt_of_lt_of_le, Nat.lt_of_le_of_lt, Nat.le_trans, Nat.pos_of_ne_zero, Nat.ne_of_gt, Nat.le_refl, Nat.lt_trans, Nat.succ_ne_zero, Nat.le_add_right, Nat.ne_of_lt, Ne.symm, Nat.succ_le_of_lt, Nat.lt_irrefl, absurd]
  nr1 := by simp +arith only [*]
  ph := .inl ⟨rfl, rfl, rfl, rfl, rfl, rfl⟩
theorem eg_lin {a b r0 s0 t0 r1 s1 t1 q : Int} (h1 : r0 = s0 * a + t0 * b) (h2 : r1 = s1 * a + t1 * b) : r0 - r1 * q = (s0 - q * s1) * a + (t0 - q * t1) * b := by
  rw [h1, h2]; grind
theorem natAbs_mul_le {x y : Int} {n : Nat} (h : (x * y).natAbs ≤ n) : x.natAbs * y.natAbs ≤ n := by rwa [Int.natAbs_mul] at h
theorem Eg.step {a b r0 s0 t0 r1 s1 t1 : Int} (h : Eg a b r0 s0 t0 r1 s1 t1) (hr : r1 ≠ 0) :
    Eg a b r1 s1 t1 (r0 - r0.fdiv r1 * r1) (s0 - r0.fdiv r1 * s1) (t0 - r0.fdiv r1 * t1) ∧ (r0 - r0.fdiv r1 * r1).natAbs < r1.natAbs := by
  have hfd := fdm r0 r1
  generalize hq : r0.fdiv r1 = q at *
  have er : r0 - q * r1 = r0.fmod r1 := by rw [Int.mul_comm q r1]; lia
  have hsign : ((0 < r1 ∧ 0 ≤ r0.fmod r1) ∨ (r1 < 0 ∧ r0.fmod r1 ≤ 0)) ∧ (r0.fmod r1).natAbs < r1.natAbs := by
    rcases Int.lt_or_lt_of_ne hr with h1 | h1
    · have := fmod_neg' r0 h1; omega
    · have := fmod_pos r0 h1; omega
  rw [er]
  generalize hr2 : r0.fmod r1 = r2 at *
  have hr2' : r2 = r0 - r1 * q := by simp +arith only [*]
  -- halving
  have half : (r1.natAbs < r0.natAbs ∧ ((0 ≤ r0 ∧ 0 ≤ r1) ∨ (r0 ≤ 0 ∧ r1 ≤ 0))) → 2 * r2.natAbs ≤ r0.natAbs := by
    rintro ⟨h1, h2⟩
    have hq1 : r0.natAbs = r1.natAbs * q.natAbs + r2.natAbs ∧ 1 ≤ q.natAbs := by
      rcases h2 with ⟨h2, h3⟩ | ⟨h2, h3⟩
      · have hp : 0 < r1 := by grind
        have hqp : 0 < q := by
          rcases Int.lt_trichotomy q 0 with hq0 | hq0 | hq0
          · have : r1 * q < 0 := Int.mul_neg_of_pos_of_neg hp hq0
            grind
          · subst hq0; simp at hfd; grind
          · exact hq0
        have e : ((r1.natAbs * q.natAbs : Nat) : Int) = r1 * q := by
          rw [Int.natCast_mul, Int.natAbs_of_nonneg h3, Int.natAbs_of_nonneg (by grind)]
        grind
      · have hp : r1 < 0 := by lia
        have hqp : 0 < q := by
          rcases Int.lt_trichotomy q 0 with hq0 | hq0 | hq0
          · have : 0 < r1 * q := Int.mul_pos_of_neg_of_neg hp hq0
            omega
          · subst hq0; simp at hfd; grind
          · exact hq0
        have e : ((r1.natAbs * q.natAbs : Nat) : Int) = -(r1 * q) := by
          rw [Int.natCast_mul, Int.natAbs_of_nonneg (by grind : 0 ≤ q), show ((r1.natAbs : Nat) : Int) = -r1 by grind, Int.neg_mul]
        omega
    obtain ⟨e1, e2⟩ := hq1
    have : r1.natAbs ≤ r1.natAbs * q.natAbs := Nat.le_mul_of_pos_right _ e2
    lia
  have det_s : (r1 * (s0 - q * s1) - r2 * s1 = -b) ∨ (r1 * (s0 - q * s1) - r2 * s1 = b) := by
    have e : r1 * (s0 - q * s1) - r2 * s1 = -(r0 * s1 - r1 * s0) := by rw [hr2']; grind
    rw [e]; rcases h.ds with h | h <;> rw [h] <;> simp
  have det_t : (r1 * (t0 - q * t1) - r2 * t1 = -a) ∨ (r1 * (t0 - q * t1) - r2 * t1 = a) := by
    have e : r1 * (t0 - q * t1) - r2 * t1 = -(r0 * t1 - r1 * t0) := by rw [hr2']; grind
    rw [e]; rcases h.dt with h | h <;> rw [h] <;> simp
  -- |s2 r1| <= |b| + |r2 s1|
  have key_s : (r1 * (s0 - q * s1)).natAbs ≤ b.natAbs + r2.natAbs * s1.natAbs := by
    rw [← Int.natAbs_mul]; omega
  have key_t : (r1 * (t0 - q * t1)).natAbs ≤ a.natAbs + r2.natAbs * t1.natAbs := by
    rw [← Int.natAbs_mul]; omega
  have prod_s : r2.natAbs * s1.natAbs ≤ a.natAbs + b.natAbs := by
    rcases h.ph with ⟨e1, e2, e3, e4, e5, e6⟩ | hp
    · subst e5; simp
    · have hh := half hp
      have h1 := h.bs
      have h2 : 2 * (r2.natAbs * s1.natAbs) ≤ s1.natAbs * r0.natAbs := by
        have := Nat.mul_le_mul_left s1.natAbs hh
        rw [Nat.mul_comm r2.natAbs, ← Nat.mul_assoc, Nat.mul_comm 2, Nat.mul_assoc]; exact this
      lia
  have prod_t : r2.natAbs * t1.natAbs ≤ a.natAbs + b.natAbs := by
    rcases h.ph with ⟨e1, e2, e3, e4, e5, e6⟩ | hp
    · subst e6 e4; simp; lia
    · have hh := half hp
      have h1 := h.bt
      have h2 : 2 * (r2.natAbs * t1.natAbs) ≤ t1.natAbs * r0.natAbs := by
        have := Nat.mul_le_mul_left t1.natAbs hh
        rw [Nat.mul_comm r2.natAbs, ← Nat.mul_assoc, Nat.mul_comm 2, Nat.mul_assoc]; exact this
      lia
  have bs' : (s0 - q * s1).natAbs * r1.natAbs ≤ 2 * (a.natAbs + b.natAbs) := by
    rw [Nat.mul_comm, ← Int.natAbs_mul]; lia
  have bt' : (t0 - q * t1).natAbs * r1.natAbs ≤ 2 * (a.natAbs + b.natAbs) := by
    rw [Nat.mul_comm, ← Int.natAbs_mul]; lia
  have r1pos : 1 ≤ r1.natAbs := by lia
  refine ⟨{ l0 := h.l1, l1 := ?_, dv := ?_, ds := det_s, dt := det_t, bs := bs', bt := bt', ns0 := h.ns1, nt0 := h.nt1, ns1 := ?_, nt1 := ?_, nr0 := h.nr1, nr1 := ?_, ph := .inr ⟨hsign.2, ?_⟩ }, hsign.2⟩
  · rw [hr2']
    exact eg_lin h.l0 h.l1
  · intro d
    rw [← h.dv d]
    constructor
    · rintro ⟨h1, h2⟩
      refine ⟨?_, h1⟩
      have : r0 = r1 * q + r2 := by omega
      rw [this]; exact Int.dvd_add (Int.dvd_mul_of_dvd_left h1) h2
    · rintro ⟨h1, h2⟩
      refine ⟨h2, ?_⟩
      rw [hr2']; exact Int.dvd_sub h1 (Int.dvd_mul_of_dvd_left h2)
  · exact Nat.le_trans (Nat.le_mul_of_pos_right _ r1pos) (Nat.le_succ_of_le bs')
  · exact Nat.le_trans (Nat.le_mul_of_pos_right _ r1pos) (Nat.le_succ_of_le bt')
  · exact Nat.le_trans (Nat.le_of_lt hsign.2) h.nr1
  · rcases hsign.1 with ⟨x, y⟩ | ⟨x, y⟩
    · exact .inl ⟨Int.le_of_lt x, y⟩
    · exact .inr ⟨Int.le_of_lt x, y⟩
theorem fdiv_natAbs_le (a : Int) {b : Int} (hb : b ≠ 0) : (a.fdiv b).natAbs ≤ a.natAbs + 1 := by
  have h := fdm a b
  generalize a.fdiv b = q at *
  have hs : (a.fmod b).natAbs < b.natAbs := by
    rcases Int.lt_or_lt_of_ne hb with h1 | h1
    · have := fmod_neg' a h1; omega
    · have := fmod_pos a h1; omega
  have e : (b * q).natAbs ≤ a.natAbs + (a.fmod b).natAbs := by omega
  rw [Int.natAbs_mul] at e
  have hb1 : 1 ≤ b.natAbs := by lia
  rcases Nat.lt_or_ge q.natAbs (a.natAbs + 2) with hq | hq
  · lia
  · exfalso
    obtain ⟨c, hc⟩ := Nat.exists_eq_add_of_le hb1
    obtain ⟨d, hd⟩ := Nat.exists_eq_add_of_le hq
    have : b.natAbs * q.natAbs = (a.natAbs + 2 + d) + c * q.natAbs := by rw [hc, Nat.add_mul, Nat.one_mul, ← hd]
    have h3 : c ≤ c * q.natAbs := Nat.le_mul_of_pos_right _ (by lia)
    lia
/-- what the gcd hands back -/
structure Gcd (a b g s t : Int) : Prop where
  eq : g = s * a + t * b
  nn : 0 ≤ g
  da : g ∣ a
  db : g ∣ b
  ns : s.natAbs ≤ 2 * (a.natAbs + b.natAbs) + 1
  nt : t.natAbs ≤ 2 * (a.natAbs + b.natAbs) + 1
theorem Eg.done {a b r0 s0 t0 s1 t1 : Int} (h : Eg a b r0 s0 t0 0 s1 t1) (h0 : 0 ≤ r0) : Gcd a b r0 s0 t0 where
  eq := h.l0
  nn := h0
  da := ((h.dv r0).mp ⟨Int.dvd_refl _, Int.dvd_zero _⟩).1
  db := ((h.dv r0).mp ⟨Int.dvd_refl _, Int.dvd_zero _⟩).2
  ns := h.ns0
  nt := h.nt0
theorem Eg.doneN {a b r0 s0 t0 s1 t1 : Int} (h : Eg a b r0 s0 t0 0 s1 t1) (h0 : ¬ 0 ≤ r0) : Gcd a b (0 - r0) (0 - s0) (0 - t0) where
  eq := by have := h.l0; rw [Int.sub_mul, Int.sub_mul]; (simp +arith only [*])
  nn := by lia
  da := by rw [Int.zero_sub]; exact Int.neg_dvd.mpr ((h.dv r0).mp ⟨Int.dvd_refl _, Int.dvd_zero _⟩).1
  db := by rw [Int.zero_sub]; exact Int.neg_dvd.mpr ((h.dv r0).mp ⟨Int.dvd_refl _, Int.dvd_zero _⟩).2
  ns := by have := h.ns0; omega
  nt := by have := h.nt0; omega
end Mine
namespace Mine
noncomputable def combM (B : Nat → Nat → Int) (i j : Nat) (s t u v : Int) : Nat → Nat → Int := fun r c =>
  if r = j then u * B i c + v * B j c else if r = i then s * B i c + t * B j c else B r c
/-- entries below 2 ^ (K - 4) -/
noncomputable def Sz (K m n : Nat) (B : Nat → Nat → Int) : Prop := ∃ k, k + 4 ≤ K ∧ ∀ i j, i < m → j < n → (B i j).natAbs ≤ 2 ^ k
theorem Sz.mono {K K' m n B} (x : Sz K m n B) (h : K ≤ K') : Sz K' m n B := let ⟨k, a, b⟩ := x; ⟨k, Nat.le_trans a h, b⟩
/-- the rows below `row` are cleared in the column `col`, from the row o0 up to the row o -/
inductive CB (row col : Nat) (o0 : Nat) (H0 U0 : Nat → Nat → Int) : Nat → (Nat → Nat → Int) → (Nat → Nat → Int) → Prop
  | nil : CB row col o0 H0 U0 o0 H0 U0
  | skip {o H U} : CB row col o0 H0 U0 o H U → H o col = 0 → CB row col o0 H0 U0 (o + 1) H U
  | step {o H U g s t} : CB row col o0 H0 U0 o H U → H o col ≠ 0 → Gcd (H row col) (H o col) g s t →
      CB row col o0 H0 U0 (o + 1) (combM H row o s t (-((H o col).fdiv g)) ((H row col).fdiv g)) (combM U row o s t (-((H o col).fdiv g)) ((H row col).fdiv g))
theorem Gcd.pos {a b g s t : Int} (x : Gcd a b g s t) (hb : b ≠ 0) : 0 < g := by
  rcases Int.lt_or_eq_of_le x.nn with h | h
  · exact h
  · exact absurd (Int.zero_dvd.mp (h ▸ x.db)) hb
theorem natAbs_lin {a b x y : Int} {k l : Nat} (ha : a.natAbs ≤ 2 ^ k) (hb : b.natAbs ≤ 2 ^ k) (hx : x.natAbs ≤ 2 ^ l) (hy : y.natAbs ≤ 2 ^ l) : (a * x + b * y).natAbs ≤ 2 ^ (k + l + 1) := by
  have h1 : (a * x).natAbs ≤ 2 ^ (k + l) := by rw [Int.natAbs_mul, Nat.pow_add]; exact Nat.mul_le_mul ha hx
  have h2 : (b * y).natAbs ≤ 2 ^ (k + l) := by rw [Int.natAbs_mul, Nat.pow_add]; exact Nat.mul_le_mul hb hy
  have h3 := Int.natAbs_add_le (a * x) (b * y)
  rw [Nat.pow_succ]; lia
theorem pow_le {a b : Nat} (h : a ≤ b) : 2 ^ a ≤ 2 ^ b := Nat.pow_le_pow_right (by decide) h
/-- how large the four factors of a turn are -/
theorem cofactor_sizes {a b g s t : Int} {k : Nat} (x : Gcd a b g s t) (hb : b ≠ 0) (ha' : a.natAbs ≤ 2 ^ k) (hb' : b.natAbs ≤ 2 ^ k) :
    s.natAbs ≤ 2 ^ (k + 3) ∧ t.natAbs ≤ 2 ^ (k + 3) ∧ (-(b.fdiv g)).natAbs ≤ 2 ^ (k + 3) ∧ (a.fdiv g).natAbs ≤ 2 ^ (k + 3) := by
  have hg := x.pos hb
  have h1 := x.ns
  have h2 := x.nt
  have h3 := fdiv_natAbs_le b (Int.ne_of_gt hg)
  have h4 := fdiv_natAbs_le a (Int.ne_of_gt hg)
  have hp := Nat.two_pow_pos k
  have e : 2 ^ (k + 3) = 8 * 2 ^ k := by rw [Nat.pow_add]; (simp +arith only [*])
  rw [e, Int.natAbs_neg]
  refine ⟨?_, ?_, ?_, ?_⟩ <;> lia
theorem combM_size {B : Nat → Nat → Int} {i j m n : Nat} {s t u v : Int} {k l : Nat} (hB : ∀ i j, i < m → j < n → (B i j).natAbs ≤ 2 ^ l) (hi : i < m) (hj : j < m) (hs : s.natAbs ≤ 2 ^ k) (ht : t.natAbs ≤ 2 ^ k) (hu : u.natAbs ≤ 2 ^ k) (hv : v.natAbs ≤ 2 ^ k) :
    ∀ r c, r < m → c < n → (combM B i j s t u v r c).natAbs ≤ 2 ^ (k + l + 1) := by
  intro r c hr hc
  unfold combM
  split
  · exact natAbs_lin hu hv (hB i c hi hc) (hB j c hj hc)
  · split
    · exact natAbs_lin hs ht (hB i c hi hc) (hB j c hj hc)
    · exact Nat.le_trans (hB r c hr hc) (pow_le (by simp +arith only [*]))
theorem CB.size {row col o0 o m n nu K : Nat} {H0 U0 H U : Nat → Nat → Int} (x : CB row col o0 H0 U0 o H U) (hrow : row < m) (hcol : col < n) (ho : o ≤ m) (hH : Sz K m n H0) (hU : Sz K m nu U0) :
    o0 ≤ o ∧ Sz (K * 2 ^ (o - o0)) m n H ∧ Sz (K * 2 ^ (o - o0)) m nu U := by
  induction x with
  | nil => exact ⟨Nat.le_refl _, by simpa using hH, by simpa using hU⟩
  | skip _ _ ih =>
    rename_i o H U _ _
    obtain ⟨h1, h2, h3⟩ := ih (by exact Nat.le_of_lt (by assumption))
    have hle : K * 2 ^ (o - o0) ≤ K * 2 ^ (o + 1 - o0) := Nat.mul_le_mul_left _ (pow_le (by lia))
    exact ⟨by solve_by_elim (maxDepth := 3) only [*, Nat.le_of_lt, Nat.lt_of_lt_of_le, Nat.lt_of_le_of_lt, Nat.le_trans, Nat.pos_of_ne_zero, Nat.ne_of_gt, Nat.le_refl, Nat.lt_trans, Nat.succ_ne_zero, Nat.le_add_right, Nat.ne_of_lt, Ne.symm, Nat.succ_le_of_lt, Nat.lt_irrefl, absurd], h2.mono hle, h3.mono hle⟩
  | step _ hne hg ih =>
    rename_i o H U g s t _
    obtain ⟨h1, ⟨k, hk, h2⟩, ⟨l, hl, h3⟩⟩ := ih (by exact Nat.le_of_lt (by assumption))
    have e : 2 ^ (o + 1 - o0) = 2 * 2 ^ (o - o0) := by rw [show o + 1 - o0 = (o - o0) + 1 by lia, Nat.pow_succ]; (simp +arith only [*])
    have hK : K * 2 ^ (o + 1 - o0) = 2 * (K * 2 ^ (o - o0)) := by rw [e]; grind
    obtain ⟨c1, c2, c3, c4⟩ := cofactor_sizes hg hne (h2 row col hrow hcol) (h2 o col (by assumption) hcol)
    refine ⟨by solve_by_elim (maxDepth := 3) only [*, Nat.le_of_lt, Nat.lt_of_lt_of_le, Nat.lt_of_le_of_lt, Nat.le_trans, Nat.pos_of_ne_zero, Nat.ne_of_gt, Nat.le_refl, Nat.lt_trans, Nat.succ_ne_zero, Nat.le_add_right, Nat.ne_of_lt, Ne.symm, Nat.succ_le_of_lt, Nat.lt_irrefl, absurd], ⟨k + 3 + k + 1, by lia, combM_size h2 hrow (by assumption) c1 c2 c3 c4⟩, ⟨k + 3 + l + 1, by lia, combM_size h3 hrow (by assumption) c1 c2 c3 c4⟩⟩
end Mine
namespace Mine
noncomputable def setRow (B : Nat → Nat → Int) (i : Nat) (f : Nat → Int) : Nat → Nat → Int := fun r c => if r = i then f c else B r c
/-- the rows below k less a multiple of the row `row` -/
noncomputable def redM (B : Nat → Nat → Int) (q : Nat → Int) (row k : Nat) : Nat → Nat → Int := fun r c => if r < k then B r c - q r * B row c else B r c
noncomputable def negM (b : Bool) (B : Nat → Nat → Int) (row : Nat) : Nat → Nat → Int := if b = true then setRow B row (fun c => -(B row c)) else B
theorem redM_zero (B : Nat → Nat → Int) (q : Nat → Int) (row : Nat) : redM B q row 0 = B := by funext r c; simp [redM]
theorem redM_succ (B : Nat → Nat → Int) (q : Nat → Int) {row k : Nat} (hk : k < row) : setRow (redM B q row k) k (fun c => redM B q row k k c - q k * redM B q row k row c) = redM B q row (k + 1) := by
  funext r c
  simp only [setRow, redM]
  by_cases e : r = k
  · subst e
    rw [if_pos rfl, if_neg (by solve_by_elim (maxDepth := 3) only [*, Nat.le_of_lt, Nat.lt_of_lt_of_le, Nat.lt_of_le_of_lt, Nat.le_trans, Nat.pos_of_ne_zero, Nat.ne_of_gt, Nat.le_refl, Nat.lt_trans, Nat.succ_ne_zero, Nat.le_add_right, Nat.ne_of_lt, Ne.symm, Nat.succ_le_of_lt, Nat.lt_irrefl, absurd]), if_neg (by lia), if_pos (by solve_by_elim (maxDepth := 3) only [*, Nat.le_of_lt, Nat.lt_of_lt_of_le, Nat.lt_of_le_of_lt, Nat.le_trans, Nat.pos_of_ne_zero, Nat.ne_of_gt, Nat.le_refl, Nat.lt_trans, Nat.succ_ne_zero, Nat.le_add_right, Nat.ne_of_lt, Ne.symm, Nat.succ_le_of_lt, Nat.lt_irrefl, absurd])]
  · rw [if_neg e]
    by_cases e2 : r < k
    · rw [if_pos e2, if_pos (by solve_by_elim (maxDepth := 3) only [*, Nat.le_of_lt, Nat.lt_of_lt_of_le, Nat.lt_of_le_of_lt, Nat.le_trans, Nat.pos_of_ne_zero, Nat.ne_of_gt, Nat.le_refl, Nat.lt_trans, Nat.succ_ne_zero, Nat.le_add_right, Nat.ne_of_lt, Ne.symm, Nat.succ_le_of_lt, Nat.lt_irrefl, absurd])]
    · rw [if_neg e2, if_neg (by lia)]
theorem redM_at {B : Nat → Nat → Int} {q : Nat → Int} {row k r c : Nat} (h : k ≤ r) : redM B q row k r c = B r c := by simp only [redM]; rw [if_neg (by simp +arith only [*])]
theorem negM_size {b : Bool} {B : Nat → Nat → Int} {row m n k : Nat} (h : ∀ i j, i < m → j < n → (B i j).natAbs ≤ 2 ^ k) : ∀ i j, i < m → j < n → (negM b B row i j).natAbs ≤ 2 ^ k := by
  intro i j hi hj
  unfold negM
  split
  · unfold setRow
    split
    · rename_i e; subst e; rw [Int.natAbs_neg]; exact h i j hi hj
    · exact h i j hi hj
  · exact h i j hi hj
theorem redM_size {B : Nat → Nat → Int} {q : Nat → Int} {row m n k l kk : Nat} (h : ∀ i j, i < m → j < n → (B i j).natAbs ≤ 2 ^ l) (hrow : row < m) (hq : ∀ r, r < m → (q r).natAbs ≤ 2 ^ (k + 1)) :
    ∀ i j, i < m → j < n → (redM B q row kk i j).natAbs ≤ 2 ^ (k + l + 2) := by
  intro i j hi hj
  unfold redM
  split
  · have h1 := h i j hi hj
    have h2 : (q i * B row j).natAbs ≤ 2 ^ (k + 1 + l) := by rw [Int.natAbs_mul, Nat.pow_add 2 (k + 1)]; exact Nat.mul_le_mul (hq i hi) (h row j hrow hj)
    have h3 : 2 ^ l ≤ 2 ^ (k + 1 + l) := pow_le (by simp +arith only [*])
    have h4 : 2 ^ (k + l + 2) = 2 * 2 ^ (k + 1 + l) := by rw [show k + l + 2 = (k + 1 + l) + 1 by simp +arith only [*], Nat.pow_succ]; (simp +arith only [*])
    omega
  · exact Nat.le_trans (h i j hi hj) (pow_le (by simp +arith only [*]))
theorem quo_size {B : Nat → Nat → Int} {row col m n k : Nat} (h : ∀ i j, i < m → j < n → (B i j).natAbs ≤ 2 ^ k) (hcol : col < n) (hne : B row col ≠ 0) : ∀ r, r < m → ((B r col).fdiv (B row col)).natAbs ≤ 2 ^ (k + 1) := by
  intro r hr
  have h1 := fdiv_natAbs_le (B r col) hne
  have h2 := h r col hr hcol
  have h3 := Nat.two_pow_pos k
  rw [Nat.pow_succ]; grind
/-- the quotients of reduce_above -/
noncomputable def quoM (B : Nat → Nat → Int) (row col : Nat) : Nat → Int := fun r => (B r col).fdiv (B row col)
end Mine
namespace Mine
/-- hermite_form's loop: behind c columns, row rows done -/
inductive HF (m : Nat) (H0 U0 : Nat → Nat → Int) : Nat → Nat → (Nat → Nat → Int) → (Nat → Nat → Int) → Prop
  | nil : HF m H0 U0 0 0 H0 U0
  | zero {c row H U H' U'} : HF m H0 U0 c row H U → row < m → CB row c (row + 1) H U m H' U' → H' row c = 0 → HF m H0 U0 (c + 1) row H' U'
  | step {c row H U H' U'} : HF m H0 U0 c row H U → row < m → CB row c (row + 1) H U m H' U' → H' row c ≠ 0 →
      HF m H0 U0 (c + 1) (row + 1) (redM (negM (decide (H' row c < 0)) H' row) (quoM (negM (decide (H' row c < 0)) H' row) row c) row row)
        (redM (negM (decide (H' row c < 0)) U' row) (quoM (negM (decide (H' row c < 0)) H' row) row c) row row)
theorem HF.size {m n nu K : Nat} {H0 U0 H U : Nat → Nat → Int} {c row : Nat} (x : HF m H0 U0 c row H U) (hc : c ≤ n) (hH : Sz K m n H0) (hU : Sz K m nu U0) :
    row ≤ m ∧ Sz (K * 2 ^ (m * c)) m n H ∧ Sz (K * 2 ^ (m * c)) m nu U := by
  induction x with
  | nil => exact ⟨Nat.zero_le _, by simpa using hH, by simpa using hU⟩
  | zero _ hlt hcb h0 ih =>
    rename_i c row H U H' U' _
    obtain ⟨h1, h2, h3⟩ := ih (by exact Nat.le_of_lt (by assumption))
    obtain ⟨g1, g2, g3⟩ := hcb.size hlt (by assumption) (Nat.le_refl _) h2 h3
    have hle : K * 2 ^ (m * c) * 2 ^ (m - (row + 1)) ≤ K * 2 ^ (m * (c + 1)) := by
      rw [Nat.mul_assoc, ← Nat.pow_add]
      exact Nat.mul_le_mul_left _ (pow_le (by rw [Nat.mul_succ]; lia))
    exact ⟨h1, g2.mono hle, g3.mono hle⟩
  | step _ hlt hcb h0 ih =>
    rename_i c row H U H' U' _
    obtain ⟨h1, h2, h3⟩ := ih (by exact Nat.le_of_lt (by assumption))
    obtain ⟨g1, ⟨k, hk, g2⟩, ⟨l, hl, g3⟩⟩ := hcb.size hlt (by assumption) (Nat.le_refl _) h2 h3
    have hne' : negM (decide (H' row c < 0)) H' row row c ≠ 0 := by
      unfold negM
      split
      · simpa [setRow] using h0
      · exact h0
    have sH := negM_size (b := decide (H' row c < 0)) (row := row) g2
    have sU := negM_size (b := decide (H' row c < 0)) (row := row) g3
    have sq := quo_size sH (by assumption : c < n) hne'
    have hle : 2 * (K * 2 ^ (m * c) * 2 ^ (m - (row + 1))) ≤ K * 2 ^ (m * (c + 1)) := by
      have e : 2 * (K * 2 ^ (m * c) * 2 ^ (m - (row + 1))) = K * 2 ^ (m * c + (m - (row + 1)) + 1) := by
        rw [Nat.pow_succ, Nat.pow_add]; grind
      rw [e]
      exact Nat.mul_le_mul_left _ (pow_le (by rw [Nat.mul_succ]; lia))
    exact ⟨hlt, ⟨k + k + 2, by lia, redM_size sH hlt sq⟩, ⟨k + l + 2, by lia, redM_size sU hlt sq⟩⟩
noncomputable def HEnd (m n : Nat) (H0 U0 H : Nat → Nat → Int) : Prop := ∃ c row U, HF m H0 U0 c row H U ∧ c ≤ n ∧ row ≤ m ∧ (c = n ∨ row = m)
end Mine
namespace Mine
noncomputable def Before (i j r c : Nat) : Prop := r < i ∨ (r = i ∧ c < j)
noncomputable def LS (B : Nat → Nat → Int) (step n i j : Nat) (f : Option (Nat × Nat)) : Prop := match f with
  | none => ∀ r c, step ≤ r → step ≤ c → c < n → Before i j r c → B r c = 0
  | some (p, q) => step ≤ p ∧ step ≤ q ∧ q < n ∧ Before i j p q ∧ B p q ≠ 0 ∧
      ∀ r c, step ≤ r → step ≤ c → c < n → Before i j r c → B r c ≠ 0 → (B p q).natAbs ≤ (B r c).natAbs ∧ (Before p q r c → (B p q).natAbs < (B r c).natAbs)
theorem LS.start (B : Nat → Nat → Int) (step n : Nat) : LS B step n step step none := by
  intro r c h1 h2 h3 h4
  rcases h4 with h4 | h4 <;> lia
theorem LS.row {B : Nat → Nat → Int} {step n i : Nat} {f : Option (Nat × Nat)} (x : LS B step n i n f) : LS B step n (i + 1) step f := by
  have e : ∀ r c, step ≤ c → c < n → Before (i + 1) step r c → Before i n r c := by
    intro r c h1 h2 h3; rcases h3 with h3 | h3
    · rcases Nat.lt_or_ge r i with h | h
      · exact .inl h
      · exact .inr ⟨by lia, h2⟩
    · lia
  match f, x with
  | none, x => exact fun r c h1 h2 h3 h4 => x r c h1 h2 h3 (e r c h2 h3 h4)
  | some (p, q), ⟨a, b, c, d, ne, k⟩ =>
    refine ⟨a, b, c, ?_, ne, fun r c h1 h2 h3 h4 => k r c h1 h2 h3 (e r c h2 h3 h4)⟩
    rcases d with d | d
    · exact .inl (by solve_by_elim (maxDepth := 3) only [*, Nat.le_of_lt, Nat.lt_of_lt_of_le, Nat.lt_of_le_of_lt, Nat.le_trans, Nat.pos_of_ne_zero, Nat.ne_of_gt, Nat.le_refl, Nat.lt_trans, Nat.succ_ne_zero, Nat.le_add_right, Nat.ne_of_lt, Ne.symm, Nat.succ_le_of_lt, Nat.lt_irrefl, absurd])
    · exact .inl (by simp +arith only [*])
theorem before_succ {i j r c : Nat} (h : Before i (j + 1) r c) : Before i j r c ∨ (r = i ∧ c = j) := by
  rcases h with h | h
  · exact .inl (.inl h)
  · rcases Nat.lt_or_ge c j with g | g
    · exact .inl (.inr ⟨h.1, g⟩)
    · exact .inr ⟨h.1, by lia⟩
theorem before_up {i j r c : Nat} (h : Before i j r c) : Before i (j + 1) r c := by
  rcases h with h | h
  · exact .inl h
  · exact .inr ⟨h.1, by lia⟩
theorem LS.keep {B : Nat → Nat → Int} {step n i j : Nat} {f : Option (Nat × Nat)} (x : LS B step n i j f) (h : B i j = 0 ∨ ∃ p q, f = some (p, q) ∧ (B p q).natAbs ≤ (B i j).natAbs) : LS B step n i (j + 1) f := by
  match f, x, h with
  | none, x, h =>
    have h : B i j = 0 := by rcases h with h | ⟨_, _, e, _⟩; exact h; cases e
    intro r c h1 h2 h3 h4
    rcases before_succ h4 with h4 | ⟨rfl, rfl⟩
    · exact x r c h1 h2 h3 h4
    · exact h
  | some (p, q), ⟨a, b, c, d, ne, k⟩, h =>
    refine ⟨a, b, c, before_up d, ne, fun r c h1 h2 h3 h4 h5 => ?_⟩
    rcases before_succ h4 with h4 | ⟨rfl, rfl⟩
    · exact k r c h1 h2 h3 h4 h5
    · rcases h with h | ⟨p', q', e, hle⟩
      · exact absurd h h5
      · cases e
        refine ⟨hle, fun hb => ?_⟩
        rcases hb with hb | hb <;> rcases d with d | d <;> grind
theorem LS.new {B : Nat → Nat → Int} {step n i j : Nat} {f : Option (Nat × Nat)} (x : LS B step n i j f) (hi : step ≤ i) (hj : step ≤ j) (hn : j < n) (hne : B i j ≠ 0) (h : ∀ p q, f = some (p, q) → (B i j).natAbs < (B p q).natAbs) :
    LS B step n i (j + 1) (some (i, j)) := by
  refine ⟨hi, hj, hn, .inr ⟨rfl, Nat.lt_succ_self _⟩, hne, fun r c h1 h2 h3 h4 h5 => ?_⟩
  rcases before_succ h4 with h4 | ⟨rfl, rfl⟩
  · match f, x with
    | none, x => exact absurd (x r c h1 h2 h3 h4) h5
    | some (p, q), ⟨a, b, c', d, ne, k⟩ =>
      have := (k r c h1 h2 h3 h4 h5).1
      have := h p q rfl
      exact ⟨by lia, fun _ => by lia⟩
  · exact ⟨Nat.le_refl _, fun hb => by rcases hb with hb | hb <;> lia⟩
theorem absI (a : Int) : (if a < 0 then -a else a) = (a.natAbs : Int) := by split <;> grind
end Mine
namespace Mine
/-- two indices exchanged -/
noncomputable def swp (i j r : Nat) : Nat := if r = i then j else if r = j then i else r
theorem swp_swp (i j r : Nat) : swp i j (swp i j r) = r := by unfold swp; repeat (split <;> try lia)
theorem swp_lt {i j r m : Nat} (hi : i < m) (hj : j < m) (hr : r < m) : swp i j r < m := by
  unfold swp
  split
  · exact hj
  · split <;> assumption
theorem swp_inj {i j r r' : Nat} (h : swp i j r = swp i j r') : r = r' := by rw [← swp_swp i j r, h, swp_swp]
theorem swp_left (i j : Nat) : swp i j i = j := by simp [swp]
theorem swp_right (i j : Nat) : swp i j j = i := by unfold swp; split <;> simp_all
theorem swp_ne {i j r : Nat} (h1 : r ≠ i) (h2 : r ≠ j) : swp i j r = r := by unfold swp; rw [if_neg h1, if_neg h2]
noncomputable def swR (B : Nat → Nat → Int) (i j : Nat) : Nat → Nat → Int := fun r c => B (swp i j r) c
noncomputable def swC (B : Nat → Nat → Int) (i j : Nat) : Nat → Nat → Int := fun r c => B r (swp i j c)
/-- the first k rows with two columns exchanged -/
noncomputable def swCk (B : Nat → Nat → Int) (i j k : Nat) : Nat → Nat → Int := fun r c => if r < k then B r (swp i j c) else B r c
theorem swCk_zero (B : Nat → Nat → Int) (i j : Nat) : swCk B i j 0 = B := by funext r c; simp [swCk]
end Mine
namespace Mine
theorem swCk_at {B : Nat → Nat → Int} {i j k r c : Nat} (h : k ≤ r) : swCk B i j k r c = B r c := by simp only [swCk]; rw [if_neg (by simp +arith only [*])]
theorem swCk_succ (B : Nat → Nat → Int) (i j k : Nat) :
    setRow (setRow (swCk B i j k) k (fun c => if c = i then B k j else swCk B i j k k c)) k (fun c => if c = j then B k i else setRow (swCk B i j k) k (fun c => if c = i then B k j else swCk B i j k k c) k c) = swCk B i j (k + 1) := by
  funext r c
  unfold setRow
  by_cases e : r = k
  · subst e
    simp only [if_true]
    rw [swCk_at (Nat.le_refl r)]
    unfold swCk swp
    rw [if_pos (Nat.lt_succ_self r)]
    by_cases e1 : c = j
    · subst e1
      by_cases e2 : c = i
      · subst e2; simp
      · simp [e2]
    · by_cases e2 : c = i
      · subst e2; simp [e1]
      · simp [e1, e2]
  · simp only [if_neg e]
    unfold swCk
    by_cases e2 : r < k
    · rw [if_pos e2, if_pos (by solve_by_elim (maxDepth := 3) only [*, Nat.le_of_lt, Nat.lt_of_lt_of_le, Nat.lt_of_le_of_lt, Nat.le_trans, Nat.pos_of_ne_zero, Nat.ne_of_gt, Nat.le_refl, Nat.lt_trans, Nat.succ_ne_zero, Nat.le_add_right, Nat.ne_of_lt, Ne.symm, Nat.succ_le_of_lt, Nat.lt_irrefl, absurd])]
    · rw [if_neg e2, if_neg (by lia)]
theorem swCk_full {B : Nat → Nat → Int} {i j k r c : Nat} (h : r < k) : swCk B i j k r c = swC B i j r c := by simp only [swCk, swC]; rw [if_pos h]
end Mine
namespace Mine
/-- the rows between step and k less a multiple of the row step -/
noncomputable def redR (B : Nat → Nat → Int) (q : Nat → Int) (step k : Nat) : Nat → Nat → Int := fun r c => if step < r ∧ r < k then B r c - q r * B step c else B r c
/-- the columns between step and k less a multiple of the column step -/
noncomputable def redC (B : Nat → Nat → Int) (q : Nat → Int) (step k : Nat) : Nat → Nat → Int := fun r c => if step < c ∧ c < k then B r c - q c * B r step else B r c
/-- one column, the rows below k -/
noncomputable def colK (B : Nat → Nat → Int) (q : Int) (step col k : Nat) : Nat → Nat → Int := fun r c => if r < k ∧ c = col then B r c - q * B r step else B r c
theorem redR_zero (B q) (step : Nat) : redR B q step (step + 1) = B := by funext r c; unfold redR; rw [if_neg (by lia)]
theorem redC_zero (B q) (step : Nat) : redC B q step (step + 1) = B := by funext r c; unfold redC; rw [if_neg (by lia)]
theorem redR_at {B q} {step k r c : Nat} (h : k ≤ r ∨ r ≤ step) : redR B q step k r c = B r c := by unfold redR; rw [if_neg (by lia)]
theorem redC_at {B q} {step k r c : Nat} (h : k ≤ c ∨ c ≤ step) : redC B q step k r c = B r c := by unfold redC; rw [if_neg (by lia)]
theorem redR_succ (B q) {step k : Nat} (hk : step < k) : setRow (redR B q step k) k (fun c => redR B q step k k c - q k * redR B q step k step c) = redR B q step (k + 1) := by
  funext r c
  unfold setRow
  by_cases e : r = k
  · subst e
    rw [if_pos rfl]
    dsimp only
    rw [redR_at (.inl (Nat.le_refl r)), redR_at (.inr (Nat.le_refl step))]
    unfold redR
    rw [if_pos ⟨hk, Nat.lt_succ_self r⟩]
  · rw [if_neg e]
    unfold redR
    by_cases h : step < r ∧ r < k
    · rw [if_pos h, if_pos (by lia)]
    · rw [if_neg h, if_neg (by lia)]
theorem colK_zero (B q) (step col : Nat) : colK B q step col 0 = B := by funext r c; unfold colK; rw [if_neg (by lia)]
theorem colK_succ (B q) {step col k : Nat} (hc : col ≠ step) : setRow (colK B q step col k) k (fun c => if c = col then colK B q step col k k col - q * colK B q step col k k step else colK B q step col k k c) = colK B q step col (k + 1) := by
  funext r c
  unfold setRow
  by_cases e : r = k
  · subst e
    rw [if_pos rfl]
    unfold colK
    dsimp only
    by_cases e2 : c = col
    · subst e2
      rw [if_pos rfl, if_neg (by lia), if_neg (by lia), if_pos ⟨Nat.lt_succ_self r, rfl⟩]
    · rw [if_neg e2, if_neg (by lia), if_neg (by lia)]
  · rw [if_neg e]
    unfold colK
    by_cases h : r < k ∧ c = col
    · rw [if_pos h, if_pos (by lia)]
    · rw [if_neg h, if_neg (by lia)]
theorem redC_succ {B q} {step k m r c : Nat} (hk : step < k) (hr : r < m) : colK (redC B q step k) (q k) step k m r c = redC B q step (k + 1) r c := by
  unfold colK
  by_cases e : c = k
  · subst e
    rw [if_pos ⟨hr, rfl⟩, redC_at (.inl (Nat.le_refl c)), redC_at (.inr (Nat.le_refl step))]
    unfold redC
    rw [if_pos ⟨hk, Nat.lt_succ_self c⟩]
  · rw [if_neg (by lia)]
    unfold redC
    by_cases h : step < c ∧ c < k
    · rw [if_pos h, if_pos (by lia)]
    · rw [if_neg h, if_neg (by lia)]
/-- clear_cross: the two lists of quotients, and what it makes of s, u, v -/
noncomputable def quoR (S : Nat → Nat → Int) (step : Nat) : Nat → Int := fun r => (S r step).fdiv (S step step)
noncomputable def quoC (S : Nat → Nat → Int) (step : Nat) : Nat → Int := fun c => (S step c).fdiv (S step step)
noncomputable def ccS (S : Nat → Nat → Int) (step m n : Nat) : Nat → Nat → Int := redC (redR S (quoR S step) step m) (quoC S step) step n
noncomputable def ccU (S U : Nat → Nat → Int) (step m : Nat) : Nat → Nat → Int := redR U (quoR S step) step m
noncomputable def ccV (S V : Nat → Nat → Int) (step n : Nat) : Nat → Nat → Int := redC V (quoC S step) step n
noncomputable def ccDone (S : Nat → Nat → Int) (step m n : Nat) : Prop := (∀ r, step < r → r < m → ccS S step m n r step = 0) ∧ ∀ c, step < c → c < n → ccS S step m n step c = 0
end Mine
namespace Mine
noncomputable def addM (B : Nat → Nat → Int) (step r : Nat) : Nat → Nat → Int := setRow B step (fun c => B step c + B r c)
/-- what the walk of smith_form asks of an invariant I (measure, step, s, u, v) -/
structure SPlan (fits : Int → Int → Prop) (m n : Nat) (I : Nat → Nat → (Nat → Nat → Int) → (Nat → Nat → Int) → (Nat → Nat → Int) → Prop) (R : (Nat → Nat → Int) → Prop) : Prop where
  fin : ∀ {k step S U V}, I k step S U V → (step < min m n → LS S step n m step none) → R S
  le : ∀ {k step S U V}, I k step S U V → step ≤ min m n
  fit : ∀ {k step S U V r c}, I k step S U V → step < min m n → LS S step n m step (some (r, c)) →
    (∀ r' c', step < r' → r' < m → c' < n → fits (quoR (swC (swR S r step) c step) step r') (swC (swR S r step) c step step c')) ∧
    (∀ r' c', step < r' → r' < m → c' < m → fits (quoR (swC (swR S r step) c step) step r') (swR U r step step c')) ∧
    (∀ c' r', step < c' → c' < n → r' < m → fits (quoC (swC (swR S r step) c step) step c') (redR (swC (swR S r step) c step) (quoR (swC (swR S r step) c step) step) step m r' step)) ∧
    (∀ c' r', step < c' → c' < n → r' < n → fits (quoC (swC (swR S r step) c step) step c') (swC V c step r' step))
  undone : ∀ {k step S U V r c}, I k step S U V → step < min m n → LS S step n m step (some (r, c)) → ¬ ccDone (swC (swR S r step) c step) step m n →
    ∃ k', k' < k ∧ I k' step (ccS (swC (swR S r step) c step) step m n) (ccU (swC (swR S r step) c step) (swR U r step) step m) (ccV (swC (swR S r step) c step) (swC V c step) step n)
  undiv : ∀ {k step S U V r c q}, I k step S U V → step < min m n → LS S step n m step (some (r, c)) → ccDone (swC (swR S r step) c step) step m n → step < q → q < m →
    (∃ c', step < c' ∧ c' < n ∧ (ccS (swC (swR S r step) c step) step m n q c').fmod (ccS (swC (swR S r step) c step) step m n step step) ≠ 0) →
    ∃ k', k' < k ∧ I k' step (addM (ccS (swC (swR S r step) c step) step m n) step q) (addM (ccU (swC (swR S r step) c step) (swR U r step) step m) step q) (ccV (swC (swR S r step) c step) (swC V c step) step n)
  next : ∀ {k step S U V r c}, I k step S U V → step < min m n → LS S step n m step (some (r, c)) → ccDone (swC (swR S r step) c step) step m n →
    (∀ q c', step < q → q < m → step < c' → c' < n → (ccS (swC (swR S r step) c step) step m n q c').fmod (ccS (swC (swR S r step) c step) step m n step step) = 0) →
    ∃ k', k' < k ∧ I k' (step + 1) (negM (decide (ccS (swC (swR S r step) c step) step m n step step < 0)) (ccS (swC (swR S r step) c step) step m n) step)
      (negM (decide (ccS (swC (swR S r step) c step) step m n step step < 0)) (ccU (swC (swR S r step) c step) (swR U r step) step m) step) (ccV (swC (swR S r step) c step) (swC V c step) step n)
end Mine
namespace Mine
/-- a deed with rows -/
inductive RowDeed (m : Nat) (B : Nat → Nat → Int) : (Nat → Nat → Int) → Prop
  | swap {i j : Nat} : i < m → j < m → RowDeed m B (swR B i j)
  | neg {i : Nat} : i < m → RowDeed m B (setRow B i (fun c => 0 - B i c))
  | add {i j : Nat} {t : Int} : i < m → j < m → i ≠ j → t.natAbs ≤ 3 → RowDeed m B (setRow B i (fun c => B i c + t * B j c))
  | same : RowDeed m B B
/-- the k-th partial sum of multiples of rows -/
noncomputable def hangS (B : Nat → Nat → Int) (t : Nat → Int) : Nat → Nat → Int
  | 0, _ => 0
  | k + 1, c => hangS B t k c + t k * B k c
/-- a row that hangs on the others, put behind all -/
noncomputable def hangM (m : Nat) (B : Nat → Nat → Int) (t : Nat → Int) : Nat → Nat → Int := fun r c => if r < m then B r c else hangS B t m c
end Mine
namespace Mine
theorem hangS_congr {B : Nat → Nat → Int} {t t' : Nat → Int} : ∀ {k : Nat}, (∀ i, i < k → t i = t' i) → ∀ c, hangS B t k c = hangS B t' k c
  | 0, _, c => rfl
  | k + 1, h, c => by unfold hangS; rw [hangS_congr (fun i hi => h i (by solve_by_elim (maxDepth := 3) only [*, Nat.le_of_lt, Nat.lt_of_lt_of_le, Nat.lt_of_le_of_lt, Nat.le_trans, Nat.pos_of_ne_zero, Nat.ne_of_gt, Nat.le_refl, Nat.lt_trans, Nat.succ_ne_zero, Nat.le_add_right, Nat.ne_of_lt, Ne.symm, Nat.succ_le_of_lt, Nat.lt_irrefl, absurd])) c, h k (by solve_by_elim (maxDepth := 3) only [*, Nat.le_of_lt, Nat.lt_of_lt_of_le, Nat.lt_of_le_of_lt, Nat.le_trans, Nat.pos_of_ne_zero, Nat.ne_of_gt, Nat.le_refl, Nat.lt_trans, Nat.succ_ne_zero, Nat.le_add_right, Nat.ne_of_lt, Ne.symm, Nat.succ_le_of_lt, Nat.lt_irrefl, absurd])]
end Mine
namespace Mine
noncomputable def unitM' (i j : Nat) : Int := if i = j then 1 else 0
inductive DeedsN (m : Nat) (X : Nat → Nat → Int) : Nat → (Nat → Nat → Int) → Prop
  | zero : DeedsN m X 0 X
  | succ {k Y Z} : DeedsN m X k Y → RowDeed m Y Z → DeedsN m X (k + 1) Z
noncomputable def diagL (m n : Nat) (S : Nat → Nat → Int) : List Int := (List.range (min m n)).map fun i => S i i
theorem hangS_size {m n : Nat} {B : Nat → Nat → Int} {t : Nat → Int} {e : Nat} (hB : ∀ i j, i < m → j < n → (B i j).natAbs ≤ e) (ht : ∀ i, i < m → (t i).natAbs ≤ 2) : ∀ k c, k ≤ m → c < n → (hangS B t k c).natAbs ≤ k * (2 * e)
  | 0, c, _, _ => by simp [hangS]
  | k + 1, c, hk, hc => by
    have h1 := hangS_size hB ht k c (by exact Nat.le_of_lt (by assumption)) hc
    have h2 : (t k * B k c).natAbs ≤ 2 * e := by rw [Int.natAbs_mul]; exact Nat.mul_le_mul (ht k (by assumption)) (hB k c (by assumption) hc)
    unfold hangS
    rw [Nat.succ_mul]
    omega
theorem hangM_size {m n : Nat} {B : Nat → Nat → Int} {t : Nat → Int} (hm : m ≤ 3) (hB : ∀ i j, i < m → j < n → (B i j).natAbs ≤ 384) (ht : ∀ i, i < m → (t i).natAbs ≤ 2) : ∀ i j, i < m + 1 → j < n → (hangM m B t i j).natAbs ≤ 2304 := by
  intro i j hi hj
  unfold hangM
  split
  · exact Nat.le_trans (hB i j (by assumption) hj) (by decide)
  · have := hangS_size hB ht m j (Nat.le_refl _) hj
    have : m * (2 * 384) ≤ 3 * (2 * 384) := Nat.mul_le_mul_right _ hm
    lia
theorem szK {m n K : Nat} (hm : m ≤ 4) (hn : n ≤ 3) (hK : K ≤ 20) : K * 2 ^ (m * n) ≤ 30000000 := by
  have h1 : m * n ≤ 12 := Nat.le_trans (Nat.mul_le_mul hm hn) (by decide)
  have h2 : 2 ^ (m * n) ≤ 4096 := Nat.le_trans (pow_le h1) (by decide)
  have := Nat.mul_le_mul hK h2
  (exact Nat.le_trans (by assumption) (by decide))
/-- what the walk of the law takes of plain maths; SO m n B S: S is a form by divisors of B -/
structure Maths (fits : Int → Int → Prop) (SO : Nat → Nat → (Nat → Nat → Int) → (Nat → Nat → Int) → Prop) : Prop where
  herm : ∀ {m n k X Y H H'}, DeedsN m X k Y → HEnd m n X unitM' H → HEnd m n Y unitM' H' → ∀ i j, i < m → j < n → H' i j = H i j
  hang : ∀ {m n k X Y t H H'}, DeedsN m X k Y → HEnd m n X unitM' H → HEnd (m + 1) n (hangM m Y t) unitM' H' → ∀ i j, i < m + 1 → j < n → H' i j = if i < m then H i j else 0
  size3 : ∀ {m n k X Y}, k ≤ 3 → (∀ i j, i < m → j < n → (X i j).natAbs ≤ 6) → DeedsN m X k Y → ∀ i j, i < m → j < n → (Y i j).natAbs ≤ 384
  plan1 : ∀ {m n X}, 1 ≤ m → m ≤ 3 → 1 ≤ n → n ≤ 3 → (∀ i j, i < m → j < n → (X i j).natAbs ≤ 6) → ∃ I k, SPlan fits m n I (SO m n X) ∧ I k 0 X unitM' unitM'
  plan2 : ∀ {m n X Y t}, 1 ≤ m → m ≤ 3 → 1 ≤ n → n ≤ 3 → (∀ i j, i < m → j < n → (X i j).natAbs ≤ 6) → DeedsN m X 3 Y → (∀ i, i < m → (t i).natAbs ≤ 2) → ∃ I k, SPlan fits (m + 1) n I (SO (m + 1) n (hangM m Y t)) ∧ I k 0 (hangM m Y t) unitM' unitM'
  plan3 : ∀ {m n X Y Z}, 1 ≤ m → m ≤ 3 → 1 ≤ n → n ≤ 3 → (∀ i j, i < m → j < n → (X i j).natAbs ≤ 6) → DeedsN m X 3 Y → DeedsN n (fun i j => Y j i) 2 Z → ∃ I k, SPlan fits n m I (SO n m Z) ∧ I k 0 Z unitM' unitM'
  same2 : ∀ {m n X Y t S S'}, DeedsN m X 3 Y → SO m n X S → SO (m + 1) n (hangM m Y t) S' → (diagL (m + 1) n S').filter (fun x => x != 0) = (diagL m n S).filter (fun x => x != 0)
  same3 : ∀ {m n X Y Z S S'}, DeedsN m X 3 Y → DeedsN n (fun i j => Y j i) 2 Z → SO m n X S → SO n m Z S' → diagL n m S' = diagL m n S
end Mine
namespace Mine
noncomputable def sumN : Nat → (Nat → Int) → Int
  | 0, _ => 0
  | n + 1, f => sumN n f + f n
theorem sumN_congr : ∀ {n : Nat} {f g : Nat → Int}, (∀ i, i < n → f i = g i) → sumN n f = sumN n g
  | 0, _, _, _ => rfl
  | n + 1, f, g, h => by unfold sumN; rw [sumN_congr (fun i hi => h i (by solve_by_elim (maxDepth := 3) only [*, Nat.le_of_lt, Nat.lt_of_lt_of_le, Nat.lt_of_le_of_lt, Nat.le_trans, Nat.pos_of_ne_zero, Nat.ne_of_gt, Nat.le_refl, Nat.lt_trans, Nat.succ_ne_zero, Nat.le_add_right, Nat.ne_of_lt, Ne.symm, Nat.succ_le_of_lt, Nat.lt_irrefl, absurd])), h n (by solve_by_elim (maxDepth := 3) only [*, Nat.le_of_lt, Nat.lt_of_lt_of_le, Nat.lt_of_le_of_lt, Nat.le_trans, Nat.pos_of_ne_zero, Nat.ne_of_gt, Nat.le_refl, Nat.lt_trans, Nat.succ_ne_zero, Nat.le_add_right, Nat.ne_of_lt, Ne.symm, Nat.succ_le_of_lt, Nat.lt_irrefl, absurd])]
theorem sumN_add : ∀ (n : Nat) (f g : Nat → Int), sumN n (fun i => f i + g i) = sumN n f + sumN n g
  | 0, _, _ => rfl
  | n + 1, f, g => by unfold sumN; rw [sumN_add n]; dsimp only; (simp +arith only [*])
theorem sumN_mul : ∀ (n : Nat) (k : Int) (f : Nat → Int), sumN n (fun i => k * f i) = k * sumN n f
  | 0, _, _ => by simp [sumN]
  | n + 1, k, f => by unfold sumN; rw [sumN_mul n, Int.mul_add]
theorem sumN_zero : ∀ {n : Nat} {f : Nat → Int}, (∀ i, i < n → f i = 0) → sumN n f = 0
  | 0, _, _ => rfl
  | n + 1, f, h => by unfold sumN; rw [sumN_zero (fun i hi => h i (by solve_by_elim (maxDepth := 3) only [*, Nat.le_of_lt, Nat.lt_of_lt_of_le, Nat.lt_of_le_of_lt, Nat.le_trans, Nat.pos_of_ne_zero, Nat.ne_of_gt, Nat.le_refl, Nat.lt_trans, Nat.succ_ne_zero, Nat.le_add_right, Nat.ne_of_lt, Ne.symm, Nat.succ_le_of_lt, Nat.lt_irrefl, absurd])), h n (by solve_by_elim (maxDepth := 3) only [*, Nat.le_of_lt, Nat.lt_of_lt_of_le, Nat.lt_of_le_of_lt, Nat.le_trans, Nat.pos_of_ne_zero, Nat.ne_of_gt, Nat.le_refl, Nat.lt_trans, Nat.succ_ne_zero, Nat.le_add_right, Nat.ne_of_lt, Ne.symm, Nat.succ_le_of_lt, Nat.lt_irrefl, absurd])]; rfl
theorem sumN_one : ∀ {n : Nat} {f : Nat → Int} {i : Nat}, i < n → (∀ k, k < n → k ≠ i → f k = 0) → sumN n f = f i
  | n + 1, f, i, hi, h => by
    unfold sumN
    by_cases e : i = n
    · subst e
      rw [sumN_zero (fun k hk => h k (by solve_by_elim (maxDepth := 3) only [*, Nat.le_of_lt, Nat.lt_of_lt_of_le, Nat.lt_of_le_of_lt, Nat.le_trans, Nat.pos_of_ne_zero, Nat.ne_of_gt, Nat.le_refl, Nat.lt_trans, Nat.succ_ne_zero, Nat.le_add_right, Nat.ne_of_lt, Ne.symm, Nat.succ_le_of_lt, Nat.lt_irrefl, absurd]) (by solve_by_elim (maxDepth := 3) only [*, Nat.le_of_lt, Nat.lt_of_lt_of_le, Nat.lt_of_le_of_lt, Nat.le_trans, Nat.pos_of_ne_zero, Nat.ne_of_gt, Nat.le_refl, Nat.lt_trans, Nat.succ_ne_zero, Nat.le_add_right, Nat.ne_of_lt, Ne.symm, Nat.succ_le_of_lt, Nat.lt_irrefl, absurd]))]; (simp +arith only [*])
    · rw [sumN_one (i := i) (by lia) (fun k hk hne => h k (by solve_by_elim (maxDepth := 3) only [*, Nat.le_of_lt, Nat.lt_of_lt_of_le, Nat.lt_of_le_of_lt, Nat.le_trans, Nat.pos_of_ne_zero, Nat.ne_of_gt, Nat.le_refl, Nat.lt_trans, Nat.succ_ne_zero, Nat.le_add_right, Nat.ne_of_lt, Ne.symm, Nat.succ_le_of_lt, Nat.lt_irrefl, absurd]) hne), h n (by solve_by_elim (maxDepth := 3) only [*, Nat.le_of_lt, Nat.lt_of_lt_of_le, Nat.lt_of_le_of_lt, Nat.le_trans, Nat.pos_of_ne_zero, Nat.ne_of_gt, Nat.le_refl, Nat.lt_trans, Nat.succ_ne_zero, Nat.le_add_right, Nat.ne_of_lt, Ne.symm, Nat.succ_le_of_lt, Nat.lt_irrefl, absurd]) (fun q => e q.symm)]; (simp +arith only [*])
/-- v is a sum of multiples of the rows of A -/
noncomputable def InL (m n : Nat) (A : Nat → Nat → Int) (v : Nat → Int) : Prop := ∃ x : Nat → Int, ∀ j, j < n → v j = sumN m (fun i => x i * A i j)
theorem InL.row {m n : Nat} {A : Nat → Nat → Int} {i : Nat} (hi : i < m) : InL m n A (A i) :=
  ⟨fun k => if k = i then 1 else 0, fun j _ => by rw [sumN_one hi (fun k _ hne => by simp [hne])]; simp⟩
theorem InL.add {m n : Nat} {A : Nat → Nat → Int} {v w : Nat → Int} (x : InL m n A v) (y : InL m n A w) : InL m n A (fun j => v j + w j) := by
  obtain ⟨a, ha⟩ := x
  obtain ⟨b, hb⟩ := y
  refine ⟨fun i => a i + b i, fun j hj => ?_⟩
  show v j + w j = _
  rw [ha j hj, hb j hj, ← sumN_add]
  exact sumN_congr fun i _ => by rw [Int.add_mul]
theorem InL.smul {m n : Nat} {A : Nat → Nat → Int} {v : Nat → Int} (k : Int) (x : InL m n A v) : InL m n A (fun j => k * v j) := by
  obtain ⟨a, ha⟩ := x
  refine ⟨fun i => k * a i, fun j hj => ?_⟩
  show k * v j = _
  rw [ha j hj, ← sumN_mul]
  exact sumN_congr fun i _ => by rw [Int.mul_assoc]
theorem InL.congr {m n : Nat} {A : Nat → Nat → Int} {v w : Nat → Int} (x : InL m n A v) (h : ∀ j, j < n → v j = w j) : InL m n A w := let ⟨a, ha⟩ := x; ⟨a, fun j hj => (h j hj).symm.trans (ha j hj)⟩
theorem InL.zero {m n : Nat} {A : Nat → Nat → Int} : InL m n A (fun _ => 0) := ⟨fun _ => 0, fun j _ => (sumN_zero fun i _ => by simp).symm⟩
theorem InL.sub {m n : Nat} {A : Nat → Nat → Int} {v w : Nat → Int} (x : InL m n A v) (y : InL m n A w) : InL m n A (fun j => v j - w j) := (x.add (y.smul (-1))).congr fun j _ => by simp +arith only [*]
theorem InL.sum {m n : Nat} {A : Nat → Nat → Int} {x : Nat → Int} {R : Nat → Nat → Int} : ∀ (k : Nat), (∀ i, i < k → InL m n A (R i)) → InL m n A (fun j => sumN k (fun i => x i * R i j))
  | 0, _ => InL.zero
  | k + 1, h => (InL.sum k fun i hi => h i (by solve_by_elim (maxDepth := 3) only [*, Nat.le_of_lt, Nat.lt_of_lt_of_le, Nat.lt_of_le_of_lt, Nat.le_trans, Nat.pos_of_ne_zero, Nat.ne_of_gt, Nat.le_refl, Nat.lt_trans, Nat.succ_ne_zero, Nat.le_add_right, Nat.ne_of_lt, Ne.symm, Nat.succ_le_of_lt, Nat.lt_irrefl, absurd])).add ((h k (by solve_by_elim (maxDepth := 3) only [*, Nat.le_of_lt, Nat.lt_of_lt_of_le, Nat.lt_of_le_of_lt, Nat.le_trans, Nat.pos_of_ne_zero, Nat.ne_of_gt, Nat.le_refl, Nat.lt_trans, Nat.succ_ne_zero, Nat.le_add_right, Nat.ne_of_lt, Ne.symm, Nat.succ_le_of_lt, Nat.lt_irrefl, absurd])).smul (x k))
/-- every row of A hangs on the rows of A' -/
noncomputable def Sub (m : Nat) (A : Nat → Nat → Int) (m' : Nat) (A' : Nat → Nat → Int) (n : Nat) : Prop := ∀ i, i < m → InL m' n A' (A i)
theorem Sub.inL {m m' n : Nat} {A A' : Nat → Nat → Int} {v : Nat → Int} (s : Sub m A m' A' n) (x : InL m n A v) : InL m' n A' v := by
  obtain ⟨a, ha⟩ := x
  exact (InL.sum m s).congr fun j hj => (ha j hj).symm
theorem Sub.refl (m : Nat) (A : Nat → Nat → Int) (n : Nat) : Sub m A m A n := fun i hi => InL.row hi
theorem Sub.trans {m m' m'' n : Nat} {A A' A'' : Nat → Nat → Int} (x : Sub m A m' A' n) (y : Sub m' A' m'' A'' n) : Sub m A m'' A'' n := fun i hi => y.inL (x i hi)
noncomputable def Eqv (m : Nat) (A : Nat → Nat → Int) (m' : Nat) (A' : Nat → Nat → Int) (n : Nat) : Prop := Sub m A m' A' n ∧ Sub m' A' m A n
theorem Eqv.refl (m : Nat) (A : Nat → Nat → Int) (n : Nat) : Eqv m A m A n := ⟨.refl _ _ _, .refl _ _ _⟩
theorem Eqv.symm {m m' n : Nat} {A A' : Nat → Nat → Int} (x : Eqv m A m' A' n) : Eqv m' A' m A n := ⟨x.2, x.1⟩
theorem Eqv.trans {m m' m'' n : Nat} {A A' A'' : Nat → Nat → Int} (x : Eqv m A m' A' n) (y : Eqv m' A' m'' A'' n) : Eqv m A m'' A'' n := ⟨x.1.trans y.1, y.2.trans x.2⟩
theorem Gcd.exact {a b g s t : Int} (x : Gcd a b g s t) (hb : b ≠ 0) : a = g * a.fdiv g ∧ b = g * b.fdiv g ∧ s * a.fdiv g + t * b.fdiv g = 1 := by
  have hg := x.pos hb
  have h1 : a = g * a.fdiv g := by
    have := fdm a g
    rw [Int.fmod_eq_emod_of_nonneg a (Int.le_of_lt hg), Int.emod_eq_zero_of_dvd x.da] at this
    lia
  have h2 : b = g * b.fdiv g := by
    have := fdm b g
    rw [Int.fmod_eq_emod_of_nonneg b (Int.le_of_lt hg), Int.emod_eq_zero_of_dvd x.db] at this
    lia
  refine ⟨h1, h2, ?_⟩
  have e := x.eq
  generalize a.fdiv g = p at *
  generalize b.fdiv g = q at *
  have : g * (s * p + t * q) = g * 1 := by rw [Int.mul_one]; conv => rhs; rw [e]
                                           rw [h1, h2]; grind
  exact Int.eq_of_mul_eq_mul_left (Int.ne_of_gt hg) this
theorem combM_eqv {m n i j : Nat} {B : Nat → Nat → Int} {s t u v : Int} (hi : i < m) (hj : j < m) (hij : i ≠ j) (hdet : s * v - t * u = 1) : Eqv m (combM B i j s t u v) m B n := by
  have ri : ∀ c, combM B i j s t u v i c = s * B i c + t * B j c := fun c => by unfold combM; rw [if_neg hij, if_pos rfl]
  have rj : ∀ c, combM B i j s t u v j c = u * B i c + v * B j c := fun c => by unfold combM; rw [if_pos rfl]
  have ro : ∀ r c, r ≠ i → r ≠ j → combM B i j s t u v r c = B r c := fun r c h1 h2 => by unfold combM; rw [if_neg h2, if_neg h1]
  constructor
  · intro r hr
    by_cases e1 : r = j
    · subst e1; exact (((InL.row hi).smul u).add ((InL.row hr).smul v)).congr fun c _ => (rj c).symm
    · by_cases e2 : r = i
      · subst e2; exact (((InL.row hr).smul s).add ((InL.row hj).smul t)).congr fun c _ => (ri c).symm
      · exact (InL.row hr).congr fun c _ => (ro r c e2 e1).symm
  · intro r hr
    by_cases e1 : r = j
    · subst e1
      refine (((InL.row hi).smul (-u)).add ((InL.row hr).smul s)).congr fun c _ => ?_
      rw [ri, rj]
      have : s * (v * B r c) - t * (u * B r c) = B r c := by rw [← Int.mul_assoc, ← Int.mul_assoc, ← Int.sub_mul, hdet, Int.one_mul]
      grind
    · by_cases e2 : r = i
      · subst e2
        refine (((InL.row hr).smul v).add ((InL.row hj).smul (-t))).congr fun c _ => ?_
        rw [ri, rj]
        have : s * (v * B r c) - t * (u * B r c) = B r c := by rw [← Int.mul_assoc, ← Int.mul_assoc, ← Int.sub_mul, hdet, Int.one_mul]
        grind
      · exact (InL.row hr).congr fun c _ => ro r c e2 e1
theorem CB.eqv {row col o0 o m n : Nat} {H0 U0 H U : Nat → Nat → Int} (x : CB row col o0 H0 U0 o H U) (hr : row < o0) (ho : o ≤ m) : Eqv m H m H0 n ∧ o0 ≤ o := by
  induction x with
  | nil => exact ⟨Eqv.refl _ _ _, Nat.le_refl _⟩
  | skip _ _ ih => obtain ⟨a, b⟩ := ih (by exact Nat.le_of_lt (by assumption)); exact ⟨a, by solve_by_elim (maxDepth := 3) only [*, Nat.le_of_lt, Nat.lt_of_lt_of_le, Nat.lt_of_le_of_lt, Nat.le_trans, Nat.pos_of_ne_zero, Nat.ne_of_gt, Nat.le_refl, Nat.lt_trans, Nat.succ_ne_zero, Nat.le_add_right, Nat.ne_of_lt, Ne.symm, Nat.succ_le_of_lt, Nat.lt_irrefl, absurd]⟩
  | step _ hne hg ih =>
    obtain ⟨a, b⟩ := ih (by exact Nat.le_of_lt (by assumption))
    obtain ⟨e1, e2, e3⟩ := hg.exact hne
    refine ⟨(combM_eqv (by lia) (by assumption) (by lia) ?_).trans a, by solve_by_elim (maxDepth := 3) only [*, Nat.le_of_lt, Nat.lt_of_lt_of_le, Nat.lt_of_le_of_lt, Nat.le_trans, Nat.pos_of_ne_zero, Nat.ne_of_gt, Nat.le_refl, Nat.lt_trans, Nat.succ_ne_zero, Nat.le_add_right, Nat.ne_of_lt, Ne.symm, Nat.succ_le_of_lt, Nat.lt_irrefl, absurd]⟩
    rw [← e3]; grind
theorem rows_eqv {m n s : Nat} {B B' : Nat → Nat → Int} {p : Nat → Int} (hs : s < m) (hp : p s = 0) (h : ∀ r c, r < m → c < n → B' r c = B r c + p r * B s c) : Eqv m B' m B n := by
  have hss : ∀ c, c < n → B' s c = B s c := fun c hc => by rw [h s c hs hc, hp]; simp
  constructor
  · exact fun r hr => ((InL.row hr).add ((InL.row hs).smul (p r))).congr fun c hc => (h r c hr hc).symm
  · exact fun r hr => ((InL.row hr).add ((InL.row hs).smul (-(p r)))).congr fun c hc => by rw [hss c hc, h r c hr hc, Int.neg_mul]; (simp +arith only [*])
theorem redM_eqv {m n row : Nat} {B : Nat → Nat → Int} {q : Nat → Int} (hr : row < m) : Eqv m (redM B q row row) m B n := by
  refine rows_eqv (s := row) (p := fun r => if r < row then -(q r) else 0) hr (by simp) fun r c _ _ => ?_
  unfold redM
  by_cases e : r < row
  · simp only [if_pos e]; rw [Int.neg_mul]; (solve_by_elim (maxDepth := 3) only [*, Nat.le_of_lt, Nat.lt_of_lt_of_le, Nat.lt_of_le_of_lt, Nat.le_trans, Nat.pos_of_ne_zero, Nat.ne_of_gt, Nat.le_refl, Nat.lt_trans, Nat.succ_ne_zero, Nat.le_add_right, Nat.ne_of_lt, Ne.symm, Nat.succ_le_of_lt, Nat.lt_irrefl, absurd])
  · simp only [if_neg e]; (simp +arith only [*])
theorem setNeg_eqv {m n row : Nat} {B : Nat → Nat → Int} (hr : row < m) : Eqv m (setRow B row (fun c => -(B row c))) m B n := by
  constructor
  · intro r hr'
    by_cases e : r = row
    · subst e; exact ((InL.row hr).smul (-1)).congr fun c _ => by unfold setRow; rw [if_pos rfl]; dsimp only; (simp +arith only [*])
    · exact (InL.row hr').congr fun c _ => by unfold setRow; rw [if_neg e]
  · intro r hr'
    by_cases e : r = row
    · subst e; exact ((InL.row hr).smul (-1)).congr fun c _ => by unfold setRow; rw [if_pos rfl]; dsimp only; (simp +arith only [*])
    · exact (InL.row hr').congr fun c _ => by unfold setRow; rw [if_neg e]
theorem negM_eqv {m n row : Nat} {B : Nat → Nat → Int} {b : Bool} (hr : row < m) : Eqv m (negM b B row) m B n := by
  unfold negM
  split
  · exact setNeg_eqv hr
  · exact Eqv.refl _ _ _
theorem HF.eqv {m n : Nat} {H0 U0 H U : Nat → Nat → Int} {c row : Nat} (x : HF m H0 U0 c row H U) : Eqv m H m H0 n := by
  induction x with
  | nil => exact Eqv.refl _ _ _
  | zero _ hlt hcb _ ih => exact (hcb.eqv (Nat.lt_succ_self _) (Nat.le_refl _)).1.trans ih
  | step _ hlt hcb _ ih => exact ((redM_eqv hlt).trans (negM_eqv hlt)).trans ((hcb.eqv (Nat.lt_succ_self _) (Nat.le_refl _)).1.trans ih)
theorem swR_eqv {m n i j : Nat} {B : Nat → Nat → Int} (hi : i < m) (hj : j < m) : Eqv m (swR B i j) m B n :=
  ⟨fun r hr => InL.row (swp_lt hi hj hr), fun r hr => (InL.row (A := swR B i j) (swp_lt hi hj hr)).congr fun c _ => by unfold swR; rw [swp_swp]⟩
theorem RowDeed.eqv {m n : Nat} {B B' : Nat → Nat → Int} (x : RowDeed m B B') : Eqv m B' m B n := by
  cases x with
  | swap hi hj => exact swR_eqv hi hj
  | neg hi =>
    rename_i i
    have e : setRow B i (fun c => 0 - B i c) = setRow B i (fun c => -(B i c)) := by
      funext r c; unfold setRow; split
      · dsimp only; (simp +arith only [*])
      · rfl
    rw [e]; exact setNeg_eqv hi
  | add hi hj hij ht =>
    rename_i i j t
    refine rows_eqv (s := j) (p := fun r => if r = i then t else 0) hj (by simp [Ne.symm hij]) fun r c _ _ => ?_
    unfold setRow
    by_cases e : r = i
    · subst e; simp
    · simp [e]
  | same => exact Eqv.refl _ _ _
theorem DeedsN.eqv {m n k : Nat} {X Y : Nat → Nat → Int} (x : DeedsN m X k Y) : Eqv m Y m X n := by
  induction x with
  | zero => exact Eqv.refl _ _ _
  | succ _ h ih => exact h.eqv.trans ih
theorem hangS_inL {m n : Nat} {B : Nat → Nat → Int} {t : Nat → Int} : ∀ k, k ≤ m → InL m n B (hangS B t k)
  | 0, _ => InL.zero.congr fun c _ => rfl
  | k + 1, h => ((hangS_inL k (by exact Nat.le_of_lt (by assumption))).add ((InL.row (by assumption : k < m)).smul (t k))).congr fun c _ => rfl
theorem hangM_eqv {m n : Nat} {B : Nat → Nat → Int} {t : Nat → Int} : Eqv (m + 1) (hangM m B t) m B n := by
  constructor
  · intro r hr
    by_cases e : r < m
    · exact (InL.row e).congr fun c _ => by unfold hangM; rw [if_pos e]
    · exact (hangS_inL m (Nat.le_refl _)).congr fun c _ => by unfold hangM; rw [if_neg e]
  · intro r hr
    exact (InL.row (A := hangM m B t) (by (solve_by_elim (maxDepth := 3) only [*, Nat.le_of_lt, Nat.lt_of_lt_of_le, Nat.lt_of_le_of_lt, Nat.le_trans, Nat.pos_of_ne_zero, Nat.ne_of_gt, Nat.le_refl, Nat.lt_trans, Nat.succ_ne_zero, Nat.le_add_right, Nat.ne_of_lt, Ne.symm, Nat.succ_le_of_lt, Nat.lt_irrefl, absurd]) : r < m + 1)).congr fun c _ => by unfold hangM; rw [if_pos hr]
end Mine
namespace Mine
theorem combM_row {B : Nat → Nat → Int} {i j : Nat} {s t u v : Int} {r : Nat} (h1 : r ≠ i) (h2 : r ≠ j) : combM B i j s t u v r = B r := by funext c; unfold combM; rw [if_neg h2, if_neg h1]
theorem CB.keep {row col o0 o : Nat} {H0 U0 H U : Nat → Nat → Int} (x : CB row col o0 H0 U0 o H U) : o0 ≤ o ∧ ∀ r, r ≠ row → (r < o0 ∨ o ≤ r) → H r = H0 r := by
  induction x with
  | nil => exact ⟨Nat.le_refl _, fun _ _ _ => rfl⟩
  | skip _ _ ih => exact ⟨by lia, fun r h1 h2 => ih.2 r h1 (by lia)⟩
  | step _ _ _ ih => exact ⟨by lia, fun r h1 h2 => (combM_row h1 (by have := ih.1; lia)).trans (ih.2 r h1 (by lia))⟩
theorem CB.zeros {row col o0 o m j : Nat} {H0 U0 H U : Nat → Nat → Int} (x : CB row col o0 H0 U0 o H U) (hr : row < o0) (ho : o ≤ m) (h : ∀ r, row ≤ r → r < m → H0 r j = 0) : ∀ r, row ≤ r → r < m → H r j = 0 := by
  induction x with
  | nil => exact h
  | skip _ _ ih => exact ih (by exact Nat.le_of_lt (by assumption))
  | step y _ _ ih =>
    intro r h1 h2
    have ih := ih (by exact Nat.le_of_lt (by assumption))
    have := y.keep.1
    unfold combM
    rw [ih row (Nat.le_refl _) (by lia), ih _ (by lia) (by assumption)]
    simp only [Int.mul_zero, Int.add_zero]
    split
    · rfl
    · split
      · rfl
      · exact ih r h1 h2
theorem CB.col {row col o0 o : Nat} {H0 U0 H U : Nat → Nat → Int} (x : CB row col o0 H0 U0 o H U) (hr : row < o0) : ∀ r, o0 ≤ r → r < o → H r col = 0 := by
  induction x with
  | nil => intro r h1 h2; lia
  | skip _ h0 ih =>
    rename_i o H U _
    intro r h1 h2
    by_cases e : r = o
    · subst e; exact h0
    · exact ih r h1 (by lia)
  | step _ hne hg ih =>
    rename_i o H U g s t _
    intro r h1 h2
    by_cases e : r = o
    · subst e
      obtain ⟨e1, e2, _⟩ := hg.exact hne
      unfold combM
      rw [if_pos rfl]
      generalize H row col = a at *
      generalize H r col = b at *
      generalize a.fdiv g = p at *
      generalize b.fdiv g = q at *
      rw [e1, e2]; grind
    · rw [combM_row (by lia) e]; exact ih r h1 (by lia)
structure Ech (m c row : Nat) (H : Nat → Nat → Int) (piv : Nat → Nat) : Prop where
  lt : ∀ i, i < row → piv i < c
  mono : ∀ i k, i < k → k < row → piv i < piv k
  pos : ∀ i, i < row → 0 < H i (piv i)
  left : ∀ i, i < row → ∀ j, j < piv i → H i j = 0
  below : ∀ r, row ≤ r → r < m → ∀ j, j < c → H r j = 0
  red : ∀ i k, k < i → i < row → 0 ≤ H k (piv i) ∧ H k (piv i) < H i (piv i)
theorem HF.ech {m : Nat} {H0 U0 H U : Nat → Nat → Int} {c row : Nat} (x : HF m H0 U0 c row H U) : ∃ piv, Ech m c row H piv := by
  induction x with
  | nil => exact ⟨fun _ => 0, ⟨fun i hi => absurd hi (Nat.not_lt_zero _), fun i k _ hk => absurd hk (Nat.not_lt_zero _), fun i hi => absurd hi (Nat.not_lt_zero _), fun i hi => absurd hi (Nat.not_lt_zero _), fun r _ _ j hj => absurd hj (Nat.not_lt_zero _), fun i k _ hk => absurd hk (Nat.not_lt_zero _)⟩⟩
  | zero _ hlt hcb h0 ih =>
    rename_i c row H U H' U' _
    obtain ⟨piv, E⟩ := ih
    have kp : ∀ r, r < row → H' r = H r := fun r hr => hcb.keep.2 r (by solve_by_elim (maxDepth := 3) only [*, Nat.le_of_lt, Nat.lt_of_lt_of_le, Nat.lt_of_le_of_lt, Nat.le_trans, Nat.pos_of_ne_zero, Nat.ne_of_gt, Nat.le_refl, Nat.lt_trans, Nat.succ_ne_zero, Nat.le_add_right, Nat.ne_of_lt, Ne.symm, Nat.succ_le_of_lt, Nat.lt_irrefl, absurd]) (.inl (by solve_by_elim (maxDepth := 3) only [*, Nat.le_of_lt, Nat.lt_of_lt_of_le, Nat.lt_of_le_of_lt, Nat.le_trans, Nat.pos_of_ne_zero, Nat.ne_of_gt, Nat.le_refl, Nat.lt_trans, Nat.succ_ne_zero, Nat.le_add_right, Nat.ne_of_lt, Ne.symm, Nat.succ_le_of_lt, Nat.lt_irrefl, absurd]))
    refine ⟨piv, ⟨fun i hi => Nat.lt_succ_of_lt (E.lt i hi), E.mono, fun i hi => by rw [kp i hi]; exact E.pos i hi, fun i hi j hj => by rw [kp i hi]; exact E.left i hi j hj, fun r h1 h2 j hj => ?_, fun i k hk hi => by rw [kp i hi, kp k (by lia)]; exact E.red i k hk hi⟩⟩
    by_cases e : j = c
    · subst e
      by_cases e2 : r = row
      · subst e2; exact h0
      · exact hcb.col (Nat.lt_succ_self _) r (by lia) h2
    · exact hcb.zeros (Nat.lt_succ_self _) (Nat.le_refl _) (fun r h1 h2 => E.below r h1 h2 j (by lia)) r h1 h2
  | step _ hlt hcb h0 ih =>
    rename_i c row H U H' U' _
    obtain ⟨piv, E⟩ := ih
    have kp : ∀ r, r < row → H' r = H r := fun r hr => hcb.keep.2 r (by solve_by_elim (maxDepth := 3) only [*, Nat.le_of_lt, Nat.lt_of_lt_of_le, Nat.lt_of_le_of_lt, Nat.le_trans, Nat.pos_of_ne_zero, Nat.ne_of_gt, Nat.le_refl, Nat.lt_trans, Nat.succ_ne_zero, Nat.le_add_right, Nat.ne_of_lt, Ne.symm, Nat.succ_le_of_lt, Nat.lt_irrefl, absurd]) (.inl (by solve_by_elim (maxDepth := 3) only [*, Nat.le_of_lt, Nat.lt_of_lt_of_le, Nat.lt_of_le_of_lt, Nat.le_trans, Nat.pos_of_ne_zero, Nat.ne_of_gt, Nat.le_refl, Nat.lt_trans, Nat.succ_ne_zero, Nat.le_add_right, Nat.ne_of_lt, Ne.symm, Nat.succ_le_of_lt, Nat.lt_irrefl, absurd]))
    have z : ∀ r, row ≤ r → r < m → ∀ j, j < c → H' r j = 0 := fun r h1 h2 j hj => hcb.zeros (Nat.lt_succ_self _) (Nat.le_refl _) (fun r h1 h2 => E.below r h1 h2 j hj) r h1 h2
    have zc : ∀ r, row < r → r < m → H' r c = 0 := fun r h1 h2 => hcb.col (Nat.lt_succ_self _) r (by assumption) h2
    -- behind the sign
    have kn : ∀ r, r ≠ row → negM (decide (H' row c < 0)) H' row r = H' r := fun r hr => by
      funext j; unfold negM; split
      · unfold setRow; rw [if_neg hr]
      · rfl
    have nz : ∀ j, H' row j = 0 → negM (decide (H' row c < 0)) H' row row j = 0 := fun j hj => by
      unfold negM; split
      · unfold setRow; rw [if_pos rfl]; dsimp only; (simp +arith only [*])
      · exact hj
    have np : 0 < negM (decide (H' row c < 0)) H' row row c := by
      unfold negM
      by_cases hz : H' row c < 0
      · rw [decide_eq_true hz, if_pos rfl]; unfold setRow; rw [if_pos rfl]; dsimp only; lia
      · rw [decide_eq_false hz, if_neg (by simp)]; lia
    generalize negM (decide (H' row c < 0)) H' row = N at *
    have hN : ∀ r j, row ≤ r → redM N (quoM N row c) row row r j = N r j := fun r j hr => redM_at hr
    have hR : ∀ r j, r < row → redM N (quoM N row c) row row r j = N r j - quoM N row c r * N row j := fun r j hr => by unfold redM; rw [if_pos hr]
    have old : ∀ r j, r < row → j < c → redM N (quoM N row c) row row r j = H r j := fun r j hr hj => by
      rw [hR r j hr, nz j (z row (Nat.le_refl _) hlt j hj), kn r (by solve_by_elim (maxDepth := 3) only [*, Nat.le_of_lt, Nat.lt_of_lt_of_le, Nat.lt_of_le_of_lt, Nat.le_trans, Nat.pos_of_ne_zero, Nat.ne_of_gt, Nat.le_refl, Nat.lt_trans, Nat.succ_ne_zero, Nat.le_add_right, Nat.ne_of_lt, Ne.symm, Nat.succ_le_of_lt, Nat.lt_irrefl, absurd]), kp r hr]; (simp +arith only [*])
    have modc : ∀ r, r < row → 0 ≤ redM N (quoM N row c) row row r c ∧ redM N (quoM N row c) row row r c < N row c := fun r hr => by
      rw [hR r c hr]
      have h1 := fdm (N r c) (N row c)
      have h2 := fmod_pos (N r c) np
      unfold quoM
      rw [Int.mul_comm]
      omega
    refine ⟨fun i => if i = row then c else piv i, ⟨fun i hi => ?_, fun i k hik hk => ?_, fun i hi => ?_, fun i hi j hj => ?_, fun r h1 h2 j hj => ?_, fun i k hk hi => ?_⟩⟩
    · split
      · (solve_by_elim (maxDepth := 3) only [*, Nat.le_of_lt, Nat.lt_of_lt_of_le, Nat.lt_of_le_of_lt, Nat.le_trans, Nat.pos_of_ne_zero, Nat.ne_of_gt, Nat.le_refl, Nat.lt_trans, Nat.succ_ne_zero, Nat.le_add_right, Nat.ne_of_lt, Ne.symm, Nat.succ_le_of_lt, Nat.lt_irrefl, absurd])
      · have := E.lt i (by lia); (solve_by_elim (maxDepth := 3) only [*, Nat.le_of_lt, Nat.lt_of_lt_of_le, Nat.lt_of_le_of_lt, Nat.le_trans, Nat.pos_of_ne_zero, Nat.ne_of_gt, Nat.le_refl, Nat.lt_trans, Nat.succ_ne_zero, Nat.le_add_right, Nat.ne_of_lt, Ne.symm, Nat.succ_le_of_lt, Nat.lt_irrefl, absurd])
    · skip
      rw [if_neg (by lia : ¬ i = row)]
      split
      · exact E.lt i (by lia)
      · exact E.mono i k hik (by lia)
    · split
      · rename_i e; subst e; rw [hN _ _ (Nat.le_refl _)]; exact np
      · rw [old i _ (by lia) (E.lt i (by lia))]; exact E.pos i (by lia)
    · split at hj
      · rename_i e; subst e; rw [hN _ _ (Nat.le_refl _)]; exact nz j (z _ (Nat.le_refl _) hlt j hj)
      · have := E.lt i (by lia)
        rw [old i j (by lia) (by lia)]; exact E.left i (by lia) j hj
    · rw [hN r j (by exact Nat.le_of_lt (by assumption)), kn r (by solve_by_elim (maxDepth := 3) only [*, Nat.le_of_lt, Nat.lt_of_lt_of_le, Nat.lt_of_le_of_lt, Nat.le_trans, Nat.pos_of_ne_zero, Nat.ne_of_gt, Nat.le_refl, Nat.lt_trans, Nat.succ_ne_zero, Nat.le_add_right, Nat.ne_of_lt, Ne.symm, Nat.succ_le_of_lt, Nat.lt_irrefl, absurd])]
      by_cases e : j = c
      · subst e; exact zc r (by assumption) h2
      · exact z r (by exact Nat.le_of_lt (by assumption)) h2 j (by lia)
    · split
      · rename_i e; subst e; rw [hN _ _ (Nat.le_refl _)]; exact modc k hk
      · have := E.lt i (by lia)
        rw [old i _ (by lia) this, old k _ (by lia) this]; exact E.red i k hk (by lia)
/-- the form of the end -/
structure Fin' (m n row : Nat) (H : Nat → Nat → Int) (piv : Nat → Nat) : Prop where
  le : row ≤ m
  lt : ∀ i, i < row → piv i < n
  mono : ∀ i k, i < k → k < row → piv i < piv k
  pos : ∀ i, i < row → 0 < H i (piv i)
  left : ∀ i, i < row → ∀ j, j < piv i → H i j = 0
  below : ∀ r, row ≤ r → r < m → ∀ j, j < n → H r j = 0
  red : ∀ i k, k < i → i < row → 0 ≤ H k (piv i) ∧ H k (piv i) < H i (piv i)
theorem HEnd.fin {m n : Nat} {H0 U0 H : Nat → Nat → Int} (x : HEnd m n H0 U0 H) : (∃ row piv, Fin' m n row H piv) ∧ Eqv m H m H0 n := by
  obtain ⟨c, row, U, hf, hc, hr, hor⟩ := x
  obtain ⟨piv, E⟩ := hf.ech
  refine ⟨⟨row, piv, ⟨hr, fun i hi => Nat.lt_of_lt_of_le (E.lt i hi) hc, E.mono, E.pos, E.left, fun r h1 h2 j hj => ?_, E.red⟩⟩, hf.eqv⟩
  rcases hor with h | h
  · exact E.below r h1 h2 j (by simp +arith only [*])
  · lia
theorem Fin'.lead {m n row : Nat} {H : Nat → Nat → Int} {piv : Nat → Nat} (F : Fin' m n row H piv) {v : Nat → Int} (hv : InL m n H v) {c : Nat} (hc : c < n) (h0 : ∀ j, j < c → v j = 0) : v c = 0 ∨ ∃ i, i < row ∧ piv i = c ∧ H i c ∣ v c := by
  obtain ⟨x, hx⟩ := hv
  have xz : ∀ i, i < row → piv i < c → x i = 0 := by
    intro i
    induction i using Nat.strongRecOn with
    | ind i ih =>
      intro hi hlt
      have e := hx (piv i) (F.lt i hi)
      rw [h0 _ hlt, sumN_one (i := i) (by have := F.le; lia) (fun k hk hne => ?_)] at e
      · have := F.pos i hi
        rcases Int.mul_eq_zero.mp e.symm with e | e
        · exact e
        · lia
      · by_cases hkr : k < row
        · rcases Nat.lt_or_gt_of_ne hne with h | h
          · rw [ih k h hkr (Nat.lt_trans (F.mono k i h hi) hlt)]; simp
          · rw [F.left k hkr _ (F.mono i k h hkr)]; simp
        · rw [F.below k (by lia) hk _ (F.lt i hi)]; simp
  have term : ∀ k, k < m → (∀ i, i < row → piv i = c → k ≠ i) → x k * H k c = 0 := by
    intro k hk hne
    by_cases hkr : k < row
    · rcases Nat.lt_trichotomy (piv k) c with h | h | h
      · rw [xz k hkr h]; simp
      · exact absurd rfl (hne k hkr h)
      · rw [F.left k hkr c h]; simp
    · rw [F.below k (by lia) hk c hc]; simp
  by_cases hex : ∃ i, i < row ∧ piv i = c
  · obtain ⟨i, hi, e⟩ := hex
    right
    refine ⟨i, hi, e, ?_⟩
    rw [hx c hc, sumN_one (i := i) (by have := F.le; lia) (fun k hk hne => term k hk fun i' hi' e' => ?_)]
    · exact Int.dvd_mul_of_dvd_right (Int.dvd_refl _)
    · rintro rfl
      rcases Nat.lt_or_gt_of_ne hne with h | h
      · have := F.mono _ _ h hi; lia
      · have := F.mono _ _ h hi'; lia
  · left
    rw [hx c hc]
    exact sumN_zero fun k hk => term k hk fun i hi e => absurd ⟨i, hi, e⟩ hex
theorem Fin'.half {m m' n row row' : Nat} {H H' : Nat → Nat → Int} {piv piv' : Nat → Nat} (F : Fin' m n row H piv) (F' : Fin' m' n row' H' piv') (s : Sub m H m' H' n) {i : Nat} (ih : ∀ k, k < i → k < row' → piv k = piv' k ∧ k < row) (hi : i < row) : i < row' ∧ piv' i ≤ piv i := by
  have hv : InL m' n H' (H i) := s i (by have := F.le; lia)
  rcases F'.lead hv (F.lt i hi) (F.left i hi) with h | ⟨k, hk, e, _⟩
  · have := F.pos i hi; lia
  · have hki : i ≤ k := by
      rcases Nat.lt_or_ge k i with h | h
      · have h1 := (ih k h hk).1
        have h2 := F.mono k i h hi
        lia
      · exact h
    refine ⟨by lia, ?_⟩
    rcases Nat.lt_or_eq_of_le hki with h | h
    · have := F'.mono i k h hk; lia
    · subst h; (simp +arith only [*])
theorem Fin'.unique {m m' n row row' : Nat} {H H' : Nat → Nat → Int} {piv piv' : Nat → Nat} (F : Fin' m n row H piv) (F' : Fin' m' n row' H' piv') (e : Eqv m H m' H' n) :
    row = row' ∧ ∀ i, i < row → ∀ j, j < n → H i j = H' i j := by
  have key : ∀ i, (i < row ↔ i < row') ∧ (i < row → piv i = piv' i) := by
    intro i
    induction i using Nat.strongRecOn with
    | ind i ih =>
      have h1 := F.half F' e.1 (i := i) fun k hk hkr => ⟨(ih k hk).2 ((ih k hk).1.mpr hkr), (ih k hk).1.mpr hkr⟩
      have h2 := F'.half F e.2 (i := i) fun k hk hkr => ⟨((ih k hk).2 hkr).symm, (ih k hk).1.mp hkr⟩
      exact ⟨⟨fun h => (h1 h).1, fun h => (h2 h).1⟩, fun h => by have a := (h1 h); have b := h2 a.1; lia⟩
  have hrow : row = row' := by
    rcases Nat.lt_trichotomy row row' with h | h | h
    · have := (key row).1.mpr h; (solve_by_elim (maxDepth := 3) only [*, Nat.le_of_lt, Nat.lt_of_lt_of_le, Nat.lt_of_le_of_lt, Nat.le_trans, Nat.pos_of_ne_zero, Nat.ne_of_gt, Nat.le_refl, Nat.lt_trans, Nat.succ_ne_zero, Nat.le_add_right, Nat.ne_of_lt, Ne.symm, Nat.succ_le_of_lt, Nat.lt_irrefl, absurd])
    · exact h
    · have := (key row').1.mp h; (solve_by_elim (maxDepth := 3) only [*, Nat.le_of_lt, Nat.lt_of_lt_of_le, Nat.lt_of_le_of_lt, Nat.le_trans, Nat.pos_of_ne_zero, Nat.ne_of_gt, Nat.le_refl, Nat.lt_trans, Nat.succ_ne_zero, Nat.le_add_right, Nat.ne_of_lt, Ne.symm, Nat.succ_le_of_lt, Nat.lt_irrefl, absurd])
  subst hrow
  have uniq : ∀ i k, i < row → k < row → piv i = piv k → i = k := fun i k hi hk e => by
    rcases Nat.lt_trichotomy i k with h | h | h
    · have := F.mono i k h hk; lia
    · exact h
    · have := F.mono k i h hi; lia
  have hp : ∀ i, i < row → piv i = piv' i := fun i hi => (key i).2 hi
  have pv : ∀ i, i < row → H i (piv i) = H' i (piv i) := by
    intro i hi
    have p1 := F.pos i hi
    have p2 := F'.pos i hi
    rw [← hp i hi] at p2
    have d1 : H i (piv i) ∣ H' i (piv i) := by
      have hv : InL m n H (H' i) := e.2 i (by have := F'.le; lia)
      rcases F.lead hv (F.lt i hi) (by rw [hp i hi]; exact F'.left i hi) with h | ⟨k, hk, ek, d⟩
      · lia
      · obtain rfl := uniq k i hk hi ek; exact d
    have d2 : H' i (piv i) ∣ H i (piv i) := by
      have hv : InL m' n H' (H i) := e.1 i (by have := F.le; lia)
      rcases F'.lead hv (F.lt i hi) (F.left i hi) with h | ⟨k, hk, ek, d⟩
      · lia
      · rw [← hp k hk] at ek; obtain rfl := uniq k i hk hi ek; exact d
    exact Int.dvd_antisymm (by lia) (by lia) d1 d2
  refine ⟨rfl, fun i hi => ?_⟩
  have hv : InL m n H (fun j => H i j - H' i j) := (InL.row (by have := F.le; lia)).sub (e.2 i (by have := F'.le; lia))
  intro j
  induction j using Nat.strongRecOn with
  | ind j ih =>
    intro hj
    rcases F.lead hv hj (fun j' hj' => by rw [ih j' hj' (by lia)]; (simp +arith only [*])) with h | ⟨k, hk, ek, d⟩
    · lia
    · rcases Nat.lt_trichotomy k i with h | h | h
      · have := F.mono k i h hi
        rw [F.left i hi j (by lia), F'.left i hi j (by rw [← hp i hi]; omega)]
      · subst h; rw [← ek]; exact pv k hk
      · have r1 := F.red k i h hk
        have r2 := F'.red k i h hk
        rw [← hp k hk, ← pv k hk] at r2
        rw [ek] at r1 r2
        skip
        have : H i j - H' i j = 0 := by
          rcases d with ⟨q, hq⟩
          have hpos : 0 < H k j := by have := F.pos k hk; rwa [ek] at this
          rcases Int.lt_trichotomy q 0 with g | g | g
          · have := Int.mul_le_mul_of_nonneg_left (show q ≤ -1 by lia) (Int.le_of_lt hpos)
            lia
          · rw [hq, g]; simp
          · have := Int.mul_le_mul_of_nonneg_left (show 1 ≤ q by assumption) (Int.le_of_lt hpos)
            lia
        lia
theorem herm_law {m n k : Nat} {X Y H H' : Nat → Nat → Int} (d : DeedsN m X k Y) (h : HEnd m n X unitM' H) (h' : HEnd m n Y unitM' H') : ∀ i j, i < m → j < n → H' i j = H i j := by
  obtain ⟨⟨row, piv, F⟩, e⟩ := h.fin
  obtain ⟨⟨row', piv', F'⟩, e'⟩ := h'.fin
  obtain ⟨rfl, u⟩ := F'.unique F ((e'.trans d.eqv).trans e.symm)
  intro i j hi hj
  rcases Nat.lt_or_ge i row' with h | h
  · exact u i h j hj
  · rw [F.below i h hi j hj, F'.below i h hi j hj]
theorem hang_law {m n k : Nat} {X Y : Nat → Nat → Int} {t : Nat → Int} {H H' : Nat → Nat → Int} (d : DeedsN m X k Y) (h : HEnd m n X unitM' H) (h' : HEnd (m + 1) n (hangM m Y t) unitM' H') : ∀ i j, i < m + 1 → j < n → H' i j = if i < m then H i j else 0 := by
  obtain ⟨⟨row, piv, F⟩, e⟩ := h.fin
  obtain ⟨⟨row', piv', F'⟩, e'⟩ := h'.fin
  obtain ⟨rfl, u⟩ := F'.unique F (((e'.trans hangM_eqv).trans d.eqv).trans e.symm)
  intro i j hi hj
  have := F.le
  rcases Nat.lt_or_ge i row' with h | h
  · rw [if_pos (by lia)]; exact u i h j hj
  · rw [F'.below i h hi j hj]
    split
    · rw [F.below i h (by omega) j hj]
    · rfl
end Mine
namespace Mine
theorem sumN_comm : ∀ (m n : Nat) (f : Nat → Nat → Int), sumN m (fun i => sumN n (fun j => f i j)) = sumN n (fun j => sumN m (fun i => f i j))
  | 0, n, f => (sumN_zero fun _ _ => rfl).symm
  | m + 1, n, f => by
    show sumN m _ + sumN n _ = _
    rw [sumN_comm m n f, ← sumN_add]
    exact sumN_congr fun j _ => rfl
theorem sumN_ite {n i : Nat} (hi : i < n) (v : Int) : sumN n (fun r => if r = i then v else 0) = v := by
  rw [sumN_one hi (fun k _ hne => by rw [if_neg hne])]; simp
theorem sumN_swp {n i j : Nat} (hi : i < n) (hj : j < n) (f : Nat → Int) : sumN n (fun r => f (swp i j r)) = sumN n f := by
  by_cases e : i = j
  · subst e; exact sumN_congr fun r _ => by unfold swp; split <;> simp_all
  · have : sumN n (fun r => f (swp i j r)) = sumN n (fun r => f r + ((if r = i then f j - f i else 0) + (if r = j then f i - f j else 0))) := sumN_congr fun r _ => by
      unfold swp
      by_cases e1 : r = i
      · subst e1; rw [if_pos rfl, if_pos rfl, if_neg e]; (simp +arith only [*])
      · by_cases e2 : r = j
        · subst e2; rw [if_neg e1, if_pos rfl, if_neg e1, if_pos rfl]; (simp +arith only [*])
        · rw [if_neg e1, if_neg e2, if_neg e1, if_neg e2]; (simp +arith only [*])
    rw [this, sumN_add, sumN_add, sumN_ite hi, sumN_ite hj]; (simp +arith only [*])
noncomputable def bil (m n : Nat) (A : Nat → Nat → Int) (x y : Nat → Int) : Int := sumN m (fun i => x i * sumN n (fun j => A i j * y j))
noncomputable def tr (A : Nat → Nat → Int) : Nat → Nat → Int := fun i j => A j i
theorem bil_tr (m n : Nat) (A : Nat → Nat → Int) (x y : Nat → Int) : bil m n A x y = bil n m (tr A) y x := by
  unfold bil tr
  have h1 : sumN m (fun i => x i * sumN n (fun j => A i j * y j)) = sumN m (fun i => sumN n (fun j => x i * (A i j * y j))) := sumN_congr fun i _ => (sumN_mul n (x i) _).symm
  have h2 : sumN n (fun i => y i * sumN m (fun j => A j i * x j)) = sumN n (fun i => sumN m (fun j => y i * (A j i * x j))) := sumN_congr fun i _ => (sumN_mul m (y i) _).symm
  rw [h1, h2, sumN_comm]
  exact sumN_congr fun i _ => sumN_congr fun j _ => by grind
theorem bil_congr {m n : Nat} {A B : Nat → Nat → Int} (h : ∀ i j, i < m → j < n → A i j = B i j) (x y : Nat → Int) : bil m n A x y = bil m n B x y :=
  sumN_congr fun i hi => by rw [sumN_congr fun j hj => by rw [h i j hi hj]]
noncomputable def Red (m n : Nat) (A : Nat → Nat → Int) (m' n' : Nat) (A' : Nat → Nat → Int) : Prop := ∃ f g : (Nat → Int) → (Nat → Int), ∀ x y, bil m' n' A' x y = bil m n A (f x) (g y)
theorem Red.refl (m n : Nat) (A : Nat → Nat → Int) : Red m n A m n A := ⟨id, id, fun _ _ => rfl⟩
theorem Red.trans {m n m' n' m'' n'' : Nat} {A A' A'' : Nat → Nat → Int} (x : Red m n A m' n' A') (y : Red m' n' A' m'' n'' A'') : Red m n A m'' n'' A'' := by
  obtain ⟨f, g, h⟩ := x
  obtain ⟨f', g', h'⟩ := y
  exact ⟨fun x => f (f' x), fun y => g (g' y), fun x y => (h' x y).trans (h _ _)⟩
theorem Red.tr {m n m' n' : Nat} {A A' : Nat → Nat → Int} (x : Red m n A m' n' A') : Red n m (tr A) n' m' (tr A') := by
  obtain ⟨f, g, h⟩ := x
  exact ⟨g, f, fun x y => by rw [← bil_tr, h, bil_tr]⟩
theorem Red.congr {m n : Nat} {A B : Nat → Nat → Int} (h : ∀ i j, i < m → j < n → A i j = B i j) : Red m n A m n B := ⟨id, id, fun x y => (bil_congr h x y).symm⟩
noncomputable def REq (m n : Nat) (A : Nat → Nat → Int) (m' n' : Nat) (A' : Nat → Nat → Int) : Prop := Red m n A m' n' A' ∧ Red m' n' A' m n A
theorem REq.refl (m n : Nat) (A : Nat → Nat → Int) : REq m n A m n A := ⟨.refl _ _ _, .refl _ _ _⟩
theorem REq.symm {m n m' n' : Nat} {A A' : Nat → Nat → Int} (x : REq m n A m' n' A') : REq m' n' A' m n A := ⟨x.2, x.1⟩
theorem REq.trans {m n m' n' m'' n'' : Nat} {A A' A'' : Nat → Nat → Int} (x : REq m n A m' n' A') (y : REq m' n' A' m'' n'' A'') : REq m n A m'' n'' A'' := ⟨x.1.trans y.1, y.2.trans x.2⟩
theorem REq.tr {m n m' n' : Nat} {A A' : Nat → Nat → Int} (x : REq m n A m' n' A') : REq n m (tr A) n' m' (tr A') := ⟨x.1.tr, x.2.tr⟩
theorem REq.congr {m n : Nat} {A B : Nat → Nat → Int} (h : ∀ i j, i < m → j < n → A i j = B i j) : REq m n A m n B := ⟨.congr h, .congr fun i j hi hj => (h i j hi hj).symm⟩
theorem bil_flip (m n : Nat) (A : Nat → Nat → Int) : Red m n A n m (Mine.tr A) → True := fun _ => trivial
theorem Red.rows {m n s : Nat} {A A' : Nat → Nat → Int} {p : Nat → Int} (hs : s < m) (h : ∀ r c, r < m → c < n → A' r c = A r c + p r * A s c) : Red m n A m n A' := by
  refine ⟨fun x r => x r + (if r = s then sumN m (fun r => x r * p r) else 0), id, fun x y => ?_⟩
  unfold bil
  have h1 : sumN m (fun i => x i * sumN n (fun j => A' i j * y j)) = sumN m (fun i => x i * sumN n (fun j => A i j * y j) + sumN n (fun j => A s j * y j) * (x i * p i)) := sumN_congr fun i hi => by
    have : sumN n (fun j => A' i j * y j) = sumN n (fun j => A i j * y j) + p i * sumN n (fun j => A s j * y j) := by
      rw [← sumN_mul, ← sumN_add]
      exact sumN_congr fun j hj => by rw [h i j hi hj]; grind
    rw [this]; grind
  rw [h1, sumN_add, sumN_mul]
  have h2 : sumN m (fun i => (x i + if i = s then sumN m (fun r => x r * p r) else 0) * sumN n (fun j => A i j * id y j)) = sumN m (fun i => x i * sumN n (fun j => A i j * y j) + (if i = s then sumN n (fun j => A s j * y j) * sumN m (fun r => x r * p r) else 0)) := sumN_congr fun i hi => by
    by_cases e : i = s
    · subst e; simp only [if_pos, id]; grind
    · simp only [if_neg e, id]; grind
  rw [h2, sumN_add, sumN_ite hs]
theorem Red.swap {m n i j : Nat} {A : Nat → Nat → Int} (hi : i < m) (hj : j < m) : Red m n A m n (swR A i j) := by
  refine ⟨fun x r => x (swp i j r), id, fun x y => ?_⟩
  unfold bil
  rw [← sumN_swp hi hj (fun r => x (swp i j r) * sumN n (fun j => A r j * id y j))]
  exact sumN_congr fun r _ => by rw [swp_swp]; rfl
theorem REq.swapR {m n i j : Nat} {A : Nat → Nat → Int} (hi : i < m) (hj : j < m) : REq m n A m n (swR A i j) :=
  ⟨.swap hi hj, (Red.swap (A := swR A i j) hi hj).trans (.congr fun r c _ _ => by unfold swR; rw [swp_swp])⟩
theorem REq.swapC {m n i j : Nat} {A : Nat → Nat → Int} (hi : i < n) (hj : j < n) : REq m n A m n (swC A i j) := (REq.swapR (n := m) (A := Mine.tr A) hi hj).tr
theorem REq.rows {m n s : Nat} {A A' : Nat → Nat → Int} {p : Nat → Int} (hs : s < m) (hp : p s = 0) (h : ∀ r c, r < m → c < n → A' r c = A r c + p r * A s c) : REq m n A m n A' := by
  have hss : ∀ c, c < n → A' s c = A s c := fun c hc => by rw [h s c hs hc, hp]; simp
  exact ⟨.rows hs h, .rows (p := fun r => -(p r)) hs fun r c hr hc => by rw [hss c hc, h r c hr hc, Int.neg_mul]; (simp +arith only [*])⟩
theorem REq.redR {m n s k : Nat} {A : Nat → Nat → Int} {q : Nat → Int} (hs : s < m) : REq m n A m n (redR A q s k) := by
  refine .rows (s := s) (p := fun r => if s < r ∧ r < k then -(q r) else 0) hs (by simp) fun r c _ _ => ?_
  unfold Mine.redR
  by_cases e : s < r ∧ r < k
  · simp only [if_pos e]; rw [Int.neg_mul]; (solve_by_elim (maxDepth := 3) only [*, Nat.le_of_lt, Nat.lt_of_lt_of_le, Nat.lt_of_le_of_lt, Nat.le_trans, Nat.pos_of_ne_zero, Nat.ne_of_gt, Nat.le_refl, Nat.lt_trans, Nat.succ_ne_zero, Nat.le_add_right, Nat.ne_of_lt, Ne.symm, Nat.succ_le_of_lt, Nat.lt_irrefl, absurd])
  · simp only [if_neg e]; (simp +arith only [*])
theorem REq.redC {m n s k : Nat} {A : Nat → Nat → Int} {q : Nat → Int} (hs : s < n) : REq m n A m n (redC A q s k) := (REq.redR (n := m) (A := Mine.tr A) (q := q) (k := k) hs).tr
theorem REq.addM {m n s r : Nat} {A : Nat → Nat → Int} (hs : s < m) (hr : r < m) (hne : s ≠ r) : REq m n A m n (addM A s r) := by
  refine .rows (s := r) (p := fun i => if i = s then 1 else 0) hr (by simp [Ne.symm hne]) fun i c _ _ => ?_
  unfold Mine.addM setRow
  by_cases e : i = s
  · subst e; simp
  · simp [e]
theorem REq.setNeg {m n s : Nat} {A : Nat → Nat → Int} (hs : s < m) : REq m n A m n (setRow A s (fun c => -(A s c))) := by
  refine ⟨.rows (s := s) (p := fun i => if i = s then -2 else 0) hs fun i c _ _ => ?_, .rows (s := s) (p := fun i => if i = s then -2 else 0) hs fun i c _ _ => ?_⟩
  · unfold setRow
    by_cases e : i = s
    · subst e; simp; (simp +arith only [*])
    · simp [e]
  · unfold setRow
    by_cases e : i = s
    · subst e; simp; (simp +arith only [*])
    · simp [e]
theorem REq.negM {m n s : Nat} {A : Nat → Nat → Int} {b : Bool} (hs : s < m) : REq m n A m n (negM b A s) := by
  unfold Mine.negM; split
  · exact .setNeg hs
  · exact .refl _ _ _
theorem RowDeed.req {m n : Nat} {B B' : Nat → Nat → Int} (x : RowDeed m B B') : REq m n B m n B' := by
  cases x with
  | swap hi hj => exact .swapR hi hj
  | neg hi =>
    rename_i i
    have e : setRow B i (fun c => 0 - B i c) = setRow B i (fun c => -(B i c)) := by
      funext r c; unfold setRow; split
      · dsimp only; (simp +arith only [*])
      · rfl
    rw [e]; exact .setNeg hi
  | add hi hj hij ht =>
    rename_i i j t
    refine .rows (s := j) (p := fun r => if r = i then t else 0) hj (by simp [Ne.symm hij]) fun r c _ _ => ?_
    unfold setRow
    by_cases e : r = i
    · subst e; simp
    · simp [e]
  | same => exact .refl _ _ _
theorem DeedsN.req {m n k : Nat} {X Y : Nat → Nat → Int} (x : DeedsN m X k Y) : REq m n X m n Y := by
  induction x with
  | zero => exact .refl _ _ _
  | succ _ h ih => exact ih.trans h.req
theorem hangS_bil {m n : Nat} {B : Nat → Nat → Int} {t : Nat → Int} (y : Nat → Int) : ∀ k, sumN n (fun j => hangS B t k j * y j) = sumN k (fun i => t i * sumN n (fun j => B i j * y j))
  | 0 => sumN_zero fun j _ => by simp [hangS]
  | k + 1 => by
    show _ = sumN k _ + t k * sumN n _
    rw [← hangS_bil (m := m) y k, ← sumN_mul, ← sumN_add]
    exact sumN_congr fun j _ => by show (hangS B t k j + t k * B k j) * y j = _; grind
theorem hangM_req {m n : Nat} {B : Nat → Nat → Int} {t : Nat → Int} : REq m n B (m + 1) n (hangM m B t) := by
  constructor
  · refine ⟨fun x r => x r + x m * t r, id, fun x y => ?_⟩
    unfold bil
    show sumN m _ + x m * _ = _
    have h1 : sumN m (fun i => x i * sumN n (fun j => hangM m B t i j * y j)) = sumN m (fun i => x i * sumN n (fun j => B i j * y j)) := sumN_congr fun i hi => by
      congr 1; exact sumN_congr fun j _ => by unfold hangM; rw [if_pos hi]
    have h2 : sumN n (fun j => hangM m B t m j * y j) = sumN m (fun i => t i * sumN n (fun j => B i j * y j)) := by
      rw [← hangS_bil (m := m) y m]; exact sumN_congr fun j _ => by unfold hangM; rw [if_neg (Nat.lt_irrefl m)]
    rw [h1, h2, ← sumN_mul, ← sumN_add]
    exact sumN_congr fun i _ => by simp only [id]; grind
  · refine ⟨fun x r => if r < m then x r else 0, id, fun x y => ?_⟩
    unfold bil
    show _ = sumN m _ + (if m < m then x m else 0) * _
    rw [if_neg (Nat.lt_irrefl m), Int.zero_mul, Int.add_zero]
    refine sumN_congr fun i hi => ?_
    show x i * _ = (if i < m then x i else 0) * _
    rw [if_pos hi]
    congr 1; exact sumN_congr fun j _ => by unfold hangM; rw [if_pos hi]; rfl
/-- a form by divisors -/
structure SOf (m n : Nat) (B S : Nat → Nat → Int) : Prop where
  off : ∀ i j, i < m → j < n → i ≠ j → S i j = 0
  nn : ∀ i, i < min m n → 0 ≤ S i i
  ch : ∀ i, i + 1 < min m n → S i i ∣ S (i + 1) (i + 1)
  eq : REq m n B m n S
noncomputable def dOf (m n : Nat) (S : Nat → Nat → Int) (k : Nat) : Int := if k < min m n then S k k else 0
theorem sumN_cut : ∀ {m k : Nat} {f : Nat → Int}, k ≤ m → (∀ i, k ≤ i → i < m → f i = 0) → sumN m f = sumN k f
  | 0, k, f, h, _ => by have : k = 0 := by lia
                        subst this; rfl
  | m + 1, k, f, h, hz => by
    by_cases e : k = m + 1
    · subst e; rfl
    · show sumN m f + f m = _
      rw [hz m (by lia) (by solve_by_elim (maxDepth := 3) only [*, Nat.le_of_lt, Nat.lt_of_lt_of_le, Nat.lt_of_le_of_lt, Nat.le_trans, Nat.pos_of_ne_zero, Nat.ne_of_gt, Nat.le_refl, Nat.lt_trans, Nat.succ_ne_zero, Nat.le_add_right, Nat.ne_of_lt, Ne.symm, Nat.succ_le_of_lt, Nat.lt_irrefl, absurd]), sumN_cut (by lia) (fun i h1 h2 => hz i h1 (by solve_by_elim (maxDepth := 3) only [*, Nat.le_of_lt, Nat.lt_of_lt_of_le, Nat.lt_of_le_of_lt, Nat.le_trans, Nat.pos_of_ne_zero, Nat.ne_of_gt, Nat.le_refl, Nat.lt_trans, Nat.succ_ne_zero, Nat.le_add_right, Nat.ne_of_lt, Ne.symm, Nat.succ_le_of_lt, Nat.lt_irrefl, absurd]))]; (simp +arith only [*])
noncomputable def P3 (d0 d1 d2 : Int) (x y : Nat → Int) : Int := x 0 * y 0 * d0 + x 1 * y 1 * d1 + x 2 * y 2 * d2
theorem bil_diag {m n : Nat} {S : Nat → Nat → Int} (off : ∀ i j, i < m → j < n → i ≠ j → S i j = 0) (h3 : min m n ≤ 3) (x y : Nat → Int) : bil m n S x y = P3 (dOf m n S 0) (dOf m n S 1) (dOf m n S 2) x y := by
  have inner : ∀ i, i < m → sumN n (fun j => S i j * y j) = if i < n then S i i * y i else 0 := fun i hi => by
    split
    · exact sumN_one (by assumption) fun k hk hne => by rw [off i k hi hk (Ne.symm hne)]; simp
    · exact sumN_zero fun k hk => by rw [off i k hi hk (by lia)]; simp
  have e : bil m n S x y = sumN 3 (fun i => x i * (dOf m n S i * y i)) := by
    unfold bil
    rw [sumN_cut (k := min m n) (Nat.min_le_left _ _) (fun i h1 h2 => by rw [inner i h2, if_neg (by lia)]; simp), sumN_cut (m := 3) (k := min m n) h3 (fun i h1 h2 => by unfold dOf; rw [if_neg (by simp +arith only [*])]; simp)]
    exact sumN_congr fun i hi => by rw [inner i (by grind), if_pos (by grind)]; unfold dOf; rw [if_pos hi]
  rw [e]
  simp only [sumN, P3]
  grind
noncomputable def e_ (k : Nat) : Nat → Int := fun i => if i = k then 1 else 0
theorem P3_dvd {d0 d1 d2 : Int} (h1 : d0 ∣ d1) (h2 : d1 ∣ d2) (x y : Nat → Int) : d0 ∣ P3 d0 d1 d2 x y := by
  obtain ⟨p, rfl⟩ := h1
  obtain ⟨q, rfl⟩ := h2
  exact ⟨x 0 * y 0 + x 1 * y 1 * p + x 2 * y 2 * (p * q), by unfold P3; grind⟩
theorem P3_dvd2 {d0 d1 d2 : Int} (h1 : d0 ∣ d1) (h2 : d1 ∣ d2) (x y z w : Nat → Int) : d0 * d1 ∣ P3 d0 d1 d2 x y * P3 d0 d1 d2 z w - P3 d0 d1 d2 x w * P3 d0 d1 d2 z y := by
  obtain ⟨p, rfl⟩ := h1
  obtain ⟨q, rfl⟩ := h2
  refine ⟨(x 0 * z 1 - x 1 * z 0) * (y 0 * w 1 - y 1 * w 0) + q * ((x 0 * z 2 - x 2 * z 0) * (y 0 * w 2 - y 2 * w 0)) + p * q * ((x 1 * z 2 - x 2 * z 1) * (y 1 * w 2 - y 2 * w 1)), ?_⟩
  unfold P3
  generalize x 0 = x0; generalize x 1 = x1; generalize x 2 = x2
  generalize y 0 = y0; generalize y 1 = y1; generalize y 2 = y2
  generalize z 0 = z0; generalize z 1 = z1; generalize z 2 = z2
  generalize w 0 = w0; generalize w 1 = w1; generalize w 2 = w2
  grind
noncomputable def det3 (a b c d e f g h i : Int) : Int := a * (e * i - f * h) - b * (d * i - f * g) + c * (d * h - e * g)
theorem P3_det (d0 d1 d2 : Int) (x y z u v w : Nat → Int) :
    det3 (P3 d0 d1 d2 x u) (P3 d0 d1 d2 x v) (P3 d0 d1 d2 x w) (P3 d0 d1 d2 y u) (P3 d0 d1 d2 y v) (P3 d0 d1 d2 y w) (P3 d0 d1 d2 z u) (P3 d0 d1 d2 z v) (P3 d0 d1 d2 z w) =
      d0 * d1 * d2 * (det3 (x 0) (x 1) (x 2) (y 0) (y 1) (y 2) (z 0) (z 1) (z 2) * det3 (u 0) (u 1) (u 2) (v 0) (v 1) (v 2) (w 0) (w 1) (w 2)) := by
  unfold P3 det3
  generalize x 0 = x0; generalize x 1 = x1; generalize x 2 = x2
  generalize y 0 = y0; generalize y 1 = y1; generalize y 2 = y2
  generalize z 0 = z0; generalize z 1 = z1; generalize z 2 = z2
  generalize u 0 = u0; generalize u 1 = u1; generalize u 2 = u2
  generalize v 0 = v0; generalize v 1 = v1; generalize v 2 = v2
  generalize w 0 = w0; generalize w 1 = w1; generalize w 2 = w2
  grind
theorem dOf_nn {m n : Nat} {B S : Nat → Nat → Int} (x : SOf m n B S) (k : Nat) : 0 ≤ dOf m n S k := by
  unfold dOf; split
  · exact x.nn k (by assumption)
  · exact Int.le_refl 0
theorem dOf_ch {m n : Nat} {B S : Nat → Nat → Int} (x : SOf m n B S) (k : Nat) : dOf m n S k ∣ dOf m n S (k + 1) := by
  unfold dOf
  by_cases h : k + 1 < min m n
  · rw [if_pos h, if_pos (by exact Nat.le_of_lt (by assumption))]; exact x.ch k h
  · rw [if_neg h]; exact Int.dvd_zero _
theorem dOf_half {m n m' n' : Nat} {B B' S S' : Nat → Nat → Int} (x : SOf m n B S) (x' : SOf m' n' B' S') (h3 : min m n ≤ 3) (h3' : min m' n' ≤ 3) (e : Red m n S m' n' S') :
    dOf m n S 0 ∣ dOf m' n' S' 0 ∧ dOf m n S 0 * dOf m n S 1 ∣ dOf m' n' S' 0 * dOf m' n' S' 1 ∧ dOf m n S 0 * dOf m n S 1 * dOf m n S 2 ∣ dOf m' n' S' 0 * dOf m' n' S' 1 * dOf m' n' S' 2 := by
  obtain ⟨f, g, h⟩ := e
  have c0 := dOf_ch x 0
  have c1 := dOf_ch x 1
  have hb : ∀ u v, P3 (dOf m' n' S' 0) (dOf m' n' S' 1) (dOf m' n' S' 2) u v = P3 (dOf m n S 0) (dOf m n S 1) (dOf m n S 2) (f u) (g v) := fun u v => by
    rw [← bil_diag x'.off h3', ← bil_diag x.off h3, h]
  generalize dOf m n S 0 = d0 at *
  generalize dOf m n S 1 = d1 at *
  generalize dOf m n S 2 = d2 at *
  generalize dOf m' n' S' 0 = a0 at *
  generalize dOf m' n' S' 1 = a1 at *
  generalize dOf m' n' S' 2 = a2 at *
  have ev : ∀ i j, P3 a0 a1 a2 (e_ i) (e_ j) = (if i = j then (if i = 0 then a0 else if i = 1 then a1 else if i = 2 then a2 else 0) else 0) := by
    intro i j
    unfold P3 e_
    by_cases h : i = j
    · subst h
      rw [if_pos rfl]
      by_cases h0 : i = 0
      · subst h0; simp
      · by_cases h1 : i = 1
        · subst h1; simp
        · by_cases h2 : i = 2
          · subst h2; simp
          · simp [h0, h1, h2, Ne.symm h0, Ne.symm h1, Ne.symm h2]
    · rw [if_neg h]
      have k : ∀ n : Nat, (if n = i then (1 : Int) else 0) * (if n = j then 1 else 0) = 0 := fun n => by
        by_cases e1 : n = i
        · rw [if_neg (fun e2 => h (e1.symm.trans e2))]; simp
        · rw [if_neg e1]; simp
      rw [k 0, k 1, k 2]; simp
  refine ⟨?_, ?_, ?_⟩
  · have := ev 0 0
    simp only [if_true] at this
    rw [← this, hb]
    exact P3_dvd c0 c1 _ _
  · have e : a0 * a1 = P3 a0 a1 a2 (e_ 0) (e_ 0) * P3 a0 a1 a2 (e_ 1) (e_ 1) - P3 a0 a1 a2 (e_ 0) (e_ 1) * P3 a0 a1 a2 (e_ 1) (e_ 0) := by
      rw [ev, ev, ev, ev]; simp
    rw [e, hb, hb, hb, hb]
    exact P3_dvd2 c0 c1 _ _ _ _
  · have e : a0 * a1 * a2 = det3 (P3 a0 a1 a2 (e_ 0) (e_ 0)) (P3 a0 a1 a2 (e_ 0) (e_ 1)) (P3 a0 a1 a2 (e_ 0) (e_ 2)) (P3 a0 a1 a2 (e_ 1) (e_ 0)) (P3 a0 a1 a2 (e_ 1) (e_ 1)) (P3 a0 a1 a2 (e_ 1) (e_ 2)) (P3 a0 a1 a2 (e_ 2) (e_ 0)) (P3 a0 a1 a2 (e_ 2) (e_ 1)) (P3 a0 a1 a2 (e_ 2) (e_ 2)) := by
      simp only [ev]; unfold det3; simp; rw [Int.mul_assoc]
    rw [e]
    simp only [hb]
    rw [P3_det]
    exact Int.dvd_mul_right _ _
theorem dOf_unique {m n m' n' : Nat} {B B' S S' : Nat → Nat → Int} (x : SOf m n B S) (x' : SOf m' n' B' S') (h3 : min m n ≤ 3) (h3' : min m' n' ≤ 3) (e : REq m n B m' n' B') :
    ∀ k, k < 3 → dOf m n S k = dOf m' n' S' k := by
  have eq : REq m n S m' n' S' := (x.eq.symm.trans e).trans x'.eq
  obtain ⟨u0, u1, u2⟩ := dOf_half x x' h3 h3' eq.1
  obtain ⟨v0, v1, v2⟩ := dOf_half x' x h3' h3 eq.2
  have p0 := dOf_nn x 0
  have p1 := dOf_nn x 1
  have p2 := dOf_nn x 2
  have q0 := dOf_nn x' 0
  have q1 := dOf_nn x' 1
  have q2 := dOf_nn x' 2
  have c0 := dOf_ch x 0
  have c1 := dOf_ch x 1
  have b0 := dOf_ch x' 0
  have b1 := dOf_ch x' 1
  have r0 := Int.dvd_antisymm p0 q0 u0 v0
  have r1 := Int.dvd_antisymm (Int.mul_nonneg p0 p1) (Int.mul_nonneg q0 q1) u1 v1
  have r2 := Int.dvd_antisymm (Int.mul_nonneg (Int.mul_nonneg p0 p1) p2) (Int.mul_nonneg (Int.mul_nonneg q0 q1) q2) u2 v2
  have hd1 : dOf m n S 1 = dOf m' n' S' 1 := by
    by_cases h : dOf m n S 0 = 0
    · rw [h] at c0; rw [← r0, h] at b0
      rw [Int.zero_dvd.mp c0, Int.zero_dvd.mp b0]
    · rw [← r0] at r1; exact Int.eq_of_mul_eq_mul_left h r1
  have hd2 : dOf m n S 2 = dOf m' n' S' 2 := by
    by_cases h : dOf m n S 1 = 0
    · rw [h] at c1; rw [← hd1, h] at b1
      rw [Int.zero_dvd.mp c1, Int.zero_dvd.mp b1]
    · have h0 : dOf m n S 0 ≠ 0 := fun h0 => h (by rw [h0] at c0; exact Int.zero_dvd.mp c0)
      rw [← r0, ← hd1] at r2
      exact Int.eq_of_mul_eq_mul_left (Int.mul_ne_zero h0 h) r2
  intro k hk
  match k, hk with
  | 0, _ => exact r0
  | 1, _ => exact hd1
  | 2, _ => exact hd2
theorem smith_same3 {m n : Nat} {X Y Z S S' : Nat → Nat → Int} (hm : m ≤ 3) (hn : n ≤ 3) (d : DeedsN m X 3 Y) (d2 : DeedsN n (fun i j => Y j i) 2 Z) (x : SOf m n X S) (x' : SOf n m Z S') : diagL n m S' = diagL m n S := by
  have e : Red m n X m n Y ∧ Red m n Y m n X := d.req
  -- the turned matrix: bil of the turned is bil turned
  have u := dOf_unique (B := fun i j => X j i) (B' := Z) (S := fun i j => S j i) (m := n) (n := m) (m' := n) (n' := m)
    ⟨fun i j hi hj hne => x.off j i hj hi (Ne.symm hne), fun i hi => x.nn i (by grind), fun i hi => x.ch i (by grind), x.eq.tr⟩ x' (by lia) (by omega) ((d.req (n := n)).tr.trans (d2.req (n := m)))
  unfold diagL
  rw [Nat.min_comm n m]
  refine List.map_congr_left fun i hi => ?_
  have hi := List.mem_range.mp hi
  have := u i (by grind)
  unfold dOf at this
  rw [if_pos (by grind), if_pos (by omega)] at this
  exact this.symm
theorem smith_same2 {m n : Nat} {X Y : Nat → Nat → Int} {t : Nat → Int} {S S' : Nat → Nat → Int} (hn : n ≤ 3) (hm : m ≤ 3) (d : DeedsN m X 3 Y) (x : SOf m n X S) (x' : SOf (m + 1) n (hangM m Y t) S') :
    (diagL (m + 1) n S').filter (fun x => x != 0) = (diagL m n S).filter (fun x => x != 0) := by
  have u := dOf_unique x x' (by lia) (by grind) ((d.req (n := n)).trans hangM_req)
  have same : ∀ i, i < min m n → S' i i = S i i := fun i hi => by
    have := u i (by grind)
    unfold dOf at this
    rw [if_pos hi, if_pos (by grind)] at this
    exact this.symm
  unfold diagL
  by_cases h : n ≤ m
  · rw [show min (m + 1) n = min m n by grind]
    rw [List.map_congr_left fun i hi => same i (List.mem_range.mp hi)]
  · rw [show min (m + 1) n = m + 1 by lia, show min m n = m by lia, List.range_succ, List.map_append, List.filter_append]
    have hz : S' m m = 0 := by
      have := u m (by lia)
      unfold dOf at this
      rw [if_neg (by lia), if_pos (by lia)] at this
      exact this.symm
    rw [List.map_congr_left fun i hi => same i (by have := List.mem_range.mp hi; lia)]
    simp [hz]
end Mine
namespace Mine
/-- the block of the rows and columns from step on, with zeros about it -/
noncomputable def blk (S : Nat → Nat → Int) (step m n : Nat) : Nat → Nat → Int := fun i j => if step + i < m ∧ step + j < n then S (step + i) (step + j) else 0
/-- clear_cross on a block -/
noncomputable def turn (X : Nat → Nat → Int) : Nat → Nat → Int := fun i j =>
  if i = 0 then (if j = 0 then X 0 0 else X 0 j - (X 0 j).fdiv (X 0 0) * X 0 0)
  else if j = 0 then X i 0 - (X i 0).fdiv (X 0 0) * X 0 0
  else X i j - (X i 0).fdiv (X 0 0) * X 0 j - (X 0 j).fdiv (X 0 0) * (X i 0 - (X i 0).fdiv (X 0 0) * X 0 0)
theorem zero_fdiv' (a : Int) : (0 : Int).fdiv a = 0 := by simp
theorem blk_cc {S : Nat → Nat → Int} {step m n : Nat} (hm : step < m) (hn : step < n) : blk (ccS S step m n) step m n = turn (blk S step m n) := by
  funext i j
  by_cases hi : step + i < m
  · by_cases hj : step + j < n
    · have hb : ∀ a b, step + a < m → step + b < n → blk S step m n a b = S (step + a) (step + b) := fun a b ha hb => by unfold blk; rw [if_pos ⟨ha, hb⟩]
      have e : blk (ccS S step m n) step m n i j = ccS S step m n (step + i) (step + j) := by unfold blk; rw [if_pos ⟨hi, hj⟩]
      rw [e]
      unfold turn
      rw [hb 0 0 (by omega) (by omega), hb i j hi hj, hb 0 j (by omega) hj, hb i 0 hi (by omega)]
      unfold ccS redC redR quoR quoC
      simp only [Nat.add_zero]
      by_cases i0 : i = 0
      · subst i0
        by_cases j0 : j = 0
        · subst j0; simp
        · rw [if_pos rfl, if_neg j0, if_pos ⟨by omega, hj⟩]
          simp
      · by_cases j0 : j = 0
        · subst j0
          rw [if_neg i0, if_pos rfl, if_neg (by omega), if_pos ⟨by omega, hi⟩]; simp
        · rw [if_neg i0, if_neg j0, if_pos ⟨by omega, hj⟩, if_pos ⟨by omega, hi⟩, if_pos ⟨by omega, hi⟩]
    · have z : ∀ a, blk S step m n a j = 0 := fun a => by unfold blk; rw [if_neg (by omega)]
      have e : blk (ccS S step m n) step m n i j = 0 := by unfold blk; rw [if_neg (by omega)]
      rw [e]
      unfold turn
      rw [z i, z 0, if_neg (by omega : ¬ j = 0), zero_fdiv']
      by_cases i0 : i = 0
      · rw [if_pos i0]; simp
      · rw [if_neg i0, if_neg (by omega)]; simp
  · have z : ∀ b, blk S step m n i b = 0 := fun b => by unfold blk; rw [if_neg (by omega)]
    have e : blk (ccS S step m n) step m n i j = 0 := by unfold blk; rw [if_neg (by omega)]
    rw [e]
    unfold turn
    rw [z j, z 0, zero_fdiv', if_neg (by omega : ¬ i = 0)]
    split <;> simp
/-- the residues -/
noncomputable def rx (X : Nat → Nat → Int) : Nat → Int := fun i => if i = 0 then X 0 0 else (X i 0).fmod (X 0 0)
noncomputable def ry (X : Nat → Nat → Int) : Nat → Int := fun j => if j = 0 then X 0 0 else (X 0 j).fmod (X 0 0)
theorem mod_eq (a b : Int) : a - a.fdiv b * b = a.fmod b := by have := fdm a b; rw [Int.mul_comm]; omega
theorem turn_i0 (X : Nat → Nat → Int) (i : Nat) : turn X i 0 = rx X i := by
  unfold turn rx
  by_cases h : i = 0
  · subst h; simp
  · rw [if_neg h, if_pos rfl, if_neg h, mod_eq]
theorem turn_0j (X : Nat → Nat → Int) (j : Nat) : turn X 0 j = ry X j := by
  unfold turn ry
  rw [if_pos rfl]
  split
  · rfl
  · rw [mod_eq]
theorem turn_eq (X : Nat → Nat → Int) (i j : Nat) : X 0 0 * turn X i j = (X 0 0 * X i j - X i 0 * X 0 j) + rx X i * ry X j := by
  by_cases hi : i = 0
  · subst hi
    rw [turn_0j]; unfold rx; rw [if_pos rfl]; grind
  · by_cases hj : j = 0
    · subst hj
      rw [turn_i0]; unfold ry; rw [if_pos rfl]; grind
    · unfold turn rx ry
      rw [if_neg hi, if_neg hj, if_neg hi, if_neg hj]
      have h1 := fdm (X i 0) (X 0 0)
      have h2 := fdm (X 0 j) (X 0 0)
      generalize (X i 0).fdiv (X 0 0) = q at *
      generalize (X 0 j).fdiv (X 0 0) = p at *
      generalize (X i 0).fmod (X 0 0) = r at *
      generalize (X 0 j).fmod (X 0 0) = s at *
      rw [h1, h2]; grind
theorem fmod_abs (a : Int) {b : Int} (h : b ≠ 0) : (a.fmod b).natAbs < b.natAbs := by
  rcases Int.lt_or_lt_of_ne h with g | g
  · have := fmod_neg' a g; omega
  · have := fmod_pos a g; omega
theorem rx_le {X : Nat → Nat → Int} (h : X 0 0 ≠ 0) (i : Nat) : (rx X i).natAbs ≤ (X 0 0).natAbs := by
  unfold rx; split
  · exact Nat.le_refl _
  · exact Nat.le_of_lt (fmod_abs _ h)
theorem ry_le {X : Nat → Nat → Int} (h : X 0 0 ≠ 0) (i : Nat) : (ry X i).natAbs ≤ (X 0 0).natAbs := by
  unfold ry; split
  · exact Nat.le_refl _
  · exact Nat.le_of_lt (fmod_abs _ h)
noncomputable def m2 (X : Nat → Nat → Int) (i j k l : Nat) : Int := X i k * X j l - X i l * X j k
noncomputable def m3 (X : Nat → Nat → Int) (i j k a b c : Nat) : Int := det3 (X i a) (X i b) (X i c) (X j a) (X j b) (X j c) (X k a) (X k b) (X k c)
noncomputable def E1 (X : Nat → Nat → Int) (e : Nat) : Prop := ∀ i j, (X i j).natAbs ≤ e
noncomputable def E2 (X : Nat → Nat → Int) (e : Nat) : Prop := ∀ i j k l, (m2 X i j k l).natAbs ≤ e
noncomputable def E3 (X : Nat → Nat → Int) (e : Nat) : Prop := ∀ i j k a b c, (m3 X i j k a b c).natAbs ≤ e
theorem natAbs_prod_le {a b : Int} {x y : Nat} (h1 : a.natAbs ≤ x) (h2 : b.natAbs ≤ y) : (a * b).natAbs ≤ x * y := by rw [Int.natAbs_mul]; exact Nat.mul_le_mul h1 h2
theorem turn_E1 {X : Nat → Nat → Int} {W : Nat} (h : X 0 0 ≠ 0) (h2 : E2 X W) : E1 (turn X) (W + (X 0 0).natAbs) := by
  intro i j
  have e := turn_eq X i j
  have hN : (X 0 0 * X i j - X i 0 * X 0 j).natAbs ≤ W := by
    have := h2 0 i 0 j
    unfold m2 at this
    rw [Int.mul_comm (X 0 j)] at this
    exact this
  have hr := natAbs_prod_le (rx_le h i) (ry_le h j)
  have hp : 1 ≤ (X 0 0).natAbs := by omega
  have hl : (X 0 0).natAbs * (turn X i j).natAbs ≤ W + (X 0 0).natAbs * (X 0 0).natAbs := by
    rw [← Int.natAbs_mul, e]; omega
  have : W ≤ (X 0 0).natAbs * W := Nat.le_mul_of_pos_left _ hp
  refine Nat.le_of_mul_le_mul_left (c := (X 0 0).natAbs) ?_ hp
  rw [Nat.mul_add]; omega
theorem turn_E2 {X : Nat → Nat → Int} {W W3 : Nat} (h : X 0 0 ≠ 0) (h2 : E2 X W) (h3 : E3 X W3) : E2 (turn X) (W3 + 4 * W) := by
  intro i j k l
  have hN : ∀ i j, (X 0 0 * X i j - X i 0 * X 0 j).natAbs ≤ W := fun i j => by
    have := h2 0 i 0 j
    unfold m2 at this
    rw [Int.mul_comm (X 0 j)] at this
    exact this
  have hD := h3 0 i j 0 k l
  have e : X 0 0 * X 0 0 * m2 (turn X) i j k l = X 0 0 * m3 X 0 i j 0 k l + ((X 0 0 * X i k - X i 0 * X 0 k) * (rx X j * ry X l) + (X 0 0 * X j l - X j 0 * X 0 l) * (rx X i * ry X k)
      - (X 0 0 * X i l - X i 0 * X 0 l) * (rx X j * ry X k) - (X 0 0 * X j k - X j 0 * X 0 k) * (rx X i * ry X l)) := by
    have e1 := turn_eq X i k
    have e2 := turn_eq X j l
    have e3 := turn_eq X i l
    have e4 := turn_eq X j k
    have : X 0 0 * X 0 0 * m2 (turn X) i j k l = (X 0 0 * turn X i k) * (X 0 0 * turn X j l) - (X 0 0 * turn X i l) * (X 0 0 * turn X j k) := by unfold m2; grind
    rw [this, e1, e2, e3, e4]
    unfold m3 det3
    generalize rx X i = a; generalize rx X j = b; generalize ry X k = c; generalize ry X l = d
    grind
  have hp : 1 ≤ (X 0 0).natAbs := by omega
  have hxy : ∀ a b, (rx X a * ry X b).natAbs ≤ (X 0 0).natAbs * (X 0 0).natAbs := fun a b => natAbs_prod_le (rx_le h a) (ry_le h b)
  have t1 := natAbs_prod_le (hN i k) (hxy j l)
  have t2 := natAbs_prod_le (hN j l) (hxy i k)
  have t3 := natAbs_prod_le (hN i l) (hxy j k)
  have t4 := natAbs_prod_le (hN j k) (hxy i l)
  have t0 := natAbs_prod_le (Nat.le_refl (X 0 0).natAbs) hD
  have hl : (X 0 0 * X 0 0 * m2 (turn X) i j k l).natAbs ≤ (X 0 0).natAbs * W3 + 4 * (W * ((X 0 0).natAbs * (X 0 0).natAbs)) := by
    rw [e]; omega
  rw [Int.natAbs_mul, Int.natAbs_mul] at hl
  have hpp : 1 ≤ (X 0 0).natAbs * (X 0 0).natAbs := Nat.mul_le_mul hp hp
  refine Nat.le_of_mul_le_mul_left (c := (X 0 0).natAbs * (X 0 0).natAbs) ?_ hpp
  have a1 : (X 0 0).natAbs * W3 ≤ (X 0 0).natAbs * (X 0 0).natAbs * W3 := Nat.mul_le_mul_right _ (Nat.le_mul_of_pos_right _ hp)
  have a2 : (X 0 0).natAbs * (X 0 0).natAbs * (4 * W) = 4 * (W * ((X 0 0).natAbs * (X 0 0).natAbs)) := by rw [Nat.mul_left_comm, Nat.mul_comm _ W]
  rw [Nat.mul_add, a2]; omega
/-- the 3x3 minors of the minors' matrix vanish where there are at most three columns -/
theorem N_cols {N : Nat → Nat → Int} (h0 : ∀ i, N i 0 = 0) (h3 : ∀ i j, 3 ≤ j → N i j = 0) (i j k a b c : Nat) : m3 N i j k a b c = 0 := by
  have col0 : ∀ a, (a = 0 ∨ 3 ≤ a) → ∀ i, N i a = 0 := fun a ha i => ha.elim (fun e => e ▸ h0 i) (h3 i a)
  by_cases ha : a = 0 ∨ 3 ≤ a
  · unfold m3 det3; rw [col0 a ha i, col0 a ha j, col0 a ha k]; grind
  · by_cases hb : b = 0 ∨ 3 ≤ b
    · unfold m3 det3; rw [col0 b hb i, col0 b hb j, col0 b hb k]; grind
    · by_cases hc : c = 0 ∨ 3 ≤ c
      · unfold m3 det3; rw [col0 c hc i, col0 c hc j, col0 c hc k]; grind
      · have : a = b ∨ a = c ∨ b = c := by omega
        rcases this with h | h | h <;> (subst h; unfold m3 det3; grind)
theorem nsub (a b : Int) : (a - b).natAbs ≤ a.natAbs + b.natAbs := by omega
theorem nadd (a b : Int) : (a + b).natAbs ≤ a.natAbs + b.natAbs := by omega
theorem nine {a b c d e f g h i : Int} {B : Nat} (h1 : a.natAbs ≤ B) (h2 : b.natAbs ≤ B) (h3 : c.natAbs ≤ B) (h4 : d.natAbs ≤ B) (h5 : e.natAbs ≤ B) (h6 : f.natAbs ≤ B) (h7 : g.natAbs ≤ B) (h8 : h.natAbs ≤ B) (h9 : i.natAbs ≤ B) :
    (a - b + c - d + e - f + g - h + i).natAbs ≤ 9 * B := by
  have s1 := nsub a b
  have s2 := nadd (a - b) c
  have s3 := nsub (a - b + c) d
  have s4 := nadd (a - b + c - d) e
  have s5 := nsub (a - b + c - d + e) f
  have s6 := nadd (a - b + c - d + e - f) g
  have s7 := nsub (a - b + c - d + e - f + g) h
  have s8 := nadd (a - b + c - d + e - f + g - h) i
  generalize (a - b + c - d + e - f + g - h + i).natAbs = z8 at *
  generalize (a - b + c - d + e - f + g - h).natAbs = z7 at *
  generalize (a - b + c - d + e - f + g).natAbs = z6 at *
  generalize (a - b + c - d + e - f).natAbs = z5 at *
  generalize (a - b + c - d + e).natAbs = z4 at *
  generalize (a - b + c - d).natAbs = z3 at *
  generalize (a - b + c).natAbs = z2 at *
  generalize (a - b).natAbs = z1 at *
  generalize a.natAbs = a' at *
  generalize b.natAbs = b' at *
  generalize c.natAbs = c' at *
  generalize d.natAbs = d' at *
  generalize e.natAbs = e' at *
  generalize f.natAbs = f' at *
  generalize g.natAbs = g' at *
  generalize h.natAbs = h' at *
  generalize i.natAbs = i' at *
  omega
set_option maxHeartbeats 1000000 in
theorem turn_E3 {X : Nat → Nat → Int} {W3 : Nat} (h : X 0 0 ≠ 0) (hc : ∀ i j, 3 ≤ j → X i j = 0) (h3 : E3 X W3) : E3 (turn X) (9 * W3) := by
  intro i j k a b c
  have hp : 1 ≤ (X 0 0).natAbs := by omega
  have N0 := N_cols (N := fun i j => X 0 0 * X i j - X i 0 * X 0 j) (fun i => by grind) (fun i j hj => by rw [hc i j hj, hc 0 j hj]; grind) i j k a b c
  have cof : ∀ i j k l, (X 0 0 * X i k - X i 0 * X 0 k) * (X 0 0 * X j l - X j 0 * X 0 l) - (X 0 0 * X i l - X i 0 * X 0 l) * (X 0 0 * X j k - X j 0 * X 0 k) = X 0 0 * m3 X 0 i j 0 k l := fun i j k l => by
    unfold m3 det3; grind
  have e : X 0 0 * X 0 0 * X 0 0 * m3 (turn X) i j k a b c =
      X 0 0 * m3 X 0 j k 0 b c * (rx X i * ry X a) - X 0 0 * m3 X 0 j k 0 a c * (rx X i * ry X b) + X 0 0 * m3 X 0 j k 0 a b * (rx X i * ry X c)
      - X 0 0 * m3 X 0 i k 0 b c * (rx X j * ry X a) + X 0 0 * m3 X 0 i k 0 a c * (rx X j * ry X b) - X 0 0 * m3 X 0 i k 0 a b * (rx X j * ry X c)
      + X 0 0 * m3 X 0 i j 0 b c * (rx X k * ry X a) - X 0 0 * m3 X 0 i j 0 a c * (rx X k * ry X b) + X 0 0 * m3 X 0 i j 0 a b * (rx X k * ry X c) := by
    have h1 : X 0 0 * X 0 0 * X 0 0 * m3 (turn X) i j k a b c = det3 (X 0 0 * turn X i a) (X 0 0 * turn X i b) (X 0 0 * turn X i c) (X 0 0 * turn X j a) (X 0 0 * turn X j b) (X 0 0 * turn X j c) (X 0 0 * turn X k a) (X 0 0 * turn X k b) (X 0 0 * turn X k c) := by
      unfold m3 det3; grind
    rw [h1]
    simp only [turn_eq, ← cof]
    unfold m3 at N0
    dsimp only at N0
    generalize X 0 0 * X i a - X i 0 * X 0 a = n11 at *
    generalize X 0 0 * X i b - X i 0 * X 0 b = n12 at *
    generalize X 0 0 * X i c - X i 0 * X 0 c = n13 at *
    generalize X 0 0 * X j a - X j 0 * X 0 a = n21 at *
    generalize X 0 0 * X j b - X j 0 * X 0 b = n22 at *
    generalize X 0 0 * X j c - X j 0 * X 0 c = n23 at *
    generalize X 0 0 * X k a - X k 0 * X 0 a = n31 at *
    generalize X 0 0 * X k b - X k 0 * X 0 b = n32 at *
    generalize X 0 0 * X k c - X k 0 * X 0 c = n33 at *
    generalize rx X i = x1; generalize rx X j = x2; generalize rx X k = x3
    generalize ry X a = y1; generalize ry X b = y2; generalize ry X c = y3
    unfold det3 at *
    grind
  have hxy : ∀ a b, (rx X a * ry X b).natAbs ≤ (X 0 0).natAbs * (X 0 0).natAbs := fun a b => natAbs_prod_le (rx_le h a) (ry_le h b)
  have t : ∀ i j k l a b, (X 0 0 * m3 X 0 i j 0 k l * (rx X a * ry X b)).natAbs ≤ (X 0 0).natAbs * W3 * ((X 0 0).natAbs * (X 0 0).natAbs) := fun i j k l a b =>
    natAbs_prod_le (natAbs_prod_le (Nat.le_refl _) (h3 0 i j 0 k l)) (hxy a b)
  have t1 := t j k b c i a
  have t2 := t j k a c i b
  have t3 := t j k a b i c
  have t4 := t i k b c j a
  have t5 := t i k a c j b
  have t6 := t i k a b j c
  have t7 := t i j b c k a
  have t8 := t i j a c k b
  have t9 := t i j a b k c
  have hl : (X 0 0 * X 0 0 * X 0 0 * m3 (turn X) i j k a b c).natAbs ≤ 9 * ((X 0 0).natAbs * W3 * ((X 0 0).natAbs * (X 0 0).natAbs)) := by
    rw [e]; exact nine t1 t2 t3 t4 t5 t6 t7 t8 t9
  rw [Int.natAbs_mul, Int.natAbs_mul, Int.natAbs_mul] at hl
  have hpp : 1 ≤ (X 0 0).natAbs * (X 0 0).natAbs * (X 0 0).natAbs := Nat.mul_le_mul (Nat.mul_le_mul hp hp) hp
  refine Nat.le_of_mul_le_mul_left (c := (X 0 0).natAbs * (X 0 0).natAbs * (X 0 0).natAbs) ?_ hpp
  have : 9 * ((X 0 0).natAbs * W3 * ((X 0 0).natAbs * (X 0 0).natAbs)) = (X 0 0).natAbs * (X 0 0).natAbs * (X 0 0).natAbs * (9 * W3) := by
    generalize (X 0 0).natAbs = P
    grind
  omega
end Mine
namespace Mine
noncomputable def Piv (X : Nat → Nat → Int) (a b : Nat) : Prop := X a b ≠ 0 ∧ ∀ i j, X i j ≠ 0 → (X a b).natAbs ≤ (X i j).natAbs ∧ (Before a b i j → (X a b).natAbs < (X i j).natAbs)
theorem blk_at {S : Nat → Nat → Int} {step m n i j : Nat} (hi : step + i < m) (hj : step + j < n) : blk S step m n i j = S (step + i) (step + j) := by unfold blk; rw [if_pos ⟨hi, hj⟩]
theorem blk_out {S : Nat → Nat → Int} {step m n i j : Nat} (h : ¬ (step + i < m ∧ step + j < n)) : blk S step m n i j = 0 := by unfold blk; rw [if_neg h]
theorem LS.piv {S : Nat → Nat → Int} {step m n r c : Nat} (h : LS S step n m step (some (r, c))) : ∃ a b, r = step + a ∧ c = step + b ∧ step + a < m ∧ step + b < n ∧ Piv (blk S step m n) a b := by
  obtain ⟨h1, h2, h3, h4, h5, h6⟩ := h
  have hr : r < m := by rcases h4 with h | h <;> omega
  refine ⟨r - step, c - step, by grind, by grind, by lia, by lia, ?_⟩
  have e : blk S step m n (r - step) (c - step) = S r c := by rw [blk_at (by omega) (by omega)]; congr 1 <;> grind
  refine ⟨by rw [e]; exact h5, fun i j hij => ?_⟩
  by_cases hin : step + i < m ∧ step + j < n
  · rw [blk_at hin.1 hin.2] at hij ⊢
    rw [e]
    have := h6 (step + i) (step + j) (by solve_by_elim (maxDepth := 3) only [*, Nat.le_of_lt, Nat.lt_of_lt_of_le, Nat.lt_of_le_of_lt, Nat.le_trans, Nat.pos_of_ne_zero, Nat.ne_of_gt, Nat.le_refl, Nat.lt_trans, Nat.succ_ne_zero, Nat.le_add_right, Nat.ne_of_lt, Ne.symm, Nat.succ_le_of_lt, Nat.lt_irrefl, absurd]) (by solve_by_elim (maxDepth := 3) only [*, Nat.le_of_lt, Nat.lt_of_lt_of_le, Nat.lt_of_le_of_lt, Nat.le_trans, Nat.pos_of_ne_zero, Nat.ne_of_gt, Nat.le_refl, Nat.lt_trans, Nat.succ_ne_zero, Nat.le_add_right, Nat.ne_of_lt, Ne.symm, Nat.succ_le_of_lt, Nat.lt_irrefl, absurd]) hin.2 (.inl hin.1) hij
    refine ⟨this.1, fun hb => this.2 ?_⟩
    rcases hb with hb | hb
    · exact .inl (by grind)
    · exact .inr (by grind)
  · exact absurd (blk_out hin) hij
theorem LS.none {S : Nat → Nat → Int} {step m n : Nat} (h : LS S step n m step none) : ∀ r c, step ≤ r → r < m → step ≤ c → c < n → S r c = 0 := fun r c h1 h2 h3 h4 => h r c h1 h3 h4 (.inl h2)
theorem blk_bring {S : Nat → Nat → Int} {step m n a b : Nat} (ha : step + a < m) (hb : step + b < n) :
    blk (swC (swR S (step + a) step) (step + b) step) step m n = swC (swR (blk S step m n) a 0) b 0 := by
  have sw : ∀ a i, swp (step + a) step (step + i) = step + swp a 0 i := fun a i => by
    unfold swp
    by_cases h1 : i = a
    · subst h1; simp
    · by_cases h2 : i = 0
      · subst h2; rw [if_neg (by lia), if_pos (by solve_by_elim (maxDepth := 3) only [*, Nat.le_of_lt, Nat.lt_of_lt_of_le, Nat.lt_of_le_of_lt, Nat.le_trans, Nat.pos_of_ne_zero, Nat.ne_of_gt, Nat.le_refl, Nat.lt_trans, Nat.succ_ne_zero, Nat.le_add_right, Nat.ne_of_lt, Ne.symm, Nat.succ_le_of_lt, Nat.lt_irrefl, absurd]), if_neg h1, if_pos rfl]
      · rw [if_neg (by lia), if_neg (by lia), if_neg h1, if_neg h2]
  have lt : ∀ a m i, step + a < m → (step + swp a 0 i < m ↔ step + i < m) := fun a m i h => by
    unfold swp
    by_cases h1 : i = a
    · subst h1; rw [if_pos rfl]; grind
    · by_cases h2 : i = 0
      · subst h2; rw [if_neg h1, if_pos rfl]; lia
      · rw [if_neg h1, if_neg h2]
  funext i j
  show (if step + i < m ∧ step + j < n then S (swp (step + a) step (step + i)) (swp (step + b) step (step + j)) else 0) = (if step + swp a 0 i < m ∧ step + swp b 0 j < n then S (step + swp a 0 i) (step + swp b 0 j) else 0)
  rw [sw, sw]
  by_cases h : step + i < m ∧ step + j < n
  · rw [if_pos h, if_pos ⟨(lt a m i ha).mpr h.1, (lt b n j hb).mpr h.2⟩]
  · rw [if_neg h, if_neg fun q => h ⟨(lt a m i ha).mp q.1, (lt b n j hb).mp q.2⟩]
theorem blk_addM {S : Nat → Nat → Int} {step m n q : Nat} (hs : step < m) (hq : step + q < m) : blk (addM S step (step + q)) step m n = addM (blk S step m n) 0 q := by
  funext i j
  by_cases hj : step + j < n
  · by_cases hi : step + i < m
    · rw [blk_at hi hj]
      unfold addM setRow
      by_cases h0 : i = 0
      · subst h0
        rw [if_pos (by solve_by_elim (maxDepth := 3) only [*, Nat.le_of_lt, Nat.lt_of_lt_of_le, Nat.lt_of_le_of_lt, Nat.le_trans, Nat.pos_of_ne_zero, Nat.ne_of_gt, Nat.le_refl, Nat.lt_trans, Nat.succ_ne_zero, Nat.le_add_right, Nat.ne_of_lt, Ne.symm, Nat.succ_le_of_lt, Nat.lt_irrefl, absurd]), if_pos rfl]
        show S step (step + j) + S (step + q) (step + j) = blk S step m n 0 j + blk S step m n q j
        rw [blk_at (by omega) hj, blk_at hq hj]; simp
      · rw [if_neg (by lia), if_neg h0, blk_at hi hj]
    · rw [blk_out (by lia)]
      unfold addM setRow
      rw [if_neg (by lia), blk_out (by omega)]
  · rw [blk_out (by lia)]
    unfold addM setRow
    split
    · dsimp only; rw [blk_out (by lia), blk_out (by lia)]; rfl
    · rw [blk_out (by omega)]
theorem blk_next {S : Nat → Nat → Int} {step m n : Nat} {b : Bool} (i j : Nat) : blk (negM b S step) (step + 1) m n i j = blk S step m n (i + 1) (j + 1) := by
  have e : negM b S step (step + 1 + i) (step + 1 + j) = S (step + (i + 1)) (step + (j + 1)) := by
    have h : negM b S step (step + 1 + i) = S (step + 1 + i) := by
      funext c; unfold negM; split
      · unfold setRow; rw [if_neg (by solve_by_elim (maxDepth := 3) only [*, Nat.le_of_lt, Nat.lt_of_lt_of_le, Nat.lt_of_le_of_lt, Nat.le_trans, Nat.pos_of_ne_zero, Nat.ne_of_gt, Nat.le_refl, Nat.lt_trans, Nat.succ_ne_zero, Nat.le_add_right, Nat.ne_of_lt, Ne.symm, Nat.succ_le_of_lt, Nat.lt_irrefl, absurd])]
      · rfl
    rw [h]; congr 1 <;> (simp +arith only [*])
  unfold blk
  by_cases h : step + 1 + i < m ∧ step + 1 + j < n
  · rw [if_pos h, if_pos (by lia), e]
  · rw [if_neg h, if_neg (by lia)]
theorem E1.perm {X : Nat → Nat → Int} {e : Nat} (h : E1 X e) (f g : Nat → Nat) : E1 (fun i j => X (f i) (g j)) e := fun i j => h _ _
theorem E2.perm {X : Nat → Nat → Int} {e : Nat} (h : E2 X e) (f g : Nat → Nat) : E2 (fun i j => X (f i) (g j)) e := fun i j k l => h (f i) (f j) (g k) (g l)
theorem E3.perm {X : Nat → Nat → Int} {e : Nat} (h : E3 X e) (f g : Nat → Nat) : E3 (fun i j => X (f i) (g j)) e := fun i j k a b c => h (f i) (f j) (f k) (g a) (g b) (g c)
theorem E1.mono {X : Nat → Nat → Int} {e e' : Nat} (h : E1 X e) (k : e ≤ e') : E1 X e' := fun i j => Nat.le_trans (h i j) k
theorem E2.mono {X : Nat → Nat → Int} {e e' : Nat} (h : E2 X e) (k : e ≤ e') : E2 X e' := fun i j k' l => Nat.le_trans (h i j k' l) k
theorem E3.mono {X : Nat → Nat → Int} {e e' : Nat} (h : E3 X e) (k : e ≤ e') : E3 X e' := fun i j k' a b c => Nat.le_trans (h i j k' a b c) k
theorem addM_E2 {X : Nat → Nat → Int} {W q : Nat} (h : E2 X W) : E2 (addM X 0 q) (2 * W) := by
  have row : ∀ i, addM X 0 q i = if i = 0 then fun c => X 0 c + X q c else X i := fun i => by funext c; unfold addM setRow; split <;> rfl
  intro i j k l
  by_cases hi : i = 0
  · by_cases hj : j = 0
    · subst hi hj
      have : m2 (addM X 0 q) 0 0 k l = 0 := by unfold m2; grind
      rw [this]; simp
    · have e : m2 (addM X 0 q) i j k l = m2 X 0 j k l + m2 X q j k l := by
        unfold m2; rw [row i, row j, if_pos hi, if_neg hj]; grind
      have := h 0 j k l
      have := h q j k l
      rw [e]; omega
  · by_cases hj : j = 0
    · have e : m2 (addM X 0 q) i j k l = m2 X i 0 k l + m2 X i q k l := by
        unfold m2; rw [row i, row j, if_neg hi, if_pos hj]; grind
      have := h i 0 k l
      have := h i q k l
      rw [e]; omega
    · have e : m2 (addM X 0 q) i j k l = m2 X i j k l := by unfold m2; rw [row i, row j, if_neg hi, if_neg hj]
      have := h i j k l
      rw [e]; lia
theorem addM_E3 {X : Nat → Nat → Int} {W q : Nat} (h : E3 X W) : E3 (addM X 0 q) (2 * W) := by
  have row : ∀ i, addM X 0 q i = if i = 0 then fun c => X 0 c + X q c else X i := fun i => by funext c; unfold addM setRow; split <;> rfl
  intro i j k a b c
  by_cases hi : i = 0
  · by_cases hj : j = 0
    · subst hi hj
      have : m3 (addM X 0 q) 0 0 k a b c = 0 := by unfold m3 det3; grind
      rw [this]; simp
    · by_cases hk : k = 0
      · subst hi hk
        have : m3 (addM X 0 q) 0 j 0 a b c = 0 := by unfold m3 det3; grind
        rw [this]; simp
      · have e : m3 (addM X 0 q) i j k a b c = m3 X 0 j k a b c + m3 X q j k a b c := by unfold m3 det3; rw [row i, row j, row k, if_pos hi, if_neg hj, if_neg hk]; grind
        have := h 0 j k a b c
        have := h q j k a b c
        rw [e]; omega
  · by_cases hj : j = 0
    · by_cases hk : k = 0
      · subst hj hk
        have : m3 (addM X 0 q) i 0 0 a b c = 0 := by unfold m3 det3; grind
        rw [this]; simp
      · have e : m3 (addM X 0 q) i j k a b c = m3 X i 0 k a b c + m3 X i q k a b c := by unfold m3 det3; rw [row i, row j, row k, if_neg hi, if_pos hj, if_neg hk]; grind
        have := h i 0 k a b c
        have := h i q k a b c
        rw [e]; omega
    · by_cases hk : k = 0
      · have e : m3 (addM X 0 q) i j k a b c = m3 X i j 0 a b c + m3 X i j q a b c := by unfold m3 det3; rw [row i, row j, row k, if_neg hi, if_neg hj, if_pos hk]; grind
        have := h i j 0 a b c
        have := h i j q a b c
        rw [e]; omega
      · have e : m3 (addM X 0 q) i j k a b c = m3 X i j k a b c := by unfold m3; rw [row i, row j, row k, if_neg hi, if_neg hj, if_neg hk]
        have := h i j k a b c
        rw [e]; lia
/-- a done turn -/
noncomputable def Done (Z : Nat → Nat → Int) : Prop := (∀ i, 1 ≤ i → Z i 0 = 0) ∧ ∀ j, 1 ≤ j → Z 0 j = 0
theorem addM_E1 {Z : Nat → Nat → Int} {e q : Nat} (d : Done Z) (hq : 1 ≤ q) (h : E1 Z e) : E1 (addM Z 0 q) e := by
  intro i j
  unfold addM setRow
  split
  · dsimp only
    by_cases hj : j = 0
    · subst hj; rw [d.1 q hq]; have := h 0 0; (simp +arith only [*])
    · rw [d.2 j (by solve_by_elim (maxDepth := 3) only [*, Nat.le_of_lt, Nat.lt_of_lt_of_le, Nat.lt_of_le_of_lt, Nat.le_trans, Nat.pos_of_ne_zero, Nat.ne_of_gt, Nat.le_refl, Nat.lt_trans, Nat.succ_ne_zero, Nat.le_add_right, Nat.ne_of_lt, Ne.symm, Nat.succ_le_of_lt, Nat.lt_irrefl, absurd])]; have := h q j; (simp +arith only [*])
  · exact h i j
theorem ccDone_iff {S : Nat → Nat → Int} {step m n : Nat} (hm : step < m) (hn : step < n) : ccDone S step m n ↔ Done (turn (blk S step m n)) := by
  rw [← blk_cc hm hn]
  constructor
  · rintro ⟨h1, h2⟩
    refine ⟨fun i hi => ?_, fun j hj => ?_⟩
    · by_cases h : step + i < m
      · rw [blk_at h (by omega)]; exact h1 _ (by simp +arith only [*]) h
      · exact blk_out (by lia)
    · by_cases h : step + j < n
      · rw [blk_at (by omega) h]; exact h2 _ (by simp +arith only [*]) h
      · exact blk_out (by lia)
  · rintro ⟨h1, h2⟩
    refine ⟨fun r hr hrm => ?_, fun c hc hcn => ?_⟩
    · have := h1 (r - step) (by lia)
      rw [blk_at (by grind) (by omega)] at this
      rwa [show step + (r - step) = r by lia, Nat.add_zero] at this
    · have := h2 (c - step) (by omega)
      rw [blk_at (by omega) (by grind)] at this
      rwa [show step + (c - step) = c by omega, Nat.add_zero] at this
/-- two columns -/
theorem turn_cols {X : Nat → Nat → Int} {k : Nat} (hk : 1 ≤ k) (h : ∀ i j, k ≤ j → X i j = 0) : ∀ i j, k ≤ j → turn X i j = 0 := by
  intro i j hj
  unfold turn
  rw [h i j hj, h 0 j hj, zero_fdiv', if_neg (by lia : ¬ j = 0), if_neg (by lia : ¬ j = 0)]
  split <;> simp
theorem turn_rows {X : Nat → Nat → Int} {k : Nat} (hk : 1 ≤ k) (h : ∀ i j, k ≤ i → X i j = 0) : ∀ i j, k ≤ i → turn X i j = 0 := by
  intro i j hi
  unfold turn
  rw [h i j hi, h i 0 hi, zero_fdiv', if_neg (by lia : ¬ i = 0)]
  split <;> simp
theorem m2_01 {X : Nat → Nat → Int} (h : X 0 0 ≠ 0) (i j : Nat) : X 0 0 * X 0 0 * m2 (turn X) i j 0 1 = (X 0 0 * X j 1 - X j 0 * X 0 1) * (rx X i * X 0 0) - (X 0 0 * X i 1 - X i 0 * X 0 1) * (rx X j * X 0 0) := by
  have e1 := turn_eq X i 1
  have e2 := turn_eq X j 1
  have : X 0 0 * X 0 0 * m2 (turn X) i j 0 1 = X 0 0 * (rx X i * (X 0 0 * turn X j 1) - (X 0 0 * turn X i 1) * rx X j) := by unfold m2; rw [turn_i0, turn_i0]; grind
  rw [this, e1, e2]; grind
theorem E2_of_01 {Y : Nat → Nat → Int} {W : Nat} (hc : ∀ i j, 2 ≤ j → Y i j = 0) (h : ∀ i j, (m2 Y i j 0 1).natAbs ≤ W) : E2 Y W := by
  intro i j k l
  by_cases hk : 2 ≤ k
  · unfold m2; rw [hc i k hk, hc j k hk]; simp
  · by_cases hl : 2 ≤ l
    · unfold m2; rw [hc i l hl, hc j l hl]; simp
    · have : (k = 0 ∧ l = 0) ∨ (k = 1 ∧ l = 1) ∨ (k = 0 ∧ l = 1) ∨ (k = 1 ∧ l = 0) := by lia
      rcases this with ⟨rfl, rfl⟩ | ⟨rfl, rfl⟩ | ⟨rfl, rfl⟩ | ⟨rfl, rfl⟩
      · have : m2 Y i j 0 0 = 0 := by unfold m2; grind
        rw [this]; simp
      · have : m2 Y i j 1 1 = 0 := by unfold m2; grind
        rw [this]; simp
      · exact h i j
      · have : m2 Y i j 1 0 = -(m2 Y i j 0 1) := by unfold m2; grind
        rw [this, Int.natAbs_neg]; exact h i j
theorem turn_E2c {X : Nat → Nat → Int} {W : Nat} (h : X 0 0 ≠ 0) (hc : ∀ i j, 2 ≤ j → X i j = 0) (h2 : E2 X W) : E2 (turn X) (2 * W) := by
  refine E2_of_01 (turn_cols (by solve_by_elim (maxDepth := 3) only [*, Nat.le_of_lt, Nat.lt_of_lt_of_le, Nat.lt_of_le_of_lt, Nat.le_trans, Nat.pos_of_ne_zero, Nat.ne_of_gt, Nat.le_refl, Nat.lt_trans, Nat.succ_ne_zero, Nat.le_add_right, Nat.ne_of_lt, Ne.symm, Nat.succ_le_of_lt, Nat.lt_irrefl, absurd]) hc) fun i j => ?_
  have hN : ∀ i, (X 0 0 * X i 1 - X i 0 * X 0 1).natAbs ≤ W := fun i => by
    have := h2 0 i 0 1
    unfold m2 at this
    rw [Int.mul_comm (X 0 1)] at this
    exact this
  have e := m2_01 h i j
  have hp : 1 ≤ (X 0 0).natAbs := by grind
  have t1 := natAbs_prod_le (hN j) (natAbs_prod_le (rx_le h i) (Nat.le_refl (X 0 0).natAbs))
  have t2 := natAbs_prod_le (hN i) (natAbs_prod_le (rx_le h j) (Nat.le_refl (X 0 0).natAbs))
  have hl : (X 0 0 * X 0 0 * m2 (turn X) i j 0 1).natAbs ≤ 2 * (W * ((X 0 0).natAbs * (X 0 0).natAbs)) := by
    rw [e]
    have := nsub ((X 0 0 * X j 1 - X j 0 * X 0 1) * (rx X i * X 0 0)) ((X 0 0 * X i 1 - X i 0 * X 0 1) * (rx X j * X 0 0))
    lia
  rw [Int.natAbs_mul, Int.natAbs_mul] at hl
  have hpp : 1 ≤ (X 0 0).natAbs * (X 0 0).natAbs := Nat.mul_le_mul hp hp
  refine Nat.le_of_mul_le_mul_left (c := (X 0 0).natAbs * (X 0 0).natAbs) ?_ hpp
  have : (X 0 0).natAbs * (X 0 0).natAbs * (2 * W) = 2 * (W * ((X 0 0).natAbs * (X 0 0).natAbs)) := by
    generalize (X 0 0).natAbs = P; grind
  (simp +arith only [*])
theorem rx_done {X : Nat → Nat → Int} (d : Done (turn X)) {i : Nat} (hi : i ≠ 0) : rx X i = 0 := by rw [← turn_i0]; exact d.1 i (by solve_by_elim (maxDepth := 3) only [*, Nat.le_of_lt, Nat.lt_of_lt_of_le, Nat.lt_of_le_of_lt, Nat.le_trans, Nat.pos_of_ne_zero, Nat.ne_of_gt, Nat.le_refl, Nat.lt_trans, Nat.succ_ne_zero, Nat.le_add_right, Nat.ne_of_lt, Ne.symm, Nat.succ_le_of_lt, Nat.lt_irrefl, absurd])
theorem done_E2c {X : Nat → Nat → Int} {W q : Nat} (h : X 0 0 ≠ 0) (hc : ∀ i j, 2 ≤ j → X i j = 0) (h2 : E2 X W) (d : Done (turn X)) (hq : 1 ≤ q) : E2 (turn X) W ∧ E2 (addM (turn X) 0 q) W := by
  have hcz := turn_cols (by solve_by_elim (maxDepth := 3) only [*, Nat.le_of_lt, Nat.lt_of_lt_of_le, Nat.lt_of_le_of_lt, Nat.le_trans, Nat.pos_of_ne_zero, Nat.ne_of_gt, Nat.le_refl, Nat.lt_trans, Nat.succ_ne_zero, Nat.le_add_right, Nat.ne_of_lt, Ne.symm, Nat.succ_le_of_lt, Nat.lt_irrefl, absurd]) hc
  have inner : ∀ i j, 1 ≤ i → 1 ≤ j → m2 (turn X) i j 0 1 = 0 := fun i j hi hj => by unfold m2; rw [d.1 i hi, d.1 j hj]; simp
  have hN : ∀ i, (X 0 0 * X i 1 - X i 0 * X 0 1).natAbs ≤ W := fun i => by
    have := h2 0 i 0 1
    unfold m2 at this
    rw [Int.mul_comm (X 0 1)] at this
    exact this
  have r0 : rx X 0 = X 0 0 := by unfold rx; rw [if_pos rfl]
  have first : ∀ j, 1 ≤ j → (m2 (turn X) 0 j 0 1).natAbs ≤ W := fun j hj => by
    have e := m2_01 h 0 j
    rw [r0, rx_done d (by (solve_by_elim (maxDepth := 3) only [*, Nat.le_of_lt, Nat.lt_of_lt_of_le, Nat.lt_of_le_of_lt, Nat.le_trans, Nat.pos_of_ne_zero, Nat.ne_of_gt, Nat.le_refl, Nat.lt_trans, Nat.succ_ne_zero, Nat.le_add_right, Nat.ne_of_lt, Ne.symm, Nat.succ_le_of_lt, Nat.lt_irrefl, absurd]) : j ≠ 0)] at e
    have e' : m2 (turn X) 0 j 0 1 = X 0 0 * X j 1 - X j 0 * X 0 1 := by
      have h' : X 0 0 * X 0 0 ≠ 0 := Int.mul_ne_zero h h
      refine Int.eq_of_mul_eq_mul_left h' ?_
      rw [e]; grind
    rw [e']; exact hN j
  have swap : ∀ Y : Nat → Nat → Int, ∀ i j, m2 Y j i 0 1 = -(m2 Y i j 0 1) := fun Y i j => by unfold m2; grind
  have same : ∀ Y : Nat → Nat → Int, ∀ i, m2 Y i i 0 1 = 0 := fun Y i => by unfold m2; grind
  have E : E2 (turn X) W := by
    refine E2_of_01 hcz fun i j => ?_
    by_cases hi : i = 0
    · by_cases hj : j = 0
      · subst hi hj; rw [same]; simp
      · subst hi; exact first j (by solve_by_elim (maxDepth := 3) only [*, Nat.le_of_lt, Nat.lt_of_lt_of_le, Nat.lt_of_le_of_lt, Nat.le_trans, Nat.pos_of_ne_zero, Nat.ne_of_gt, Nat.le_refl, Nat.lt_trans, Nat.succ_ne_zero, Nat.le_add_right, Nat.ne_of_lt, Ne.symm, Nat.succ_le_of_lt, Nat.lt_irrefl, absurd])
    · by_cases hj : j = 0
      · subst hj; rw [swap, Int.natAbs_neg]; exact first i (by solve_by_elim (maxDepth := 3) only [*, Nat.le_of_lt, Nat.lt_of_lt_of_le, Nat.lt_of_le_of_lt, Nat.le_trans, Nat.pos_of_ne_zero, Nat.ne_of_gt, Nat.le_refl, Nat.lt_trans, Nat.succ_ne_zero, Nat.le_add_right, Nat.ne_of_lt, Ne.symm, Nat.succ_le_of_lt, Nat.lt_irrefl, absurd])
      · rw [inner i j (by solve_by_elim (maxDepth := 3) only [*, Nat.le_of_lt, Nat.lt_of_lt_of_le, Nat.lt_of_le_of_lt, Nat.le_trans, Nat.pos_of_ne_zero, Nat.ne_of_gt, Nat.le_refl, Nat.lt_trans, Nat.succ_ne_zero, Nat.le_add_right, Nat.ne_of_lt, Ne.symm, Nat.succ_le_of_lt, Nat.lt_irrefl, absurd]) (by solve_by_elim (maxDepth := 3) only [*, Nat.le_of_lt, Nat.lt_of_lt_of_le, Nat.lt_of_le_of_lt, Nat.le_trans, Nat.pos_of_ne_zero, Nat.ne_of_gt, Nat.le_refl, Nat.lt_trans, Nat.succ_ne_zero, Nat.le_add_right, Nat.ne_of_lt, Ne.symm, Nat.succ_le_of_lt, Nat.lt_irrefl, absurd])]; simp
  refine ⟨E, ?_⟩
  have row : ∀ i, addM (turn X) 0 q i = if i = 0 then fun c => turn X 0 c + turn X q c else turn X i := fun i => by funext c; unfold addM setRow; split <;> rfl
  have a0 : ∀ j, 1 ≤ j → m2 (addM (turn X) 0 q) 0 j 0 1 = m2 (turn X) 0 j 0 1 := fun j hj => by
    have e : m2 (addM (turn X) 0 q) 0 j 0 1 = m2 (turn X) 0 j 0 1 + m2 (turn X) q j 0 1 := by unfold m2; rw [row 0, row j, if_pos rfl, if_neg (by solve_by_elim (maxDepth := 3) only [*, Nat.le_of_lt, Nat.lt_of_lt_of_le, Nat.lt_of_le_of_lt, Nat.le_trans, Nat.pos_of_ne_zero, Nat.ne_of_gt, Nat.le_refl, Nat.lt_trans, Nat.succ_ne_zero, Nat.le_add_right, Nat.ne_of_lt, Ne.symm, Nat.succ_le_of_lt, Nat.lt_irrefl, absurd])]; grind
    rw [e, inner q j hq hj]; lia
  refine E2_of_01 (fun i j hj => ?_) fun i j => ?_
  · rw [row i]; split
    · dsimp only; rw [hcz 0 j hj, hcz q j hj]; rfl
    · exact hcz i j hj
  · by_cases hi : i = 0
    · by_cases hj : j = 0
      · subst hi hj; rw [same]; simp
      · subst hi; rw [a0 j (by solve_by_elim (maxDepth := 3) only [*, Nat.le_of_lt, Nat.lt_of_lt_of_le, Nat.lt_of_le_of_lt, Nat.le_trans, Nat.pos_of_ne_zero, Nat.ne_of_gt, Nat.le_refl, Nat.lt_trans, Nat.succ_ne_zero, Nat.le_add_right, Nat.ne_of_lt, Ne.symm, Nat.succ_le_of_lt, Nat.lt_irrefl, absurd])]; exact first j (by solve_by_elim (maxDepth := 3) only [*, Nat.le_of_lt, Nat.lt_of_lt_of_le, Nat.lt_of_le_of_lt, Nat.le_trans, Nat.pos_of_ne_zero, Nat.ne_of_gt, Nat.le_refl, Nat.lt_trans, Nat.succ_ne_zero, Nat.le_add_right, Nat.ne_of_lt, Ne.symm, Nat.succ_le_of_lt, Nat.lt_irrefl, absurd])
    · by_cases hj : j = 0
      · subst hj; rw [swap, Int.natAbs_neg, a0 i (by solve_by_elim (maxDepth := 3) only [*, Nat.le_of_lt, Nat.lt_of_lt_of_le, Nat.lt_of_le_of_lt, Nat.le_trans, Nat.pos_of_ne_zero, Nat.ne_of_gt, Nat.le_refl, Nat.lt_trans, Nat.succ_ne_zero, Nat.le_add_right, Nat.ne_of_lt, Ne.symm, Nat.succ_le_of_lt, Nat.lt_irrefl, absurd])]; exact first i (by solve_by_elim (maxDepth := 3) only [*, Nat.le_of_lt, Nat.lt_of_lt_of_le, Nat.lt_of_le_of_lt, Nat.le_trans, Nat.pos_of_ne_zero, Nat.ne_of_gt, Nat.le_refl, Nat.lt_trans, Nat.succ_ne_zero, Nat.le_add_right, Nat.ne_of_lt, Ne.symm, Nat.succ_le_of_lt, Nat.lt_irrefl, absurd])
      · have : m2 (addM (turn X) 0 q) i j 0 1 = m2 (turn X) i j 0 1 := by unfold m2; rw [row i, row j, if_neg hi, if_neg hj]
        rw [this]; exact E i j 0 1
end Mine
namespace Mine
noncomputable def Res (l x : Int) : Prop := (0 < l ∧ 0 ≤ x ∧ x < l) ∨ (l < 0 ∧ l < x ∧ x ≤ 0)
theorem res_fmod (a : Int) {l : Int} (h : l ≠ 0) : Res l (a.fmod l) := by
  rcases Int.lt_or_lt_of_ne h with g | g
  · have := fmod_neg' a g; exact .inr (by omega)
  · have := fmod_pos a g; exact .inl (by omega)
theorem div_is {x d q r : Int} (h : Res d r) (e : x = d * q + r) : x.fdiv d = q ∧ x.fmod d = r := by
  have hd : d ≠ 0 := by rcases h with h | h <;> lia
  have e2 := fdm x d
  have h2 := res_fmod x hd
  have key : d * (x.fdiv d - q) = r - x.fmod d := by rw [Int.mul_sub]; omega
  have hz : x.fdiv d - q = 0 := by
    generalize x.fdiv d - q = k at *
    rcases Int.lt_trichotomy k 0 with g | g | g
    · rcases h with h | h <;> rcases h2 with h2 | h2
      · have := Int.mul_le_mul_of_nonneg_left (show k ≤ -1 by lia) (Int.le_of_lt h.1); omega
      · omega
      · omega
      · have := Int.mul_le_mul_of_nonneg_left (show k ≤ -1 by lia) (show 0 ≤ -d by lia)
        rw [Int.neg_mul, Int.neg_mul] at this; omega
    · exact g
    · rcases h with h | h <;> rcases h2 with h2 | h2
      · have := Int.mul_le_mul_of_nonneg_left (show 1 ≤ k by assumption) (Int.le_of_lt h.1); omega
      · omega
      · omega
      · have := Int.mul_le_mul_of_nonneg_left (show 1 ≤ k by assumption) (show 0 ≤ -d by lia)
        rw [Int.neg_mul, Int.neg_mul] at this; omega
  refine ⟨by lia, ?_⟩
  rw [hz, Int.mul_zero] at key; lia
noncomputable def Sg (a b : Int) : Prop := (0 < a ∧ 0 < b) ∨ (a < 0 ∧ b < 0)
noncomputable def Og (a b : Int) : Prop := (0 < a ∧ b < 0) ∨ (a < 0 ∧ 0 < b)
theorem mod_same {x d : Int} (h : Sg x d) (h1 : d.natAbs < x.natAbs) (h2 : x.natAbs < 2 * d.natAbs) : x.fdiv d = 1 ∧ x.fmod d = x - d :=
  div_is (by unfold Res; rcases h with h | h <;> grind) (by simp +arith only [*])
theorem mod_opp {x d : Int} (h : Og x d) (h1 : d.natAbs < x.natAbs) (h2 : x.natAbs < 2 * d.natAbs) : x.fdiv d = -2 ∧ x.fmod d = x + 2 * d :=
  div_is (by unfold Res; rcases h with h | h <;> grind) (by simp +arith only [*])
/-- an inner entry that is no slow pivot -/
noncomputable def Harm (P : Nat) (d y x o : Int) : Prop := x = 0 ∨ d.natAbs ≤ x.natAbs ∨ (Sg x d ∧ y ≠ 0) ∨ (Og x d ∧ Og o d ∧ P ≤ o.natAbs ∧ 3 * o.natAbs ≤ 5 * P)
inductive Phs (P : Nat) (X : Nat → Nat → Int) : Nat → Prop
  | s0 : ((∀ i j, X i j = 0) ∨ ∃ i j, X i j ≠ 0 ∧ (X i j).natAbs ≤ P) → Phs P X 5
  | u (q : Nat) : (X 0 0).natAbs = P → X 0 0 ≠ 0 → X 1 0 = 0 → X 2 0 = 0 → (q = 1 ∨ q = 2) → X 0 1 = X q 1 → (X 0 1).fmod (X 0 0) ≠ 0 → Phs P X 4
  | b : (X 0 0).natAbs = P → X 0 0 ≠ 0 → Res (X 0 0) (X 0 1) → Res (X 0 0) (X 1 0) → Res (X 0 0) (X 2 0) → ¬ (X 0 1 = 0 ∧ X 1 0 = 0 ∧ X 2 0 = 0) → Phs P X 3
  | v : 5 * P < 6 * (X 0 0).natAbs → (X 0 0).natAbs ≤ P → X 1 0 = 0 → X 2 0 = 0 → (∀ i j, X i j ≠ 0 → (X 0 0).natAbs ≤ (X i j).natAbs) → (X 0 1).fmod (X 0 0) ≠ 0 → Phs P X 2
  | c : 5 * P < 6 * (X 0 0).natAbs → (X 0 0).natAbs ≤ P → Res (X 0 0) (X 0 1) → Res (X 0 0) (X 1 0) → Res (X 0 0) (X 2 0) → ¬ (X 0 1 = 0 ∧ X 1 0 = 0 ∧ X 2 0 = 0) → Harm P (X 0 0) (X 0 1) (X 1 1) (X 2 1) → Harm P (X 0 0) (X 0 1) (X 2 1) (X 1 1) → Phs P X 1
noncomputable def be : Nat → Nat
  | 5 => 0 | 4 => 0 | 3 => 1 | 2 => 1 | _ => 2
/-- what comes behind the phase k of the reference P; g: how many bits the minors may have grown -/
noncomputable def Nxt (P k g : Nat) (Z : Nat → Nat → Int) : Prop :=
  (∃ P' k', 1 ≤ P' ∧ P' ≤ P ∧ 1 ≤ k' ∧ k' < k ∧ be k + g ≤ be k' ∧ Phs P' Z k') ∨ (∃ P' k', 1 ≤ P' ∧ 6 * P' ≤ 5 * P ∧ 1 ≤ k' ∧ k' ≤ 5 ∧ Phs P' Z k')
structure Sh (X : Nat → Nat → Int) : Prop where
  c : ∀ i j, 2 ≤ j → X i j = 0
  r : ∀ i j, 3 ≤ i → X i j = 0
noncomputable abbrev brg (X : Nat → Nat → Int) (a b : Nat) : Nat → Nat → Int := swC (swR X a 0) b 0
theorem brg_00 (X : Nat → Nat → Int) (a b : Nat) : brg X a b 0 0 = X a b := by show X (swp a 0 0) (swp b 0 0) = _; rw [swp_right, swp_right]
theorem turn_res {X : Nat → Nat → Int} (h : X 0 0 ≠ 0) : (∀ i, i ≠ 0 → Res (X 0 0) (turn X i 0)) ∧ ∀ j, j ≠ 0 → Res (X 0 0) (turn X 0 j) := by
  refine ⟨fun i hi => ?_, fun j hj => ?_⟩
  · rw [turn_i0]; unfold rx; rw [if_neg hi]; exact res_fmod _ h
  · rw [turn_0j]; unfold ry; rw [if_neg hj]; exact res_fmod _ h
theorem turn_00 (X : Nat → Nat → Int) : turn X 0 0 = X 0 0 := by unfold turn; rw [if_pos rfl, if_pos rfl]
theorem Sh.turn' {X : Nat → Nat → Int} (s : Sh X) : Sh (turn X) := ⟨turn_cols (by solve_by_elim (maxDepth := 3) only [*, Nat.le_of_lt, Nat.lt_of_lt_of_le, Nat.lt_of_le_of_lt, Nat.le_trans, Nat.pos_of_ne_zero, Nat.ne_of_gt, Nat.le_refl, Nat.lt_trans, Nat.succ_ne_zero, Nat.le_add_right, Nat.ne_of_lt, Ne.symm, Nat.succ_le_of_lt, Nat.lt_irrefl, absurd]) s.c, turn_rows (by solve_by_elim (maxDepth := 3) only [*, Nat.le_of_lt, Nat.lt_of_lt_of_le, Nat.lt_of_le_of_lt, Nat.le_trans, Nat.pos_of_ne_zero, Nat.ne_of_gt, Nat.le_refl, Nat.lt_trans, Nat.succ_ne_zero, Nat.le_add_right, Nat.ne_of_lt, Ne.symm, Nat.succ_le_of_lt, Nat.lt_irrefl, absurd]) s.r⟩
theorem Sh.piv {X : Nat → Nat → Int} (s : Sh X) {a b : Nat} (p : X a b ≠ 0) : a < 3 ∧ b < 2 := by
  constructor
  · rcases Nat.lt_or_ge a 3 with h | h
    · exact h
    · exact absurd (s.r a b h) p
  · rcases Nat.lt_or_ge b 2 with h | h
    · exact h
    · exact absurd (s.c a b h) p
theorem Sh.brg' {X : Nat → Nat → Int} (s : Sh X) {a b : Nat} (ha : a < 3) (hb : b < 2) : Sh (brg X a b) := by
  refine ⟨fun i j hj => ?_, fun i j hi => ?_⟩
  · show X (swp a 0 i) (swp b 0 j) = 0; rw [swp_ne (i := b) (j := 0) (r := j) (by lia) (by lia)]; exact s.c _ _ hj
  · show X (swp a 0 i) (swp b 0 j) = 0; rw [swp_ne (i := a) (j := 0) (r := i) (by lia) (by lia)]; exact s.r _ _ hi
/-- every turn that is not done -/
theorem gen_b {X : Nat → Nat → Int} (s : Sh X) (h : X 0 0 ≠ 0) (hu : ¬ Done (turn X)) : Phs (X 0 0).natAbs (turn X) 3 := by
  have r := turn_res h
  have s' := s.turn'
  refine .b (by rw [turn_00]) (by rw [turn_00]; exact h) (by rw [turn_00]; exact r.2 1 (by solve_by_elim (maxDepth := 3) only [*, Nat.le_of_lt, Nat.lt_of_lt_of_le, Nat.lt_of_le_of_lt, Nat.le_trans, Nat.pos_of_ne_zero, Nat.ne_of_gt, Nat.le_refl, Nat.lt_trans, Nat.succ_ne_zero, Nat.le_add_right, Nat.ne_of_lt, Ne.symm, Nat.succ_le_of_lt, Nat.lt_irrefl, absurd])) (by rw [turn_00]; exact r.1 1 (by solve_by_elim (maxDepth := 3) only [*, Nat.le_of_lt, Nat.lt_of_lt_of_le, Nat.lt_of_le_of_lt, Nat.le_trans, Nat.pos_of_ne_zero, Nat.ne_of_gt, Nat.le_refl, Nat.lt_trans, Nat.succ_ne_zero, Nat.le_add_right, Nat.ne_of_lt, Ne.symm, Nat.succ_le_of_lt, Nat.lt_irrefl, absurd])) (by rw [turn_00]; exact r.1 2 (by solve_by_elim (maxDepth := 3) only [*, Nat.le_of_lt, Nat.lt_of_lt_of_le, Nat.lt_of_le_of_lt, Nat.le_trans, Nat.pos_of_ne_zero, Nat.ne_of_gt, Nat.le_refl, Nat.lt_trans, Nat.succ_ne_zero, Nat.le_add_right, Nat.ne_of_lt, Ne.symm, Nat.succ_le_of_lt, Nat.lt_irrefl, absurd])) fun ⟨h1, h2, h3⟩ => hu ⟨fun i hi => ?_, fun j hj => ?_⟩
  · rcases Nat.lt_or_ge i 3 with g | g
    · have : i = 1 ∨ i = 2 := by lia
      rcases this with rfl | rfl
      · exact h2
      · exact h3
    · exact s'.r i 0 g
  · rcases Nat.lt_or_ge j 2 with g | g
    · have : j = 1 := by lia
      subst this; exact h1
    · exact s'.c 0 j g
theorem addM_0 (Z : Nat → Nat → Int) (q j : Nat) : addM Z 0 q 0 j = Z 0 j + Z q j := by unfold addM setRow; rw [if_pos rfl]
theorem addM_i (Z : Nat → Nat → Int) {q i : Nat} (hi : i ≠ 0) (j : Nat) : addM Z 0 q i j = Z i j := by unfold addM setRow; rw [if_neg hi]
theorem und_q {Z : Nat → Nat → Int} (s : Sh Z) {q : Nat} (hq : 1 ≤ q) (hx : ∃ j, 1 ≤ j ∧ (Z q j).fmod (Z 0 0) ≠ 0) : (q = 1 ∨ q = 2) ∧ (Z q 1).fmod (Z 0 0) ≠ 0 := by
  obtain ⟨j, hj, hx⟩ := hx
  have hj1 : j = 1 := by
    rcases Nat.lt_or_ge j 2 with g | g
    · lia
    · rw [s.c q j g] at hx; simp at hx
  subst hj1
  refine ⟨?_, hx⟩
  rcases Nat.lt_or_ge q 3 with g | g
  · lia
  · rw [s.r q 1 g] at hx; simp at hx
theorem gen_u {X : Nat → Nat → Int} (s : Sh X) (h : X 0 0 ≠ 0) (d : Done (turn X)) {q : Nat} (hq : 1 ≤ q) (hx : ∃ j, 1 ≤ j ∧ (turn X q j).fmod (turn X 0 0) ≠ 0) : Phs (X 0 0).natAbs (addM (turn X) 0 q) 4 := by
  obtain ⟨hq2, hx⟩ := und_q s.turn' hq hx
  have e00 : addM (turn X) 0 q 0 0 = X 0 0 := by rw [addM_0, turn_00, d.1 q hq]; (simp +arith only [*])
  have e01 : addM (turn X) 0 q 0 1 = turn X q 1 := by rw [addM_0, d.2 1 (Nat.le_refl _)]; (simp +arith only [*])
  refine .u q (by rw [e00]) (by rw [e00]; exact h) (by rw [addM_i _ (by solve_by_elim (maxDepth := 3) only [*, Nat.le_of_lt, Nat.lt_of_lt_of_le, Nat.lt_of_le_of_lt, Nat.le_trans, Nat.pos_of_ne_zero, Nat.ne_of_gt, Nat.le_refl, Nat.lt_trans, Nat.succ_ne_zero, Nat.le_add_right, Nat.ne_of_lt, Ne.symm, Nat.succ_le_of_lt, Nat.lt_irrefl, absurd])]; exact d.1 1 (by solve_by_elim (maxDepth := 3) only [*, Nat.le_of_lt, Nat.lt_of_lt_of_le, Nat.lt_of_le_of_lt, Nat.le_trans, Nat.pos_of_ne_zero, Nat.ne_of_gt, Nat.le_refl, Nat.lt_trans, Nat.succ_ne_zero, Nat.le_add_right, Nat.ne_of_lt, Ne.symm, Nat.succ_le_of_lt, Nat.lt_irrefl, absurd])) (by rw [addM_i _ (by solve_by_elim (maxDepth := 3) only [*, Nat.le_of_lt, Nat.lt_of_lt_of_le, Nat.lt_of_le_of_lt, Nat.le_trans, Nat.pos_of_ne_zero, Nat.ne_of_gt, Nat.le_refl, Nat.lt_trans, Nat.succ_ne_zero, Nat.le_add_right, Nat.ne_of_lt, Ne.symm, Nat.succ_le_of_lt, Nat.lt_irrefl, absurd])]; exact d.1 2 (by solve_by_elim (maxDepth := 3) only [*, Nat.le_of_lt, Nat.lt_of_lt_of_le, Nat.lt_of_le_of_lt, Nat.le_trans, Nat.pos_of_ne_zero, Nat.ne_of_gt, Nat.le_refl, Nat.lt_trans, Nat.succ_ne_zero, Nat.le_add_right, Nat.ne_of_lt, Ne.symm, Nat.succ_le_of_lt, Nat.lt_irrefl, absurd])) hq2 (by rw [e01, addM_i _ (by solve_by_elim (maxDepth := 3) only [*, Nat.le_of_lt, Nat.lt_of_lt_of_le, Nat.lt_of_le_of_lt, Nat.le_trans, Nat.pos_of_ne_zero, Nat.ne_of_gt, Nat.le_refl, Nat.lt_trans, Nat.succ_ne_zero, Nat.le_add_right, Nat.ne_of_lt, Ne.symm, Nat.succ_le_of_lt, Nat.lt_irrefl, absurd])]) ?_
  rw [e00, e01, ← turn_00 X]; exact hx
theorem small {P k g : Nat} {Z : Nat → Nat → Int} {i j : Nat} (h : Z i j ≠ 0) (hs : 6 * (Z i j).natAbs ≤ 5 * P) : Nxt P k g Z := .inr ⟨(Z i j).natAbs, 5, by lia, hs, by solve_by_elim (maxDepth := 3) only [*, Nat.le_of_lt, Nat.lt_of_lt_of_le, Nat.lt_of_le_of_lt, Nat.le_trans, Nat.pos_of_ne_zero, Nat.ne_of_gt, Nat.le_refl, Nat.lt_trans, Nat.succ_ne_zero, Nat.le_add_right, Nat.ne_of_lt, Ne.symm, Nat.succ_le_of_lt, Nat.lt_irrefl, absurd], by solve_by_elim (maxDepth := 3) only [*, Nat.le_of_lt, Nat.lt_of_lt_of_le, Nat.lt_of_le_of_lt, Nat.le_trans, Nat.pos_of_ne_zero, Nat.ne_of_gt, Nat.le_refl, Nat.lt_trans, Nat.succ_ne_zero, Nat.le_add_right, Nat.ne_of_lt, Ne.symm, Nat.succ_le_of_lt, Nat.lt_irrefl, absurd], .s0 (.inr ⟨i, j, h, Nat.le_refl _⟩)⟩
/-- a pivot out of the cross of a lead l: fast -/
theorem cross_fast {P : Nat} {X : Nat → Nat → Int} {a b : Nat} (hab : (a = 0 ∧ b = 1) ∨ ((a = 1 ∨ a = 2) ∧ b = 0)) (hr : Res (X 0 0) (X a b)) (hx : X a b ≠ 0) (hl : (X 0 0).natAbs ≤ P) (hp : 5 * P < 6 * (X a b).natAbs) :
    ∃ i j, ((i = 0 ∧ j ≠ 0) ∨ (i ≠ 0 ∧ j = 0)) ∧ turn (brg X a b) i j ≠ 0 ∧ 6 * (turn (brg X a b) i j).natAbs ≤ 5 * P := by
  have hsg : Sg (X 0 0) (X a b) := by unfold Sg; rcases hr with h | h <;> grind
  have hlt : (X a b).natAbs < (X 0 0).natAbs := by rcases hr with h | h <;> grind
  obtain ⟨_, hm⟩ := mod_same hsg hlt (by lia)
  rcases hab with ⟨rfl, rfl⟩ | ⟨ha, rfl⟩
  · refine ⟨0, 1, .inl ⟨rfl, by solve_by_elim (maxDepth := 3) only [*, Nat.le_of_lt, Nat.lt_of_lt_of_le, Nat.lt_of_le_of_lt, Nat.le_trans, Nat.pos_of_ne_zero, Nat.ne_of_gt, Nat.le_refl, Nat.lt_trans, Nat.succ_ne_zero, Nat.le_add_right, Nat.ne_of_lt, Ne.symm, Nat.succ_le_of_lt, Nat.lt_irrefl, absurd]⟩, ?_⟩
    have e : turn (brg X 0 1) 0 1 = X 0 0 - X 0 1 := by
      rw [turn_0j]; unfold ry; rw [if_neg (by solve_by_elim (maxDepth := 3) only [*, Nat.le_of_lt, Nat.lt_of_lt_of_le, Nat.lt_of_le_of_lt, Nat.le_trans, Nat.pos_of_ne_zero, Nat.ne_of_gt, Nat.le_refl, Nat.lt_trans, Nat.succ_ne_zero, Nat.le_add_right, Nat.ne_of_lt, Ne.symm, Nat.succ_le_of_lt, Nat.lt_irrefl, absurd]), brg_00]
      show (X (swp 0 0 0) (swp 1 0 1)).fmod _ = _
      rw [swp_left, swp_left]; exact hm
    rw [e]
    rcases hr with h | h <;> grind
  · refine ⟨a, 0, .inr ⟨by lia, rfl⟩, ?_⟩
    have e : turn (brg X a 0) a 0 = X 0 0 - X a 0 := by
      rw [turn_i0]; unfold rx; rw [if_neg (by lia), brg_00]
      show (X (swp a 0 a) (swp 0 0 0)).fmod _ = _
      rw [swp_left, swp_left]; exact hm
    rw [e]
    rcases hr with h | h <;> grind
theorem mod1 {x d : Int} (h : 0 < d) (h1 : d < x) (h2 : x < 2 * d) : x.fdiv d = 1 ∧ x.fmod d = x - d := div_is (.inl ⟨h, by lia, by lia⟩) (by simp +arith only [*])
theorem mod2 {x d : Int} (h : d < 0) (h1 : -d < x) (h2 : x < -2 * d) : x.fdiv d = -2 ∧ x.fmod d = x + 2 * d := div_is (.inr ⟨h, by lia, by lia⟩) (by simp +arith only [*])
theorem le6 {x l : Int} (h0 : 0 ≤ x) (hl : 0 ≤ l) (h : 6 * x ≤ 5 * l) : 6 * x.natAbs ≤ 5 * l.natAbs := by
  rw [← Int.ofNat_le, Int.natCast_mul, Int.natCast_mul, Int.natAbs_of_nonneg h0, Int.natAbs_of_nonneg hl]; exact h
theorem le3 {x l : Int} (h0 : 0 ≤ x) (hl : 0 ≤ l) (h : 3 * x ≤ 5 * l) : 3 * x.natAbs ≤ 5 * l.natAbs := by
  rw [← Int.ofNat_le, Int.natCast_mul, Int.natCast_mul, Int.natAbs_of_nonneg h0, Int.natAbs_of_nonneg hl]; exact h
theorem le1 {x l : Int} (h0 : 0 ≤ x) (h : x ≤ l) : x.natAbs ≤ l.natAbs := by
  rw [← Int.ofNat_le, Int.natAbs_of_nonneg h0, Int.natAbs_of_nonneg (Int.le_trans h0 h)]; exact h
theorem Sg.neg {a b : Int} : Sg (-a) (-b) ↔ Sg a b := by unfold Sg; rw [Int.neg_pos, Int.neg_pos, Int.neg_neg_iff_pos, Int.neg_neg_iff_pos]; exact or_comm
theorem Og.neg {a b : Int} : Og (-a) (-b) ↔ Og a b := by unfold Og; rw [Int.neg_pos, Int.neg_pos, Int.neg_neg_iff_pos, Int.neg_neg_iff_pos]; exact or_comm
theorem Harm.neg {P : Nat} {d y x o : Int} : Harm P (-d) (-y) (-x) (-o) ↔ Harm P d y x o := by
  unfold Harm; rw [Sg.neg, Og.neg, Og.neg, Int.natAbs_neg, Int.natAbs_neg, Int.natAbs_neg, Int.neg_eq_zero, Ne, Int.neg_eq_zero]
theorem fmod_negneg (a b : Int) : (-a).fmod (-b) = -(a.fmod b) := by
  have h1 := fdm a b
  have h2 := fdm (-a) (-b)
  rw [Int.neg_fdiv_neg, Int.neg_mul] at h2
  omega
noncomputable abbrev Inner (l σ ρr ρs d e : Int) : Prop :=
    ((σ.fmod d ≠ 0 ∧ 6 * (σ.fmod d).natAbs ≤ 5 * l.natAbs) ∨ (ρr.fmod d ≠ 0 ∧ 6 * (ρr.fmod d).natAbs ≤ 5 * l.natAbs)) ∨
    (d.natAbs ≤ (l - σ.fdiv d * ρr - ρr.fdiv d * (σ - σ.fdiv d * d)).natAbs ∧
     Harm l.natAbs d (ρr.fmod d) (ρs - e.fdiv d * ρr - ρr.fdiv d * (e - e.fdiv d * d)) (l - σ.fdiv d * ρr - ρr.fdiv d * (σ - σ.fdiv d * d)) ∧
     (σ.fmod d = 0 → ρr.fmod d = 0 → σ = 0 ∧ ρr = 0))
theorem inner_f {l σ d : Int} (hl : 0 < l) (s1 : σ < l) (hd : 0 < d) (hp : 5 * l < 6 * d) (k : d < σ) : σ.fmod d ≠ 0 ∧ 6 * (σ.fmod d).natAbs ≤ 5 * l.natAbs := by
  rw [(mod1 hd k (by lia)).2]
  exact ⟨by lia, le6 (by lia) (by lia) (by lia)⟩
theorem inner_p {l σ ρr ρs d e : Int} (hl : 0 < l) (s1 : σ < l) (r1 : ρr < l) (hdl : d.natAbs < l.natAbs) (hp : (0 < d ∧ 5 * l < 6 * d) ∨ (d < 0 ∧ 5 * l < -6 * d ∧ -d < l))
    (k1 : σ ≠ 0 → d < σ ∧ -d < σ) (k2 : ρr ≠ 0 → d < ρr ∧ -d < ρr) (k3 : ρs ≠ 0 → d.natAbs ≤ ρs.natAbs) : Inner l σ ρr ρs d e := by
  have z : (0 : Int).fdiv d = 0 ∧ (0 : Int).fmod d = 0 := by simp
  have hs : Harm l.natAbs d 0 ρs l := by
    by_cases h : ρs = 0
    · exact .inl h
    · exact .inr (.inl (k3 h))
  rcases hp with ⟨hd, hp⟩ | ⟨hd, hp, hdl'⟩
  · by_cases hσ : σ = 0
    · by_cases hρ : ρr = 0
      · right
        subst hσ hρ
        rw [z.1, z.2]
        simp only [Int.zero_mul, Int.mul_zero, Int.sub_zero]
        exact ⟨Nat.le_of_lt hdl, hs, fun _ _ => by trivial⟩
      · exact .inl (.inr (inner_f hl r1 hd hp (k2 hρ).1))
    · exact .inl (.inl (inner_f hl s1 hd hp (k1 hσ).1))
  · right
    by_cases hρ : ρr = 0
    · subst hρ
      rw [z.1, z.2]
      simp only [Int.zero_mul, Int.mul_zero, Int.sub_zero]
      refine ⟨Nat.le_of_lt hdl, hs, fun h0 _ => ⟨?_, trivial⟩⟩
      refine Classical.byContradiction fun hσ => ?_
      have q := k1 hσ
      rw [(mod2 hd q.2 (by lia)).2] at h0
      lia
    · have q2 := k2 hρ
      obtain ⟨hq, hm⟩ := mod2 hd q2.2 (by lia)
      rw [hq, hm]
      have hne : ρr + 2 * d ≠ 0 := by lia
      have corner : l ≤ l - σ.fdiv d * ρr - -2 * (σ - σ.fdiv d * d) ∧ 3 * (l - σ.fdiv d * ρr - -2 * (σ - σ.fdiv d * d)) ≤ 5 * l := by
        by_cases hσ : σ = 0
        · subst hσ
          rw [z.1]
          simp only [Int.zero_mul, Int.mul_zero, Int.sub_zero]
          exact ⟨Int.le_refl _, by lia⟩
        · have q1 := k1 hσ
          rw [(mod2 hd q1.2 (by lia)).1]
          clear hs z k1 k2 k3 hq hm hne
          exact ⟨by lia, by lia⟩
      generalize l - σ.fdiv d * ρr - -2 * (σ - σ.fdiv d * d) = c at *
      generalize ρs - e.fdiv d * ρr - -2 * (e - e.fdiv d * d) = f
      have c0 : 0 < c := Int.lt_of_lt_of_le hl corner.1
      refine ⟨Nat.le_trans (Nat.le_of_lt hdl) (le1 (Int.le_of_lt hl) corner.1), ?_, fun _ h0 => absurd h0 hne⟩
      rcases Int.lt_trichotomy f 0 with hf | hf | hf
      · exact .inr (.inr (.inl ⟨.inr ⟨hf, hd⟩, hne⟩))
      · exact .inl hf
      · exact .inr (.inr (.inr ⟨.inl ⟨hf, hd⟩, .inl ⟨c0, hd⟩, le1 (Int.le_of_lt hl) corner.1, le3 (Int.le_of_lt c0) (Int.le_of_lt hl) corner.2⟩))
theorem side {d l : Int} (hl : 0 < l) (hd : d ≠ 0) (hdl : d.natAbs < l.natAbs) (hp : 5 * l.natAbs < 6 * d.natAbs) : (0 < d ∧ 5 * l < 6 * d) ∨ (d < 0 ∧ 5 * l < -6 * d ∧ -d < l) := by grind
theorem side2 {d x : Int} (hx : 0 ≤ x) (k : x ≠ 0 → d.natAbs < x.natAbs) : x ≠ 0 → d < x ∧ -d < x := fun h => by have := k h; omega
/-- an inner pivot d behind a lead l -/
theorem inner_b {l σ ρr ρs d e : Int} (h1 : Res l σ) (h2 : Res l ρr) (h3 : Res l ρs) (hd : d ≠ 0) (hdl : d.natAbs < l.natAbs) (hp : 5 * l.natAbs < 6 * d.natAbs) (k1 : σ ≠ 0 → d.natAbs < σ.natAbs) (k2 : ρr ≠ 0 → d.natAbs < ρr.natAbs) (k3 : ρs ≠ 0 → d.natAbs ≤ ρs.natAbs) : Inner l σ ρr ρs d e := by
  rcases h1 with h1 | h1
  · have h2 : 0 ≤ ρr ∧ ρr < l := by rcases h2 with h2 | h2 <;> omega
    exact inner_p h1.1 h1.2.2 h2.2 hdl (side h1.1 hd hdl hp) (side2 h1.2.1 k1) (side2 h2.1 k2) k3
  · have h2 : 0 ≤ -ρr ∧ -ρr < -l := by rcases h2 with h2 | h2 <;> omega
    have hl : 0 < -l := by omega
    have hd' : -d ≠ 0 := by lia
    have hdl' : (-d).natAbs < (-l).natAbs := by rw [Int.natAbs_neg, Int.natAbs_neg]; exact hdl
    have hp' : 5 * (-l).natAbs < 6 * (-d).natAbs := by rw [Int.natAbs_neg, Int.natAbs_neg]; exact hp
    have n0 : ∀ {x : Int}, -x ≠ 0 → x ≠ 0 := fun h e => h (by rw [e]; rfl)
    have r := inner_p (l := -l) (σ := -σ) (ρr := -ρr) (ρs := -ρs) (d := -d) (e := -e) hl (by lia) h2.2 hdl' (side hl hd' hdl' hp')
      (side2 (by simp +arith only [*]) fun h => by rw [Int.natAbs_neg, Int.natAbs_neg]; exact k1 (n0 h)) (side2 h2.1 fun h => by rw [Int.natAbs_neg, Int.natAbs_neg]; exact k2 (n0 h)) (fun h => by rw [Int.natAbs_neg, Int.natAbs_neg]; exact k3 (n0 h))
    unfold Inner at r ⊢
    have e1 : -l - σ.fdiv d * -ρr - ρr.fdiv d * (-σ - σ.fdiv d * -d) = -(l - σ.fdiv d * ρr - ρr.fdiv d * (σ - σ.fdiv d * d)) := by grind
    have e2 : -ρs - e.fdiv d * -ρr - ρr.fdiv d * (-e - e.fdiv d * -d) = -(ρs - e.fdiv d * ρr - ρr.fdiv d * (e - e.fdiv d * d)) := by grind
    rw [Int.neg_fdiv_neg, Int.neg_fdiv_neg, Int.neg_fdiv_neg, fmod_negneg, fmod_negneg, e1, e2, Harm.neg] at r
    simp only [Int.natAbs_neg, ne_eq, Int.neg_eq_zero] at r ⊢
    exact r
end Mine
namespace Mine
theorem swp_self (i r : Nat) : swp i i r = r := by unfold swp; split <;> simp_all
theorem brg_self (X : Nat → Nat → Int) : brg X 0 0 = X := by funext i j; show X (swp 0 0 i) (swp 0 0 j) = _; rw [swp_self, swp_self]
theorem Sh.two {X : Nat → Nat → Int} (s : Sh X) {i j : Nat} (h : X i j ≠ 0) : (i = 0 ∨ i = 1 ∨ i = 2) ∧ (j = 0 ∨ j = 1) := by
  have := s.piv h; lia
theorem turn_ij {X : Nat → Nat → Int} {i j : Nat} (hi : i ≠ 0) (hj : j ≠ 0) : turn X i j = X i j - (X i 0).fdiv (X 0 0) * X 0 j - (X 0 j).fdiv (X 0 0) * (X i 0 - (X i 0).fdiv (X 0 0) * X 0 0) := by
  unfold turn; rw [if_neg hi, if_neg hj]
theorem turn_i0' {X : Nat → Nat → Int} {i : Nat} (hi : i ≠ 0) : turn X i 0 = (X i 0).fmod (X 0 0) := by rw [turn_i0]; unfold rx; rw [if_neg hi]
theorem turn_0j' {X : Nat → Nat → Int} {j : Nat} (hj : j ≠ 0) : turn X 0 j = (X 0 j).fmod (X 0 0) := by rw [turn_0j]; unfold ry; rw [if_neg hj]
theorem not_done_res {Z : Nat → Nat → Int} (s : Sh Z) (hu : ¬ Done Z) : ¬ (Z 0 1 = 0 ∧ Z 1 0 = 0 ∧ Z 2 0 = 0) := fun ⟨h1, h2, h3⟩ => hu ⟨fun i hi => Classical.byContradiction fun hz => by
    have := s.two hz
    have : i = 1 ∨ i = 2 := by lia
    rcases this with rfl | rfl
    · exact hz h2
    · exact hz h3, fun j hj => Classical.byContradiction fun hz => by
    have := s.two hz
    have : j = 1 := by lia
    subst this; exact hz h1⟩
/-- the entries behind an inner pivot (1, 1) or (2, 1) -/
structure Inn (X Z : Nat → Nat → Int) (r s : Nat) : Prop where
  z00 : Z 0 0 = X r 1
  z01 : Z 0 1 = (X r 0).fmod (X r 1)
  r0 : Z r 0 = (X 0 1).fmod (X r 1)
  r1 : Z r 1 = X 0 0 - (X 0 1).fdiv (X r 1) * X r 0 - (X r 0).fdiv (X r 1) * (X 0 1 - (X 0 1).fdiv (X r 1) * X r 1)
  s0 : Z s 0 = (X s 1).fmod (X r 1)
  s1 : Z s 1 = X s 0 - (X s 1).fdiv (X r 1) * X r 0 - (X r 0).fdiv (X r 1) * (X s 1 - (X s 1).fdiv (X r 1) * X r 1)
theorem inn {X : Nat → Nat → Int} {r s : Nat} (hrs : (r = 1 ∧ s = 2) ∨ (r = 2 ∧ s = 1)) : Inn X (turn (brg X r 1)) r s := by
  rcases hrs with ⟨rfl, rfl⟩ | ⟨rfl, rfl⟩
  · exact ⟨turn_00 _, turn_0j' (by solve_by_elim (maxDepth := 3) only [*, Nat.le_of_lt, Nat.lt_of_lt_of_le, Nat.lt_of_le_of_lt, Nat.le_trans, Nat.pos_of_ne_zero, Nat.ne_of_gt, Nat.le_refl, Nat.lt_trans, Nat.succ_ne_zero, Nat.le_add_right, Nat.ne_of_lt, Ne.symm, Nat.succ_le_of_lt, Nat.lt_irrefl, absurd]), turn_i0' (by solve_by_elim (maxDepth := 3) only [*, Nat.le_of_lt, Nat.lt_of_lt_of_le, Nat.lt_of_le_of_lt, Nat.le_trans, Nat.pos_of_ne_zero, Nat.ne_of_gt, Nat.le_refl, Nat.lt_trans, Nat.succ_ne_zero, Nat.le_add_right, Nat.ne_of_lt, Ne.symm, Nat.succ_le_of_lt, Nat.lt_irrefl, absurd]), turn_ij (by solve_by_elim (maxDepth := 3) only [*, Nat.le_of_lt, Nat.lt_of_lt_of_le, Nat.lt_of_le_of_lt, Nat.le_trans, Nat.pos_of_ne_zero, Nat.ne_of_gt, Nat.le_refl, Nat.lt_trans, Nat.succ_ne_zero, Nat.le_add_right, Nat.ne_of_lt, Ne.symm, Nat.succ_le_of_lt, Nat.lt_irrefl, absurd]) (by solve_by_elim (maxDepth := 3) only [*, Nat.le_of_lt, Nat.lt_of_lt_of_le, Nat.lt_of_le_of_lt, Nat.le_trans, Nat.pos_of_ne_zero, Nat.ne_of_gt, Nat.le_refl, Nat.lt_trans, Nat.succ_ne_zero, Nat.le_add_right, Nat.ne_of_lt, Ne.symm, Nat.succ_le_of_lt, Nat.lt_irrefl, absurd]), turn_i0' (by solve_by_elim (maxDepth := 3) only [*, Nat.le_of_lt, Nat.lt_of_lt_of_le, Nat.lt_of_le_of_lt, Nat.le_trans, Nat.pos_of_ne_zero, Nat.ne_of_gt, Nat.le_refl, Nat.lt_trans, Nat.succ_ne_zero, Nat.le_add_right, Nat.ne_of_lt, Ne.symm, Nat.succ_le_of_lt, Nat.lt_irrefl, absurd]), turn_ij (by solve_by_elim (maxDepth := 3) only [*, Nat.le_of_lt, Nat.lt_of_lt_of_le, Nat.lt_of_le_of_lt, Nat.le_trans, Nat.pos_of_ne_zero, Nat.ne_of_gt, Nat.le_refl, Nat.lt_trans, Nat.succ_ne_zero, Nat.le_add_right, Nat.ne_of_lt, Ne.symm, Nat.succ_le_of_lt, Nat.lt_irrefl, absurd]) (by solve_by_elim (maxDepth := 3) only [*, Nat.le_of_lt, Nat.lt_of_lt_of_le, Nat.lt_of_le_of_lt, Nat.le_trans, Nat.pos_of_ne_zero, Nat.ne_of_gt, Nat.le_refl, Nat.lt_trans, Nat.succ_ne_zero, Nat.le_add_right, Nat.ne_of_lt, Ne.symm, Nat.succ_le_of_lt, Nat.lt_irrefl, absurd])⟩
  · exact ⟨turn_00 _, turn_0j' (by solve_by_elim (maxDepth := 3) only [*, Nat.le_of_lt, Nat.lt_of_lt_of_le, Nat.lt_of_le_of_lt, Nat.le_trans, Nat.pos_of_ne_zero, Nat.ne_of_gt, Nat.le_refl, Nat.lt_trans, Nat.succ_ne_zero, Nat.le_add_right, Nat.ne_of_lt, Ne.symm, Nat.succ_le_of_lt, Nat.lt_irrefl, absurd]), turn_i0' (by solve_by_elim (maxDepth := 3) only [*, Nat.le_of_lt, Nat.lt_of_lt_of_le, Nat.lt_of_le_of_lt, Nat.le_trans, Nat.pos_of_ne_zero, Nat.ne_of_gt, Nat.le_refl, Nat.lt_trans, Nat.succ_ne_zero, Nat.le_add_right, Nat.ne_of_lt, Ne.symm, Nat.succ_le_of_lt, Nat.lt_irrefl, absurd]), turn_ij (by solve_by_elim (maxDepth := 3) only [*, Nat.le_of_lt, Nat.lt_of_lt_of_le, Nat.lt_of_le_of_lt, Nat.le_trans, Nat.pos_of_ne_zero, Nat.ne_of_gt, Nat.le_refl, Nat.lt_trans, Nat.succ_ne_zero, Nat.le_add_right, Nat.ne_of_lt, Ne.symm, Nat.succ_le_of_lt, Nat.lt_irrefl, absurd]) (by solve_by_elim (maxDepth := 3) only [*, Nat.le_of_lt, Nat.lt_of_lt_of_le, Nat.lt_of_le_of_lt, Nat.le_trans, Nat.pos_of_ne_zero, Nat.ne_of_gt, Nat.le_refl, Nat.lt_trans, Nat.succ_ne_zero, Nat.le_add_right, Nat.ne_of_lt, Ne.symm, Nat.succ_le_of_lt, Nat.lt_irrefl, absurd]), turn_i0' (by solve_by_elim (maxDepth := 3) only [*, Nat.le_of_lt, Nat.lt_of_lt_of_le, Nat.lt_of_le_of_lt, Nat.le_trans, Nat.pos_of_ne_zero, Nat.ne_of_gt, Nat.le_refl, Nat.lt_trans, Nat.succ_ne_zero, Nat.le_add_right, Nat.ne_of_lt, Ne.symm, Nat.succ_le_of_lt, Nat.lt_irrefl, absurd]), turn_ij (by solve_by_elim (maxDepth := 3) only [*, Nat.le_of_lt, Nat.lt_of_lt_of_le, Nat.lt_of_le_of_lt, Nat.le_trans, Nat.pos_of_ne_zero, Nat.ne_of_gt, Nat.le_refl, Nat.lt_trans, Nat.succ_ne_zero, Nat.le_add_right, Nat.ne_of_lt, Ne.symm, Nat.succ_le_of_lt, Nat.lt_irrefl, absurd]) (by solve_by_elim (maxDepth := 3) only [*, Nat.le_of_lt, Nat.lt_of_lt_of_le, Nat.lt_of_le_of_lt, Nat.le_trans, Nat.pos_of_ne_zero, Nat.ne_of_gt, Nat.le_refl, Nat.lt_trans, Nat.succ_ne_zero, Nat.le_add_right, Nat.ne_of_lt, Ne.symm, Nat.succ_le_of_lt, Nat.lt_irrefl, absurd])⟩
theorem mk_v {P : Nat} {Z : Nat → Nat → Int} {q r s : Nat} (hrs : (r = 1 ∧ s = 2) ∨ (r = 2 ∧ s = 1)) (sh : Sh Z) (d : Done Z) (h1 : 5 * P < 6 * (Z 0 0).natAbs) (h2 : (Z 0 0).natAbs ≤ P) (hq : q = 1 ∨ q = 2) (hx : (Z q 1).fmod (Z 0 0) ≠ 0)
    (kr : Z r 1 ≠ 0 → (Z 0 0).natAbs ≤ (Z r 1).natAbs) (ks : Z s 1 ≠ 0 → (Z 0 0).natAbs ≤ (Z s 1).natAbs) : Phs P (addM Z 0 q) 2 := by
  have e00 : addM Z 0 q 0 0 = Z 0 0 := by rw [addM_0, d.1 q (by lia)]; (simp +arith only [*])
  have e01 : addM Z 0 q 0 1 = Z q 1 := by rw [addM_0, d.2 1 (Nat.le_refl _)]; (simp +arith only [*])
  have kk : ∀ i, (i = 1 ∨ i = 2) → Z i 1 ≠ 0 → (Z 0 0).natAbs ≤ (Z i 1).natAbs := fun i hi h => by
    rcases hrs with ⟨rfl, rfl⟩ | ⟨rfl, rfl⟩ <;> rcases hi with rfl | rfl
    · exact kr h
    · exact ks h
    · exact ks h
    · exact kr h
  refine .v (by rw [e00]; exact h1) (by rw [e00]; exact h2) (by rw [addM_i _ (by solve_by_elim (maxDepth := 3) only [*, Nat.le_of_lt, Nat.lt_of_lt_of_le, Nat.lt_of_le_of_lt, Nat.le_trans, Nat.pos_of_ne_zero, Nat.ne_of_gt, Nat.le_refl, Nat.lt_trans, Nat.succ_ne_zero, Nat.le_add_right, Nat.ne_of_lt, Ne.symm, Nat.succ_le_of_lt, Nat.lt_irrefl, absurd])]; exact d.1 1 (by solve_by_elim (maxDepth := 3) only [*, Nat.le_of_lt, Nat.lt_of_lt_of_le, Nat.lt_of_le_of_lt, Nat.le_trans, Nat.pos_of_ne_zero, Nat.ne_of_gt, Nat.le_refl, Nat.lt_trans, Nat.succ_ne_zero, Nat.le_add_right, Nat.ne_of_lt, Ne.symm, Nat.succ_le_of_lt, Nat.lt_irrefl, absurd])) (by rw [addM_i _ (by solve_by_elim (maxDepth := 3) only [*, Nat.le_of_lt, Nat.lt_of_lt_of_le, Nat.lt_of_le_of_lt, Nat.le_trans, Nat.pos_of_ne_zero, Nat.ne_of_gt, Nat.le_refl, Nat.lt_trans, Nat.succ_ne_zero, Nat.le_add_right, Nat.ne_of_lt, Ne.symm, Nat.succ_le_of_lt, Nat.lt_irrefl, absurd])]; exact d.1 2 (by solve_by_elim (maxDepth := 3) only [*, Nat.le_of_lt, Nat.lt_of_lt_of_le, Nat.lt_of_le_of_lt, Nat.le_trans, Nat.pos_of_ne_zero, Nat.ne_of_gt, Nat.le_refl, Nat.lt_trans, Nat.succ_ne_zero, Nat.le_add_right, Nat.ne_of_lt, Ne.symm, Nat.succ_le_of_lt, Nat.lt_irrefl, absurd])) (fun i j hij => ?_) (by rw [e00, e01]; exact hx)
  rw [e00]
  by_cases hi : i = 0
  · subst hi
    rw [addM_0] at hij ⊢
    by_cases hj : j = 0
    · subst hj; rw [d.1 q (by lia)]; (simp +arith only [*])
    · rw [d.2 j (by solve_by_elim (maxDepth := 3) only [*, Nat.le_of_lt, Nat.lt_of_lt_of_le, Nat.lt_of_le_of_lt, Nat.le_trans, Nat.pos_of_ne_zero, Nat.ne_of_gt, Nat.le_refl, Nat.lt_trans, Nat.succ_ne_zero, Nat.le_add_right, Nat.ne_of_lt, Ne.symm, Nat.succ_le_of_lt, Nat.lt_irrefl, absurd])] at hij ⊢
      have hz : Z q j ≠ 0 := by lia
      have := sh.two hz
      have : j = 1 := by lia
      subst this
      have := kk q hq hz
      (simp +arith only [*])
  · rw [addM_i _ hi] at hij ⊢
    have := sh.two hij
    by_cases hj : j = 0
    · subst hj; exact absurd (d.1 i (by solve_by_elim (maxDepth := 3) only [*, Nat.le_of_lt, Nat.lt_of_lt_of_le, Nat.lt_of_le_of_lt, Nat.le_trans, Nat.pos_of_ne_zero, Nat.ne_of_gt, Nat.le_refl, Nat.lt_trans, Nat.succ_ne_zero, Nat.le_add_right, Nat.ne_of_lt, Ne.symm, Nat.succ_le_of_lt, Nat.lt_irrefl, absurd])) hij
    · have : j = 1 := by lia
      subst this
      exact kk i (by lia) hij
theorem res_ne {l x : Int} (h : Res l x) (hx : x ≠ 0) : x.natAbs < l.natAbs := by rcases h with h | h <;> omega
theorem cross_lt {a b : Nat} {X : Nat → Nat → Int} (hmin : ∀ i j, X i j ≠ 0 → (X a b).natAbs ≤ (X i j).natAbs ∧ (Before a b i j → (X a b).natAbs < (X i j).natAbs)) (r1 : Res (X 0 0) (X 0 1)) (r2 : Res (X 0 0) (X 1 0)) (r3 : Res (X 0 0) (X 2 0))
    (h6 : ¬ (X 0 1 = 0 ∧ X 1 0 = 0 ∧ X 2 0 = 0)) : (X a b).natAbs < (X 0 0).natAbs := by
  by_cases e1 : X 0 1 = 0
  · by_cases e2 : X 1 0 = 0
    · have e3 : X 2 0 ≠ 0 := fun e3 => h6 ⟨e1, e2, e3⟩
      exact Nat.lt_of_le_of_lt (hmin 2 0 e3).1 (res_ne r3 e3)
    · exact Nat.lt_of_le_of_lt (hmin 1 0 e2).1 (res_ne r2 e2)
  · exact Nat.lt_of_le_of_lt (hmin 0 1 e1).1 (res_ne r1 e1)
set_option maxHeartbeats 1000000 in
theorem phs_n {P k a b : Nat} {X : Nat → Nat → Int} (s : Sh X) (ph : Phs P X k) (pv : Piv X a b) (hu : ¬ Done (turn (brg X a b))) : Nxt P k 1 (turn (brg X a b)) := by
  obtain ⟨hne, hmin⟩ := pv
  have hab := s.piv hne
  have hab2 := s.two hne
  have sb := s.brg' hab.1 hab.2
  have h00 : brg X a b 0 0 ≠ 0 := by rw [brg_00]; exact hne
  have gb := gen_b sb h00 hu
  rw [brg_00] at gb
  have sz := sb.turn'
  by_cases hf : 6 * (X a b).natAbs ≤ 5 * P
  · exact .inr ⟨(X a b).natAbs, 3, by grind, hf, by solve_by_elim (maxDepth := 3) only [*, Nat.le_of_lt, Nat.lt_of_lt_of_le, Nat.lt_of_le_of_lt, Nat.le_trans, Nat.pos_of_ne_zero, Nat.ne_of_gt, Nat.le_refl, Nat.lt_trans, Nat.succ_ne_zero, Nat.le_add_right, Nat.ne_of_lt, Ne.symm, Nat.succ_le_of_lt, Nat.lt_irrefl, absurd], by decide, gb⟩
  have hf : 5 * P < 6 * (X a b).natAbs := by lia
  cases ph with
  | s0 h =>
    rcases h with h | ⟨i, j, hij, hle⟩
    · exact absurd (h a b) hne
    · exact .inl ⟨(X a b).natAbs, 3, by lia, Nat.le_trans (hmin i j hij).1 hle, by solve_by_elim (maxDepth := 3) only [*, Nat.le_of_lt, Nat.lt_of_lt_of_le, Nat.lt_of_le_of_lt, Nat.le_trans, Nat.pos_of_ne_zero, Nat.ne_of_gt, Nat.le_refl, Nat.lt_trans, Nat.succ_ne_zero, Nat.le_add_right, Nat.ne_of_lt, Ne.symm, Nat.succ_le_of_lt, Nat.lt_irrefl, absurd], by solve_by_elim (maxDepth := 3) only [*, Nat.le_of_lt, Nat.lt_of_lt_of_le, Nat.lt_of_le_of_lt, Nat.le_trans, Nat.pos_of_ne_zero, Nat.ne_of_gt, Nat.le_refl, Nat.lt_trans, Nat.succ_ne_zero, Nat.le_add_right, Nat.ne_of_lt, Ne.symm, Nat.succ_le_of_lt, Nat.lt_irrefl, absurd], by decide, gb⟩
  | u q h1 h2 h3 h4 h5 h6 h7 =>
    exact .inl ⟨(X a b).natAbs, 3, by lia, by have := (hmin 0 0 h2).1; lia, by solve_by_elim (maxDepth := 3) only [*, Nat.le_of_lt, Nat.lt_of_lt_of_le, Nat.lt_of_le_of_lt, Nat.le_trans, Nat.pos_of_ne_zero, Nat.ne_of_gt, Nat.le_refl, Nat.lt_trans, Nat.succ_ne_zero, Nat.le_add_right, Nat.ne_of_lt, Ne.symm, Nat.succ_le_of_lt, Nat.lt_irrefl, absurd], by solve_by_elim (maxDepth := 3) only [*, Nat.le_of_lt, Nat.lt_of_lt_of_le, Nat.lt_of_le_of_lt, Nat.le_trans, Nat.pos_of_ne_zero, Nat.ne_of_gt, Nat.le_refl, Nat.lt_trans, Nat.succ_ne_zero, Nat.le_add_right, Nat.ne_of_lt, Ne.symm, Nat.succ_le_of_lt, Nat.lt_irrefl, absurd], by decide, gb⟩
  | b h1 h2 r1 r2 r3 h6 =>
    have hlt : (X a b).natAbs < P := h1 ▸ cross_lt hmin r1 r2 r3 h6
    have cross : ∀ hr : Res (X 0 0) (X a b), ((a = 0 ∧ b = 1) ∨ ((a = 1 ∨ a = 2) ∧ b = 0)) → Nxt P 3 1 (turn (brg X a b)) := fun hr hc => by
      obtain ⟨i, j, _, hz, hs⟩ := cross_fast hc hr hne (by simp +arith only [*]) hf
      exact small hz hs
    have inner : ∀ r t : Nat, (r = 1 ∧ t = 2) ∨ (r = 2 ∧ t = 1) → a = r → b = 1 → Res (X 0 0) (X r 0) → Res (X 0 0) (X t 0) → Nxt P 3 1 (turn (brg X a b)) := by
      intro r t hrt ea eb hr ht
      subst ea eb
      have I := inn (X := X) hrt
      have B := inner_b (l := X 0 0) (σ := X 0 1) (ρr := X a 0) (ρs := X t 0) (d := X a 1) (e := X t 1) r1 hr ht hne (by simp +arith only [*]) (by simp +arith only [*])
        (fun h => (hmin 0 1 h).2 (.inl (by lia))) (fun h => (hmin a 0 h).2 (.inr ⟨rfl, by solve_by_elim (maxDepth := 3) only [*, Nat.le_of_lt, Nat.lt_of_lt_of_le, Nat.lt_of_le_of_lt, Nat.le_trans, Nat.pos_of_ne_zero, Nat.ne_of_gt, Nat.le_refl, Nat.lt_trans, Nat.succ_ne_zero, Nat.le_add_right, Nat.ne_of_lt, Ne.symm, Nat.succ_le_of_lt, Nat.lt_irrefl, absurd]⟩)) (fun h => (hmin t 0 h).1)
      unfold Inner at B
      rw [← I.r0, ← I.z01, ← I.r1, ← I.s1, ← I.z00, h1] at B
      rcases B with (⟨z1, z2⟩ | ⟨z1, z2⟩) | ⟨b1, b2, _⟩
      · exact small z1 z2
      · exact small z1 z2
      · have R := turn_res h00
        have e00 : turn (brg X a 1) 0 0 = brg X a 1 0 0 := turn_00 _
        rw [← e00] at R
        refine .inl ⟨P, 1, by lia, Nat.le_refl _, by solve_by_elim (maxDepth := 3) only [*, Nat.le_of_lt, Nat.lt_of_lt_of_le, Nat.lt_of_le_of_lt, Nat.le_trans, Nat.pos_of_ne_zero, Nat.ne_of_gt, Nat.le_refl, Nat.lt_trans, Nat.succ_ne_zero, Nat.le_add_right, Nat.ne_of_lt, Ne.symm, Nat.succ_le_of_lt, Nat.lt_irrefl, absurd], by solve_by_elim (maxDepth := 3) only [*, Nat.le_of_lt, Nat.lt_of_lt_of_le, Nat.lt_of_le_of_lt, Nat.le_trans, Nat.pos_of_ne_zero, Nat.ne_of_gt, Nat.le_refl, Nat.lt_trans, Nat.succ_ne_zero, Nat.le_add_right, Nat.ne_of_lt, Ne.symm, Nat.succ_le_of_lt, Nat.lt_irrefl, absurd], by decide, .c ?_ ?_ (R.2 1 (by solve_by_elim (maxDepth := 3) only [*, Nat.le_of_lt, Nat.lt_of_lt_of_le, Nat.lt_of_le_of_lt, Nat.le_trans, Nat.pos_of_ne_zero, Nat.ne_of_gt, Nat.le_refl, Nat.lt_trans, Nat.succ_ne_zero, Nat.le_add_right, Nat.ne_of_lt, Ne.symm, Nat.succ_le_of_lt, Nat.lt_irrefl, absurd])) (R.1 1 (by solve_by_elim (maxDepth := 3) only [*, Nat.le_of_lt, Nat.lt_of_lt_of_le, Nat.lt_of_le_of_lt, Nat.le_trans, Nat.pos_of_ne_zero, Nat.ne_of_gt, Nat.le_refl, Nat.lt_trans, Nat.succ_ne_zero, Nat.le_add_right, Nat.ne_of_lt, Ne.symm, Nat.succ_le_of_lt, Nat.lt_irrefl, absurd])) (R.1 2 (by solve_by_elim (maxDepth := 3) only [*, Nat.le_of_lt, Nat.lt_of_lt_of_le, Nat.lt_of_le_of_lt, Nat.le_trans, Nat.pos_of_ne_zero, Nat.ne_of_gt, Nat.le_refl, Nat.lt_trans, Nat.succ_ne_zero, Nat.le_add_right, Nat.ne_of_lt, Ne.symm, Nat.succ_le_of_lt, Nat.lt_irrefl, absurd])) (not_done_res sz hu) ?_ ?_⟩
        · rw [I.z00]; exact hf
        · rw [I.z00]; (exact Nat.le_of_lt (by assumption))
        · rcases hrt with ⟨rfl, rfl⟩ | ⟨rfl, rfl⟩
          · exact .inr (.inl b1)
          · exact b2
        · rcases hrt with ⟨rfl, rfl⟩ | ⟨rfl, rfl⟩
          · exact b2
          · exact .inr (.inl b1)
    rcases hab2 with ⟨rfl | rfl | rfl, rfl | rfl⟩
    · lia
    · exact cross r1 (.inl ⟨rfl, rfl⟩)
    · exact cross r2 (.inr ⟨.inl rfl, rfl⟩)
    · exact inner 1 2 (.inl ⟨rfl, rfl⟩) rfl rfl r2 r3
    · exact cross r3 (.inr ⟨.inr rfl, rfl⟩)
    · exact inner 2 1 (.inr ⟨rfl, rfl⟩) rfl rfl r3 r2
  | v h1 h2 h3 h4 h5 h6 =>
    have h0 : X 0 0 ≠ 0 := by grind
    have ha0 : a = 0 ∧ b = 0 := by
      have := h5 a b hne
      have := (hmin 0 0 h0).2
      by_cases e : a = 0 ∧ b = 0
      · exact e
      · have := this (by unfold Before; lia); lia
    obtain ⟨rfl, rfl⟩ := ha0
    rw [brg_self] at *
    have R := turn_res h0
    rw [← turn_00 X] at R
    have z1 : ∀ i, i ≠ 0 → X i 0 = 0 → turn X i 1 = X i 1 := fun i hi h => by rw [turn_ij hi (by solve_by_elim (maxDepth := 3) only [*, Nat.le_of_lt, Nat.lt_of_lt_of_le, Nat.lt_of_le_of_lt, Nat.le_trans, Nat.pos_of_ne_zero, Nat.ne_of_gt, Nat.le_refl, Nat.lt_trans, Nat.succ_ne_zero, Nat.le_add_right, Nat.ne_of_lt, Ne.symm, Nat.succ_le_of_lt, Nat.lt_irrefl, absurd]), h, zero_fdiv']; simp
    refine .inl ⟨P, 1, by lia, Nat.le_refl _, by solve_by_elim (maxDepth := 3) only [*, Nat.le_of_lt, Nat.lt_of_lt_of_le, Nat.lt_of_le_of_lt, Nat.le_trans, Nat.pos_of_ne_zero, Nat.ne_of_gt, Nat.le_refl, Nat.lt_trans, Nat.succ_ne_zero, Nat.le_add_right, Nat.ne_of_lt, Ne.symm, Nat.succ_le_of_lt, Nat.lt_irrefl, absurd], by solve_by_elim (maxDepth := 3) only [*, Nat.le_of_lt, Nat.lt_of_lt_of_le, Nat.lt_of_le_of_lt, Nat.le_trans, Nat.pos_of_ne_zero, Nat.ne_of_gt, Nat.le_refl, Nat.lt_trans, Nat.succ_ne_zero, Nat.le_add_right, Nat.ne_of_lt, Ne.symm, Nat.succ_le_of_lt, Nat.lt_irrefl, absurd], by decide, .c (by rw [turn_00]; exact h1) (by rw [turn_00]; exact h2) (R.2 1 (by solve_by_elim (maxDepth := 3) only [*, Nat.le_of_lt, Nat.lt_of_lt_of_le, Nat.lt_of_le_of_lt, Nat.le_trans, Nat.pos_of_ne_zero, Nat.ne_of_gt, Nat.le_refl, Nat.lt_trans, Nat.succ_ne_zero, Nat.le_add_right, Nat.ne_of_lt, Ne.symm, Nat.succ_le_of_lt, Nat.lt_irrefl, absurd])) (R.1 1 (by solve_by_elim (maxDepth := 3) only [*, Nat.le_of_lt, Nat.lt_of_lt_of_le, Nat.lt_of_le_of_lt, Nat.le_trans, Nat.pos_of_ne_zero, Nat.ne_of_gt, Nat.le_refl, Nat.lt_trans, Nat.succ_ne_zero, Nat.le_add_right, Nat.ne_of_lt, Ne.symm, Nat.succ_le_of_lt, Nat.lt_irrefl, absurd])) (R.1 2 (by solve_by_elim (maxDepth := 3) only [*, Nat.le_of_lt, Nat.lt_of_lt_of_le, Nat.lt_of_le_of_lt, Nat.le_trans, Nat.pos_of_ne_zero, Nat.ne_of_gt, Nat.le_refl, Nat.lt_trans, Nat.succ_ne_zero, Nat.le_add_right, Nat.ne_of_lt, Ne.symm, Nat.succ_le_of_lt, Nat.lt_irrefl, absurd])) (not_done_res sz hu) ?_ ?_⟩
    · rw [z1 1 (by solve_by_elim (maxDepth := 3) only [*, Nat.le_of_lt, Nat.lt_of_lt_of_le, Nat.lt_of_le_of_lt, Nat.le_trans, Nat.pos_of_ne_zero, Nat.ne_of_gt, Nat.le_refl, Nat.lt_trans, Nat.succ_ne_zero, Nat.le_add_right, Nat.ne_of_lt, Ne.symm, Nat.succ_le_of_lt, Nat.lt_irrefl, absurd]) h3, turn_00]
      by_cases e : X 1 1 = 0
      · exact .inl e
      · exact .inr (.inl (h5 1 1 e))
    · rw [z1 2 (by solve_by_elim (maxDepth := 3) only [*, Nat.le_of_lt, Nat.lt_of_lt_of_le, Nat.lt_of_le_of_lt, Nat.le_trans, Nat.pos_of_ne_zero, Nat.ne_of_gt, Nat.le_refl, Nat.lt_trans, Nat.succ_ne_zero, Nat.le_add_right, Nat.ne_of_lt, Ne.symm, Nat.succ_le_of_lt, Nat.lt_irrefl, absurd]) h4, turn_00]
      by_cases e : X 2 1 = 0
      · exact .inl e
      · exact .inr (.inl (h5 2 1 e))
  | c h1 h2 r1 r2 r3 h6 m1 m2 =>
    have hlt : (X a b).natAbs < (X 0 0).natAbs := cross_lt hmin r1 r2 r3 h6
    have cross : ∀ hr : Res (X 0 0) (X a b), ((a = 0 ∧ b = 1) ∨ ((a = 1 ∨ a = 2) ∧ b = 0)) → Nxt P 1 1 (turn (brg X a b)) := fun hr hc => by
      obtain ⟨i, j, _, hz, hs⟩ := cross_fast hc hr hne h2 hf
      exact small hz hs
    have inner : ∀ r t : Nat, (r = 1 ∧ t = 2) ∨ (r = 2 ∧ t = 1) → a = r → b = 1 → Harm P (X 0 0) (X 0 1) (X r 1) (X t 1) → Nxt P 1 1 (turn (brg X a b)) := by
      intro r t hrt ea eb H
      subst ea eb
      have I := inn (X := X) hrt
      rcases H with H | H | ⟨hs, hy⟩ | ⟨ho, ho2, hP, hP2⟩
      · exact absurd H hne
      · lia
      · have hl := (hmin 0 1 hy).2 (.inl (by lia))
        have hy2 := res_ne r1 hy
        obtain ⟨_, hm⟩ := mod_same (x := X 0 1) (d := X a 1) (by unfold Sg at *; rcases r1 with h | h <;> grind) hl (by lia)
        have hz : turn (brg X a 1) a 0 = X 0 1 - X a 1 := I.r0.trans hm
        refine small (i := a) (j := 0) ?_ ?_
        · rw [hz]; grind
        · rw [hz]; unfold Sg at hs; rcases r1 with h | h <;> omega
      · obtain ⟨_, hm⟩ := mod_same (x := X t 1) (d := X a 1) (by unfold Sg; unfold Og at *; grind) (by lia) (by lia)
        have hz : turn (brg X a 1) t 0 = X t 1 - X a 1 := I.s0.trans hm
        refine small (i := t) (j := 0) ?_ ?_
        · rw [hz]; grind
        · rw [hz]; unfold Og at *; omega
    rcases hab2 with ⟨rfl | rfl | rfl, rfl | rfl⟩
    · (solve_by_elim (maxDepth := 3) only [*, Nat.le_of_lt, Nat.lt_of_lt_of_le, Nat.lt_of_le_of_lt, Nat.le_trans, Nat.pos_of_ne_zero, Nat.ne_of_gt, Nat.le_refl, Nat.lt_trans, Nat.succ_ne_zero, Nat.le_add_right, Nat.ne_of_lt, Ne.symm, Nat.succ_le_of_lt, Nat.lt_irrefl, absurd])
    · exact cross r1 (.inl ⟨rfl, rfl⟩)
    · exact cross r2 (.inr ⟨.inl rfl, rfl⟩)
    · exact inner 1 2 (.inl ⟨rfl, rfl⟩) rfl rfl m1
    · exact cross r3 (.inr ⟨.inr rfl, rfl⟩)
    · exact inner 2 1 (.inr ⟨rfl, rfl⟩) rfl rfl m2
set_option maxHeartbeats 1000000 in
theorem phs_u {P k a b q : Nat} {X : Nat → Nat → Int} (s : Sh X) (ph : Phs P X k) (pv : Piv X a b) (hd : Done (turn (brg X a b))) (hq : 1 ≤ q) (hx : ∃ j, 1 ≤ j ∧ (turn (brg X a b) q j).fmod (turn (brg X a b) 0 0) ≠ 0) : Nxt P k 0 (addM (turn (brg X a b)) 0 q) := by
  have hpv := pv
  obtain ⟨hne, hmin⟩ := pv
  have hab := s.piv hne
  have hab2 := s.two hne
  have sb := s.brg' hab.1 hab.2
  have h00 : brg X a b 0 0 ≠ 0 := by rw [brg_00]; exact hne
  have gu := gen_u sb h00 hd hq hx
  rw [brg_00] at gu
  have sz := sb.turn'
  obtain ⟨hq2, hx1⟩ := und_q sz hq hx
  by_cases hf : 6 * (X a b).natAbs ≤ 5 * P
  · exact .inr ⟨(X a b).natAbs, 4, by grind, hf, by solve_by_elim (maxDepth := 3) only [*, Nat.le_of_lt, Nat.lt_of_lt_of_le, Nat.lt_of_le_of_lt, Nat.le_trans, Nat.pos_of_ne_zero, Nat.ne_of_gt, Nat.le_refl, Nat.lt_trans, Nat.succ_ne_zero, Nat.le_add_right, Nat.ne_of_lt, Ne.symm, Nat.succ_le_of_lt, Nat.lt_irrefl, absurd], by solve_by_elim (maxDepth := 3) only [*, Nat.le_of_lt, Nat.lt_of_lt_of_le, Nat.lt_of_le_of_lt, Nat.le_trans, Nat.pos_of_ne_zero, Nat.ne_of_gt, Nat.le_refl, Nat.lt_trans, Nat.succ_ne_zero, Nat.le_add_right, Nat.ne_of_lt, Ne.symm, Nat.succ_le_of_lt, Nat.lt_irrefl, absurd], gu⟩
  have hf : 5 * P < 6 * (X a b).natAbs := by lia
  cases ph with
  | s0 h =>
    rcases h with h | ⟨i, j, hij, hle⟩
    · exact absurd (h a b) hne
    · exact .inl ⟨(X a b).natAbs, 4, by lia, Nat.le_trans (hmin i j hij).1 hle, by solve_by_elim (maxDepth := 3) only [*, Nat.le_of_lt, Nat.lt_of_lt_of_le, Nat.lt_of_le_of_lt, Nat.le_trans, Nat.pos_of_ne_zero, Nat.ne_of_gt, Nat.le_refl, Nat.lt_trans, Nat.succ_ne_zero, Nat.le_add_right, Nat.ne_of_lt, Ne.symm, Nat.succ_le_of_lt, Nat.lt_irrefl, absurd], by solve_by_elim (maxDepth := 3) only [*, Nat.le_of_lt, Nat.lt_of_lt_of_le, Nat.lt_of_le_of_lt, Nat.le_trans, Nat.pos_of_ne_zero, Nat.ne_of_gt, Nat.le_refl, Nat.lt_trans, Nat.succ_ne_zero, Nat.le_add_right, Nat.ne_of_lt, Ne.symm, Nat.succ_le_of_lt, Nat.lt_irrefl, absurd], by decide, gu⟩
  | u q' h1 h2 h3 h4 h5 h6 h7 =>
    have hle := (hmin 0 0 h2).1
    have hlt : (X a b).natAbs < P := by
      by_cases e : a = 0 ∧ b = 0
      · obtain ⟨rfl, rfl⟩ := e
        rw [brg_self] at hd
        have := hd.2 1 (Nat.le_refl _)
        rw [turn_0j' (by solve_by_elim (maxDepth := 3) only [*, Nat.le_of_lt, Nat.lt_of_lt_of_le, Nat.lt_of_le_of_lt, Nat.le_trans, Nat.pos_of_ne_zero, Nat.ne_of_gt, Nat.le_refl, Nat.lt_trans, Nat.succ_ne_zero, Nat.le_add_right, Nat.ne_of_lt, Ne.symm, Nat.succ_le_of_lt, Nat.lt_irrefl, absurd])] at this
        exact absurd this h7
      · have := (hmin 0 0 h2).2 (by unfold Before; lia); lia
    have h01 : X 0 1 ≠ 0 := fun e => h7 (by rw [e]; simp)
    -- the pivot stands in the other row
    have inner : ∀ r t : Nat, (r = 1 ∧ t = 2) ∨ (r = 2 ∧ t = 1) → a = r → b = 1 → X r 0 = 0 → X t 0 = 0 → Nxt P 4 0 (addM (turn (brg X a b)) 0 q) := by
      intro r t hrt ea eb z1 z2
      subst ea eb
      have I := inn (X := X) hrt
      have r1 : turn (brg X a 1) a 1 = X 0 0 := by rw [I.r1, z1, zero_fdiv']; simp
      have s1 : turn (brg X a 1) t 1 = 0 := by rw [I.s1, z1, z2, zero_fdiv']; simp
      refine .inl ⟨P, 2, by lia, Nat.le_refl _, by solve_by_elim (maxDepth := 3) only [*, Nat.le_of_lt, Nat.lt_of_lt_of_le, Nat.lt_of_le_of_lt, Nat.le_trans, Nat.pos_of_ne_zero, Nat.ne_of_gt, Nat.le_refl, Nat.lt_trans, Nat.succ_ne_zero, Nat.le_add_right, Nat.ne_of_lt, Ne.symm, Nat.succ_le_of_lt, Nat.lt_irrefl, absurd], by solve_by_elim (maxDepth := 3) only [*, Nat.le_of_lt, Nat.lt_of_lt_of_le, Nat.lt_of_le_of_lt, Nat.le_trans, Nat.pos_of_ne_zero, Nat.ne_of_gt, Nat.le_refl, Nat.lt_trans, Nat.succ_ne_zero, Nat.le_add_right, Nat.ne_of_lt, Ne.symm, Nat.succ_le_of_lt, Nat.lt_irrefl, absurd], by decide, mk_v hrt sz hd (by rw [I.z00]; exact hf) (by rw [I.z00]; (exact Nat.le_of_lt (by assumption))) hq2 hx1 (fun _ => ?_) (fun h => absurd s1 h)⟩
      rw [r1, I.z00]; omega
    rcases hab2 with ⟨rfl | rfl | rfl, rfl | rfl⟩
    · lia
    · -- the lead's own row
      exfalso
      have := hd.2 1 (Nat.le_refl _)
      rw [turn_0j' (by solve_by_elim (maxDepth := 3) only [*, Nat.le_of_lt, Nat.lt_of_lt_of_le, Nat.lt_of_le_of_lt, Nat.le_trans, Nat.pos_of_ne_zero, Nat.ne_of_gt, Nat.le_refl, Nat.lt_trans, Nat.succ_ne_zero, Nat.le_add_right, Nat.ne_of_lt, Ne.symm, Nat.succ_le_of_lt, Nat.lt_irrefl, absurd])] at this
      have e : (X 0 0).fmod (X 0 1) = 0 := this
      have e2 := fdm (X 0 0) (X 0 1)
      rw [e, Int.add_zero] at e2
      have e3 : (X 0 0).natAbs = (X 0 1).natAbs * ((X 0 0).fdiv (X 0 1)).natAbs := by rw [← Int.natAbs_mul, ← e2]
      generalize ((X 0 0).fdiv (X 0 1)).natAbs = k at e3
      have hk : 2 ≤ k := by
        rcases Nat.lt_or_ge k 2 with g | g
        · have : k = 0 ∨ k = 1 := by lia
          rcases this with rfl | rfl <;> simp at e3 <;> lia
        · exact g
      have := Nat.mul_le_mul_left (X 0 1).natAbs hk
      lia
    · exact absurd h3 hne
    · rcases h5 with rfl | rfl
      · have := (hmin 0 1 h01).2 (.inl (by solve_by_elim (maxDepth := 3) only [*, Nat.le_of_lt, Nat.lt_of_lt_of_le, Nat.lt_of_le_of_lt, Nat.le_trans, Nat.pos_of_ne_zero, Nat.ne_of_gt, Nat.le_refl, Nat.lt_trans, Nat.succ_ne_zero, Nat.le_add_right, Nat.ne_of_lt, Ne.symm, Nat.succ_le_of_lt, Nat.lt_irrefl, absurd])); rw [h6] at this; (solve_by_elim (maxDepth := 3) only [*, Nat.le_of_lt, Nat.lt_of_lt_of_le, Nat.lt_of_le_of_lt, Nat.le_trans, Nat.pos_of_ne_zero, Nat.ne_of_gt, Nat.le_refl, Nat.lt_trans, Nat.succ_ne_zero, Nat.le_add_right, Nat.ne_of_lt, Ne.symm, Nat.succ_le_of_lt, Nat.lt_irrefl, absurd])
      · exact inner 1 2 (.inl ⟨rfl, rfl⟩) rfl rfl h3 h4
    · exact absurd h4 hne
    · rcases h5 with rfl | rfl
      · exact inner 2 1 (.inr ⟨rfl, rfl⟩) rfl rfl h4 h3
      · have := (hmin 0 1 h01).2 (.inl (by solve_by_elim (maxDepth := 3) only [*, Nat.le_of_lt, Nat.lt_of_lt_of_le, Nat.lt_of_le_of_lt, Nat.le_trans, Nat.pos_of_ne_zero, Nat.ne_of_gt, Nat.le_refl, Nat.lt_trans, Nat.succ_ne_zero, Nat.le_add_right, Nat.ne_of_lt, Ne.symm, Nat.succ_le_of_lt, Nat.lt_irrefl, absurd])); rw [h6] at this; (solve_by_elim (maxDepth := 3) only [*, Nat.le_of_lt, Nat.lt_of_lt_of_le, Nat.lt_of_le_of_lt, Nat.le_trans, Nat.pos_of_ne_zero, Nat.ne_of_gt, Nat.le_refl, Nat.lt_trans, Nat.succ_ne_zero, Nat.le_add_right, Nat.ne_of_lt, Ne.symm, Nat.succ_le_of_lt, Nat.lt_irrefl, absurd])
  | b h1 h2 r1 r2 r3 h6 =>
    have hlt : (X a b).natAbs < P := h1 ▸ cross_lt hmin r1 r2 r3 h6
    have cross : ∀ hr : Res (X 0 0) (X a b), ((a = 0 ∧ b = 1) ∨ ((a = 1 ∨ a = 2) ∧ b = 0)) → Nxt P 3 0 (addM (turn (brg X a b)) 0 q) := fun hr hc => by
      obtain ⟨i, j, hij, hz, hs⟩ := cross_fast hc hr hne (by simp +arith only [*]) hf
      exfalso
      rcases hij with ⟨rfl, hj⟩ | ⟨hi, rfl⟩
      · exact hz (hd.2 j (by solve_by_elim (maxDepth := 3) only [*, Nat.le_of_lt, Nat.lt_of_lt_of_le, Nat.lt_of_le_of_lt, Nat.le_trans, Nat.pos_of_ne_zero, Nat.ne_of_gt, Nat.le_refl, Nat.lt_trans, Nat.succ_ne_zero, Nat.le_add_right, Nat.ne_of_lt, Ne.symm, Nat.succ_le_of_lt, Nat.lt_irrefl, absurd]))
      · exact hz (hd.1 i (by solve_by_elim (maxDepth := 3) only [*, Nat.le_of_lt, Nat.lt_of_lt_of_le, Nat.lt_of_le_of_lt, Nat.le_trans, Nat.pos_of_ne_zero, Nat.ne_of_gt, Nat.le_refl, Nat.lt_trans, Nat.succ_ne_zero, Nat.le_add_right, Nat.ne_of_lt, Ne.symm, Nat.succ_le_of_lt, Nat.lt_irrefl, absurd]))
    have inner : ∀ r t : Nat, (r = 1 ∧ t = 2) ∨ (r = 2 ∧ t = 1) → a = r → b = 1 → Res (X 0 0) (X r 0) → Res (X 0 0) (X t 0) → Nxt P 3 0 (addM (turn (brg X a b)) 0 q) := by
      intro r t hrt ea eb hr ht
      subst ea eb
      have I := inn (X := X) hrt
      have B := inner_b (l := X 0 0) (σ := X 0 1) (ρr := X a 0) (ρs := X t 0) (d := X a 1) (e := X t 1) r1 hr ht hne (by simp +arith only [*]) (by simp +arith only [*])
        (fun h => (hmin 0 1 h).2 (.inl (by lia))) (fun h => (hmin a 0 h).2 (.inr ⟨rfl, by solve_by_elim (maxDepth := 3) only [*, Nat.le_of_lt, Nat.lt_of_lt_of_le, Nat.lt_of_le_of_lt, Nat.le_trans, Nat.pos_of_ne_zero, Nat.ne_of_gt, Nat.le_refl, Nat.lt_trans, Nat.succ_ne_zero, Nat.le_add_right, Nat.ne_of_lt, Ne.symm, Nat.succ_le_of_lt, Nat.lt_irrefl, absurd]⟩)) (fun h => (hmin t 0 h).1)
      have zr : (X 0 1).fmod (X a 1) = 0 := by rw [← I.r0]; exact hd.1 a (by lia)
      have z0 : (X a 0).fmod (X a 1) = 0 := by rw [← I.z01]; exact hd.2 1 (Nat.le_refl _)
      rcases B with (⟨z1, z2⟩ | ⟨z1, z2⟩) | ⟨_, _, b3⟩
      · exact absurd zr z1
      · exact absurd z0 z1
      · obtain ⟨c1, c2⟩ := b3 zr z0
        have e1 : turn (brg X a 1) a 1 = X 0 0 := by rw [I.r1, c1, c2, zero_fdiv']; simp
        have e2 : turn (brg X a 1) t 1 = X t 0 := by rw [I.s1, c2, zero_fdiv']; simp
        refine .inl ⟨P, 2, by lia, Nat.le_refl _, by solve_by_elim (maxDepth := 3) only [*, Nat.le_of_lt, Nat.lt_of_lt_of_le, Nat.lt_of_le_of_lt, Nat.le_trans, Nat.pos_of_ne_zero, Nat.ne_of_gt, Nat.le_refl, Nat.lt_trans, Nat.succ_ne_zero, Nat.le_add_right, Nat.ne_of_lt, Ne.symm, Nat.succ_le_of_lt, Nat.lt_irrefl, absurd], by solve_by_elim (maxDepth := 3) only [*, Nat.le_of_lt, Nat.lt_of_lt_of_le, Nat.lt_of_le_of_lt, Nat.le_trans, Nat.pos_of_ne_zero, Nat.ne_of_gt, Nat.le_refl, Nat.lt_trans, Nat.succ_ne_zero, Nat.le_add_right, Nat.ne_of_lt, Ne.symm, Nat.succ_le_of_lt, Nat.lt_irrefl, absurd], by decide, mk_v hrt sz hd (by rw [I.z00]; exact hf) (by rw [I.z00]; (exact Nat.le_of_lt (by assumption))) hq2 hx1 (fun _ => ?_) (fun h => ?_)⟩
        · rw [e1, I.z00]; lia
        · rw [e2] at h ⊢; rw [I.z00]; exact (hmin t 0 h).1
    rcases hab2 with ⟨rfl | rfl | rfl, rfl | rfl⟩
    · lia
    · exact cross r1 (.inl ⟨rfl, rfl⟩)
    · exact cross r2 (.inr ⟨.inl rfl, rfl⟩)
    · exact inner 1 2 (.inl ⟨rfl, rfl⟩) rfl rfl r2 r3
    · exact cross r3 (.inr ⟨.inr rfl, rfl⟩)
    · exact inner 2 1 (.inr ⟨rfl, rfl⟩) rfl rfl r3 r2
  | v h1 h2 h3 h4 h5 h6 =>
    have h0 : X 0 0 ≠ 0 := by lia
    have ha0 : a = 0 ∧ b = 0 := by
      have := h5 a b hne
      have := (hmin 0 0 h0).2
      by_cases e : a = 0 ∧ b = 0
      · exact e
      · have := this (by unfold Before; lia); lia
    obtain ⟨rfl, rfl⟩ := ha0
    rw [brg_self] at hd
    have := hd.2 1 (Nat.le_refl _)
    rw [turn_0j' (by solve_by_elim (maxDepth := 3) only [*, Nat.le_of_lt, Nat.lt_of_lt_of_le, Nat.lt_of_le_of_lt, Nat.le_trans, Nat.pos_of_ne_zero, Nat.ne_of_gt, Nat.le_refl, Nat.lt_trans, Nat.succ_ne_zero, Nat.le_add_right, Nat.ne_of_lt, Ne.symm, Nat.succ_le_of_lt, Nat.lt_irrefl, absurd])] at this
    exact absurd this h6
  | c h1 h2 r1 r2 r3 h6 m1 m2 =>
    exfalso
    have hlt : (X a b).natAbs < (X 0 0).natAbs := cross_lt hmin r1 r2 r3 h6
    have cross : ∀ hr : Res (X 0 0) (X a b), ((a = 0 ∧ b = 1) ∨ ((a = 1 ∨ a = 2) ∧ b = 0)) → False := fun hr hc => by
      obtain ⟨i, j, hij, hz, hs⟩ := cross_fast hc hr hne h2 hf
      rcases hij with ⟨rfl, hj⟩ | ⟨hi, rfl⟩
      · exact hz (hd.2 j (by solve_by_elim (maxDepth := 3) only [*, Nat.le_of_lt, Nat.lt_of_lt_of_le, Nat.lt_of_le_of_lt, Nat.le_trans, Nat.pos_of_ne_zero, Nat.ne_of_gt, Nat.le_refl, Nat.lt_trans, Nat.succ_ne_zero, Nat.le_add_right, Nat.ne_of_lt, Ne.symm, Nat.succ_le_of_lt, Nat.lt_irrefl, absurd]))
      · exact hz (hd.1 i (by solve_by_elim (maxDepth := 3) only [*, Nat.le_of_lt, Nat.lt_of_lt_of_le, Nat.lt_of_le_of_lt, Nat.le_trans, Nat.pos_of_ne_zero, Nat.ne_of_gt, Nat.le_refl, Nat.lt_trans, Nat.succ_ne_zero, Nat.le_add_right, Nat.ne_of_lt, Ne.symm, Nat.succ_le_of_lt, Nat.lt_irrefl, absurd]))
    have inner : ∀ r t : Nat, (r = 1 ∧ t = 2) ∨ (r = 2 ∧ t = 1) → a = r → b = 1 → Harm P (X 0 0) (X 0 1) (X r 1) (X t 1) → False := by
      intro r t hrt ea eb H
      subst ea eb
      have I := inn (X := X) hrt
      rcases H with H | H | ⟨hs, hy⟩ | ⟨ho, ho2, hP, hP2⟩
      · exact absurd H hne
      · lia
      · have hl := (hmin 0 1 hy).2 (.inl (by omega))
        have hy2 := res_ne r1 hy
        obtain ⟨_, hm⟩ := mod_same (x := X 0 1) (d := X a 1) (by unfold Sg at *; rcases r1 with h | h <;> grind) hl (by lia)
        have hz : turn (brg X a 1) a 0 = X 0 1 - X a 1 := I.r0.trans hm
        have := hd.1 a (by lia)
        grind
      · obtain ⟨_, hm⟩ := mod_same (x := X t 1) (d := X a 1) (by unfold Sg; unfold Og at *; grind) (by lia) (by lia)
        have hz : turn (brg X a 1) t 0 = X t 1 - X a 1 := I.s0.trans hm
        have := hd.1 t (by lia)
        grind
    rcases hab2 with ⟨rfl | rfl | rfl, rfl | rfl⟩
    · (solve_by_elim (maxDepth := 3) only [*, Nat.le_of_lt, Nat.lt_of_lt_of_le, Nat.lt_of_le_of_lt, Nat.le_trans, Nat.pos_of_ne_zero, Nat.ne_of_gt, Nat.le_refl, Nat.lt_trans, Nat.succ_ne_zero, Nat.le_add_right, Nat.ne_of_lt, Ne.symm, Nat.succ_le_of_lt, Nat.lt_irrefl, absurd])
    · exact cross r1 (.inl ⟨rfl, rfl⟩)
    · exact cross r2 (.inr ⟨.inl rfl, rfl⟩)
    · exact inner 1 2 (.inl ⟨rfl, rfl⟩) rfl rfl m1
    · exact cross r3 (.inr ⟨.inr rfl, rfl⟩)
    · exact inner 2 1 (.inr ⟨rfl, rfl⟩) rfl rfl m2
end Mine
namespace Mine
/-- what holds of s, step rows and columns done -/
structure Core (m n : Nat) (B : Nat → Nat → Int) (step : Nat) (S : Nat → Nat → Int) : Prop where
  eq : REq m n B m n S
  row0 : ∀ i, i < step → ∀ j, j < n → j ≠ i → S i j = 0
  col0 : ∀ i, i < step → ∀ r, r < m → r ≠ i → S r i = 0
  pos : ∀ i, i < step → 0 < S i i
  dv : ∀ i, i < step → ∀ r c, i < r → r < m → i < c → c < n → S i i ∣ S r c
  le : step ≤ min m n
theorem swp_old {i j r : Nat} (h1 : r < i) (h2 : r < j) : swp i j r = r := swp_ne (by solve_by_elim (maxDepth := 3) only [*, Nat.le_of_lt, Nat.lt_of_lt_of_le, Nat.lt_of_le_of_lt, Nat.le_trans, Nat.pos_of_ne_zero, Nat.ne_of_gt, Nat.le_refl, Nat.lt_trans, Nat.succ_ne_zero, Nat.le_add_right, Nat.ne_of_lt, Ne.symm, Nat.succ_le_of_lt, Nat.lt_irrefl, absurd]) (by solve_by_elim (maxDepth := 3) only [*, Nat.le_of_lt, Nat.lt_of_lt_of_le, Nat.lt_of_le_of_lt, Nat.le_trans, Nat.pos_of_ne_zero, Nat.ne_of_gt, Nat.le_refl, Nat.lt_trans, Nat.succ_ne_zero, Nat.le_add_right, Nat.ne_of_lt, Ne.symm, Nat.succ_le_of_lt, Nat.lt_irrefl, absurd])
theorem swp_ge {i j r s : Nat} (h1 : s ≤ i) (h2 : s ≤ j) (h : s ≤ r) : s ≤ swp i j r := by
  unfold swp
  split
  · omega
  · split <;> omega
theorem Core.swR' {m n step r : Nat} {B S : Nat → Nat → Int} (x : Core m n B step S) (hr : step ≤ r) (hrm : r < m) (hs : step < m) : Core m n B step (swR S r step) where
  eq := x.eq.trans (.swapR hrm hs)
  row0 := fun i hi j hj hne => by show S (swp r step i) j = 0; rw [swp_old (by lia) hi]; exact x.row0 i hi j hj hne
  col0 := fun i hi r' hr' hne => by
    show S (swp r step r') i = 0
    refine x.col0 i hi _ (swp_lt hrm hs hr') fun e => hne ?_
    rw [← swp_swp r step r', e, swp_old (by lia) hi]
  pos := fun i hi => by show 0 < S (swp r step i) i; rw [swp_old (by lia) hi]; exact x.pos i hi
  dv := fun i hi r' c h1 h2 h3 h4 => by
    show S (swp r step i) i ∣ S (swp r step r') c
    rw [swp_old (by lia) hi]
    exact x.dv i hi _ c (swp_ge (s := i + 1) (by lia) (by assumption) h1) (swp_lt hrm hs h2) h3 h4
  le := x.le
theorem Core.swC' {m n step r : Nat} {B S : Nat → Nat → Int} (x : Core m n B step S) (hr : step ≤ r) (hrm : r < n) (hs : step < n) : Core m n B step (swC S r step) where
  eq := x.eq.trans (.swapC hrm hs)
  row0 := fun i hi j hj hne => by
    show S i (swp r step j) = 0
    refine x.row0 i hi _ (swp_lt hrm hs hj) fun e => hne ?_
    rw [← swp_swp r step j, e, swp_old (by lia) hi]
  col0 := fun i hi r' hr' hne => by show S r' (swp r step i) = 0; rw [swp_old (by lia) hi]; exact x.col0 i hi r' hr' hne
  pos := fun i hi => by show 0 < S i (swp r step i); rw [swp_old (by lia) hi]; exact x.pos i hi
  dv := fun i hi r' c h1 h2 h3 h4 => by
    show S i (swp r step i) ∣ S r' (swp r step c)
    rw [swp_old (by lia) hi]
    exact x.dv i hi r' _ h1 h2 (swp_ge (s := i + 1) (by lia) (by assumption) h3) (swp_lt hrm hs h4)
  le := x.le
theorem Core.redR' {m n step k : Nat} {B S : Nat → Nat → Int} {q : Nat → Int} (x : Core m n B step S) (hs : step < m) (hn : step < n) : Core m n B step (redR S q step k) := by
  have old : ∀ i j, i < step → redR S q step k i j = S i j := fun i j hi => redR_at (.inr (by exact Nat.le_of_lt (by assumption)))
  refine ⟨x.eq.trans (.redR hs), fun i hi j hj hne => by rw [old i j hi]; exact x.row0 i hi j hj hne, fun i hi r hr hne => ?_, fun i hi => by rw [old i i hi]; exact x.pos i hi, fun i hi r c h1 h2 h3 h4 => ?_, x.le⟩
  · unfold Mine.redR; split
    · rw [x.col0 i hi r hr hne, x.col0 i hi step hs (by solve_by_elim (maxDepth := 3) only [*, Nat.le_of_lt, Nat.lt_of_lt_of_le, Nat.lt_of_le_of_lt, Nat.le_trans, Nat.pos_of_ne_zero, Nat.ne_of_gt, Nat.le_refl, Nat.lt_trans, Nat.succ_ne_zero, Nat.le_add_right, Nat.ne_of_lt, Ne.symm, Nat.succ_le_of_lt, Nat.lt_irrefl, absurd])]; simp
    · exact x.col0 i hi r hr hne
  · rw [old i i hi]; unfold Mine.redR; split
    · exact Int.dvd_sub (x.dv i hi r c h1 h2 h3 h4) (Int.dvd_mul_of_dvd_right (x.dv i hi step c hi hs h3 h4))
    · exact x.dv i hi r c h1 h2 h3 h4
theorem Core.redC' {m n step k : Nat} {B S : Nat → Nat → Int} {q : Nat → Int} (x : Core m n B step S) (hs : step < m) (hn : step < n) : Core m n B step (redC S q step k) := by
  have old : ∀ i j, i < step → redC S q step k j i = S j i := fun i j hi => redC_at (.inr (by exact Nat.le_of_lt (by assumption)))
  refine ⟨x.eq.trans (.redC hn), fun i hi j hj hne => ?_, fun i hi r hr hne => by rw [old i r hi]; exact x.col0 i hi r hr hne, fun i hi => by rw [old i i hi]; exact x.pos i hi, fun i hi r c h1 h2 h3 h4 => ?_, x.le⟩
  · unfold Mine.redC; split
    · rw [x.row0 i hi j hj hne, x.row0 i hi step hn (by solve_by_elim (maxDepth := 3) only [*, Nat.le_of_lt, Nat.lt_of_lt_of_le, Nat.lt_of_le_of_lt, Nat.le_trans, Nat.pos_of_ne_zero, Nat.ne_of_gt, Nat.le_refl, Nat.lt_trans, Nat.succ_ne_zero, Nat.le_add_right, Nat.ne_of_lt, Ne.symm, Nat.succ_le_of_lt, Nat.lt_irrefl, absurd])]; simp
    · exact x.row0 i hi j hj hne
  · rw [old i i hi]; unfold Mine.redC; split
    · exact Int.dvd_sub (x.dv i hi r c h1 h2 h3 h4) (Int.dvd_mul_of_dvd_right (x.dv i hi r step h1 h2 hi hn))
    · exact x.dv i hi r c h1 h2 h3 h4
theorem Core.addM' {m n step q : Nat} {B S : Nat → Nat → Int} (x : Core m n B step S) (hs : step < m) (hq : step < q) (hqm : q < m) : Core m n B step (addM S step q) := by
  have old : ∀ i, i ≠ step → addM S step q i = S i := fun i hi => by funext c; unfold Mine.addM setRow; rw [if_neg hi]
  have new : ∀ c, addM S step q step c = S step c + S q c := fun c => by unfold Mine.addM setRow; rw [if_pos rfl]
  refine ⟨x.eq.trans (.addM hs hqm (by solve_by_elim (maxDepth := 3) only [*, Nat.le_of_lt, Nat.lt_of_lt_of_le, Nat.lt_of_le_of_lt, Nat.le_trans, Nat.pos_of_ne_zero, Nat.ne_of_gt, Nat.le_refl, Nat.lt_trans, Nat.succ_ne_zero, Nat.le_add_right, Nat.ne_of_lt, Ne.symm, Nat.succ_le_of_lt, Nat.lt_irrefl, absurd])), fun i hi j hj hne => by rw [old i (by solve_by_elim (maxDepth := 3) only [*, Nat.le_of_lt, Nat.lt_of_lt_of_le, Nat.lt_of_le_of_lt, Nat.le_trans, Nat.pos_of_ne_zero, Nat.ne_of_gt, Nat.le_refl, Nat.lt_trans, Nat.succ_ne_zero, Nat.le_add_right, Nat.ne_of_lt, Ne.symm, Nat.succ_le_of_lt, Nat.lt_irrefl, absurd])]; exact x.row0 i hi j hj hne, fun i hi r hr hne => ?_, fun i hi => by rw [old i (by solve_by_elim (maxDepth := 3) only [*, Nat.le_of_lt, Nat.lt_of_lt_of_le, Nat.lt_of_le_of_lt, Nat.le_trans, Nat.pos_of_ne_zero, Nat.ne_of_gt, Nat.le_refl, Nat.lt_trans, Nat.succ_ne_zero, Nat.le_add_right, Nat.ne_of_lt, Ne.symm, Nat.succ_le_of_lt, Nat.lt_irrefl, absurd])]; exact x.pos i hi, fun i hi r c h1 h2 h3 h4 => ?_, x.le⟩
  · by_cases e : r = step
    · subst e; rw [new, x.col0 i hi r hr hne, x.col0 i hi q hqm (by lia)]; rfl
    · rw [old r e]; exact x.col0 i hi r hr hne
  · rw [old i (by solve_by_elim (maxDepth := 3) only [*, Nat.le_of_lt, Nat.lt_of_lt_of_le, Nat.lt_of_le_of_lt, Nat.le_trans, Nat.pos_of_ne_zero, Nat.ne_of_gt, Nat.le_refl, Nat.lt_trans, Nat.succ_ne_zero, Nat.le_add_right, Nat.ne_of_lt, Ne.symm, Nat.succ_le_of_lt, Nat.lt_irrefl, absurd])]
    by_cases e : r = step
    · subst e; rw [new]; exact Int.dvd_add (x.dv i hi r c h1 h2 h3 h4) (x.dv i hi q c (by lia) hqm h3 h4)
    · rw [old r e]; exact x.dv i hi r c h1 h2 h3 h4
theorem Core.cc {m n step r c : Nat} {B S : Nat → Nat → Int} (x : Core m n B step S) (hr : step ≤ r) (hrm : r < m) (hc : step ≤ c) (hcn : c < n) : Core m n B step (ccS (swC (swR S r step) c step) step m n) :=
  (((x.swR' hr hrm (by lia)).swC' hc hcn (by lia)).redR' (by lia) (by lia)).redC' (by lia) (by lia)
theorem dvd_of_fmod {a b : Int} (h : a.fmod b = 0) : b ∣ a := ⟨a.fdiv b, by have := fdm a b; omega⟩
theorem Core.next {m n step : Nat} {B S : Nat → Nat → Int} (x : Core m n B step S) (hs : step < min m n) (h0 : S step step ≠ 0) (hr : ∀ r, step < r → r < m → S r step = 0) (hc : ∀ c, step < c → c < n → S step c = 0)
    (hd : ∀ q c, step < q → q < m → step < c → c < n → (S q c).fmod (S step step) = 0) : Core m n B (step + 1) (negM (decide (S step step < 0)) S step) := by
  have old : ∀ i, i ≠ step → negM (decide (S step step < 0)) S step i = S i := fun i hi => by
    funext c; unfold negM; split
    · unfold setRow; rw [if_neg hi]
    · rfl
  have z : ∀ c, S step c = 0 → negM (decide (S step step < 0)) S step step c = 0 := fun c h => by
    unfold negM; split
    · unfold setRow; rw [if_pos rfl]; dsimp only; (simp +arith only [*])
    · exact h
  have p : 0 < negM (decide (S step step < 0)) S step step step := by
    unfold negM
    by_cases g : S step step < 0
    · rw [decide_eq_true g, if_pos rfl]; unfold setRow; rw [if_pos rfl]; dsimp only; lia
    · rw [decide_eq_false g, if_neg (by simp)]; lia
  have dz : ∀ y, S step step ∣ y → negM (decide (S step step < 0)) S step step step ∣ y := fun y h => by
    unfold negM; split
    · unfold setRow; rw [if_pos rfl]; exact Int.neg_dvd.mpr h
    · exact h
  refine ⟨x.eq.trans (.negM (by grind)), fun i hi j hj hne => ?_, fun i hi r hr' hne => ?_, fun i hi => ?_, fun i hi r c h1 h2 h3 h4 => ?_, by assumption⟩
  · by_cases e : i = step
    · subst e
      rcases Nat.lt_or_gt_of_ne hne with g | g
      · exact z j (x.col0 j g i (by grind) (by solve_by_elim (maxDepth := 3) only [*, Nat.le_of_lt, Nat.lt_of_lt_of_le, Nat.lt_of_le_of_lt, Nat.le_trans, Nat.pos_of_ne_zero, Nat.ne_of_gt, Nat.le_refl, Nat.lt_trans, Nat.succ_ne_zero, Nat.le_add_right, Nat.ne_of_lt, Ne.symm, Nat.succ_le_of_lt, Nat.lt_irrefl, absurd]))
      · exact z j (hc j g hj)
    · rw [old i e]; exact x.row0 i (by lia) j hj hne
  · by_cases e : i = step
    · subst e
      rw [old r hne]
      rcases Nat.lt_or_gt_of_ne hne with g | g
      · exact x.row0 r g i (by grind) (by solve_by_elim (maxDepth := 3) only [*, Nat.le_of_lt, Nat.lt_of_lt_of_le, Nat.lt_of_le_of_lt, Nat.le_trans, Nat.pos_of_ne_zero, Nat.ne_of_gt, Nat.le_refl, Nat.lt_trans, Nat.succ_ne_zero, Nat.le_add_right, Nat.ne_of_lt, Ne.symm, Nat.succ_le_of_lt, Nat.lt_irrefl, absurd])
      · exact hr r g hr'
    · by_cases e2 : r = step
      · subst e2; exact z i (x.col0 i (by lia) r (by omega) (by omega))
      · rw [old r e2]; exact x.col0 i (by lia) r hr' hne
  · by_cases e : i = step
    · subst e; exact p
    · rw [old i e]; exact x.pos i (by lia)
  · by_cases e : i = step
    · subst e; rw [old r (by solve_by_elim (maxDepth := 3) only [*, Nat.le_of_lt, Nat.lt_of_lt_of_le, Nat.lt_of_le_of_lt, Nat.le_trans, Nat.pos_of_ne_zero, Nat.ne_of_gt, Nat.le_refl, Nat.lt_trans, Nat.succ_ne_zero, Nat.le_add_right, Nat.ne_of_lt, Ne.symm, Nat.succ_le_of_lt, Nat.lt_irrefl, absurd])]; exact dz _ (dvd_of_fmod (hd r c h1 h2 h3 h4))
    · rw [old i e]
      by_cases e2 : r = step
      · subst e2
        have := x.dv i (by omega) r c h1 h2 h3 h4
        unfold negM; split
        · unfold setRow; rw [if_pos rfl]; exact Int.dvd_neg.mpr this
        · exact this
      · rw [old r e2]; exact x.dv i (by lia) r c h1 h2 h3 h4
theorem Core.done {m n step : Nat} {B S : Nat → Nat → Int} (x : Core m n B step S) (h : step = min m n ∨ ∀ r c, step ≤ r → r < m → step ≤ c → c < n → S r c = 0) : SOf m n B S := by
  have hz : ∀ r c, step ≤ r → r < m → step ≤ c → c < n → S r c = 0 := by
    rcases h with h | h
    · intro r c h1 h2 h3 h4; lia
    · exact h
  refine ⟨fun i j hi hj hne => ?_, fun i hi => ?_, fun i hi => ?_, x.eq⟩
  · rcases Nat.lt_or_ge i step with g | g
    · exact x.row0 i g j hj (Ne.symm hne)
    · rcases Nat.lt_or_ge j step with g' | g'
      · exact x.col0 j g' i hi hne
      · exact hz i j g hi g' hj
  · rcases Nat.lt_or_ge i step with g | g
    · exact Int.le_of_lt (x.pos i g)
    · rw [hz i i g (by grind) g (by grind)]; exact Int.le_refl 0
  · rcases Nat.lt_or_ge i step with g | g
    · exact x.dv i g (i + 1) (i + 1) (by solve_by_elim (maxDepth := 3) only [*, Nat.le_of_lt, Nat.lt_of_lt_of_le, Nat.lt_of_le_of_lt, Nat.le_trans, Nat.pos_of_ne_zero, Nat.ne_of_gt, Nat.le_refl, Nat.lt_trans, Nat.succ_ne_zero, Nat.le_add_right, Nat.ne_of_lt, Ne.symm, Nat.succ_le_of_lt, Nat.lt_irrefl, absurd]) (by grind) (by solve_by_elim (maxDepth := 3) only [*, Nat.le_of_lt, Nat.lt_of_lt_of_le, Nat.lt_of_le_of_lt, Nat.le_trans, Nat.pos_of_ne_zero, Nat.ne_of_gt, Nat.le_refl, Nat.lt_trans, Nat.succ_ne_zero, Nat.le_add_right, Nat.ne_of_lt, Ne.symm, Nat.succ_le_of_lt, Nat.lt_irrefl, absurd]) (by grind)
    · rw [hz (i + 1) (i + 1) (by solve_by_elim (maxDepth := 3) only [*, Nat.le_of_lt, Nat.lt_of_lt_of_le, Nat.lt_of_le_of_lt, Nat.le_trans, Nat.pos_of_ne_zero, Nat.ne_of_gt, Nat.le_refl, Nat.lt_trans, Nat.succ_ne_zero, Nat.le_add_right, Nat.ne_of_lt, Ne.symm, Nat.succ_le_of_lt, Nat.lt_irrefl, absurd]) (by omega) (by solve_by_elim (maxDepth := 3) only [*, Nat.le_of_lt, Nat.lt_of_lt_of_le, Nat.lt_of_le_of_lt, Nat.le_trans, Nat.pos_of_ne_zero, Nat.ne_of_gt, Nat.le_refl, Nat.lt_trans, Nat.succ_ne_zero, Nat.le_add_right, Nat.ne_of_lt, Ne.symm, Nat.succ_le_of_lt, Nat.lt_irrefl, absurd]) (by omega)]; exact Int.dvd_zero _
/-- how large u and v are -/
structure UVb (m n : Nat) (U V : Nat → Nat → Int) (Pe w : Nat) : Prop where
  u : ∀ r c, r < m → c < m → (U r c).natAbs * Pe ≤ 2 ^ w
  v : ∀ r c, r < n → c < n → (V r c).natAbs * Pe ≤ 2 ^ w
theorem quo_le {a l : Int} {W Pe : Nat} (hl : l ≠ 0) (ha : a.natAbs ≤ W + Pe) (hp : l.natAbs ≤ Pe) : (a.fdiv l).natAbs * l.natAbs ≤ (W + 2) * Pe := by
  have h := fdm a l
  have h2 := fmod_abs a hl
  have h3 : (l * a.fdiv l).natAbs ≤ a.natAbs + (a.fmod l).natAbs := by omega
  rw [Int.natAbs_mul, Nat.mul_comm] at h3
  have : W ≤ W * Pe := Nat.le_mul_of_pos_right _ (by lia)
  rw [Nat.add_mul]; omega
theorem comb_le {u v q : Int} {p Pe W b w : Nat} (hu : u.natAbs * Pe ≤ 2 ^ w) (hv : v.natAbs * Pe ≤ 2 ^ w) (hp : p ≤ Pe) (hq : q.natAbs * p ≤ (W + 2) * Pe) (hW : W + 3 ≤ 2 ^ b) : (u - q * v).natAbs * p ≤ 2 ^ (w + b) := by
  have h1 := nsub u (q * v)
  rw [Int.natAbs_mul] at h1
  have h2 : (u - q * v).natAbs * p ≤ u.natAbs * p + q.natAbs * v.natAbs * p := by rw [← Nat.add_mul]; exact Nat.mul_le_mul_right _ h1
  have h3 : u.natAbs * p ≤ 2 ^ w := Nat.le_trans (Nat.mul_le_mul_left _ hp) hu
  have h4 : q.natAbs * v.natAbs * p ≤ (W + 2) * 2 ^ w := by
    have e : q.natAbs * v.natAbs * p = q.natAbs * p * v.natAbs := by grind
    rw [e]
    refine Nat.le_trans (Nat.mul_le_mul_right _ hq) ?_
    rw [Nat.mul_assoc, Nat.mul_comm Pe]
    exact Nat.mul_le_mul_left _ hv
  have h5 : (W + 3) * 2 ^ w ≤ 2 ^ (w + b) := by rw [Nat.pow_add, Nat.mul_comm (2 ^ w)]; exact Nat.mul_le_mul_right _ hW
  have h6 : (W + 3) * 2 ^ w = (W + 2) * 2 ^ w + 2 ^ w := by rw [show W + 3 = W + 2 + 1 by rfl, Nat.add_mul, Nat.one_mul]
  lia
/-- the state before a turn, the pivot brought: the bounds -/
structure Bnd (m n step : Nat) (S U V : Nat → Nat → Int) (W Pe b ep w : Nat) : Prop where
  hm : step < m
  hn : step < n
  l0 : S step step ≠ 0
  lP : (S step step).natAbs ≤ Pe
  e1 : ∀ r c, step ≤ r → r < m → step ≤ c → c < n → (S r c).natAbs ≤ W + Pe
  low : ∀ i, i < step → ∀ r, r < m → r ≠ i → S r i = 0
  lowr : ∀ i, i < step → ∀ c, c < n → c ≠ i → S i c = 0
  uv : UVb m n U V Pe w
  hW : W + 3 ≤ 2 ^ b
  hP : Pe ≤ 2 ^ ep
  lim : b + ep + w ≤ 134217726
  lim2 : 2 * (b + ep) ≤ 134217726
theorem Bnd.quoR {m n step : Nat} {S U V : Nat → Nat → Int} {W Pe b ep w : Nat} (x : Bnd m n step S U V W Pe b ep w) {r : Nat} (h1 : step ≤ r) (h2 : r < m) : (quoR S step r).natAbs * (S step step).natAbs ≤ (W + 2) * Pe :=
  quo_le x.l0 (x.e1 r step h1 h2 (Nat.le_refl _) x.hn) x.lP
theorem Bnd.quoC {m n step : Nat} {S U V : Nat → Nat → Int} {W Pe b ep w : Nat} (x : Bnd m n step S U V W Pe b ep w) {c : Nat} (h1 : step ≤ c) (h2 : c < n) : (quoC S step c).natAbs * (S step step).natAbs ≤ (W + 2) * Pe :=
  quo_le x.l0 (x.e1 step c (Nat.le_refl _) x.hm h1 h2) x.lP
theorem Bnd.big {m n step : Nat} {S U V : Nat → Nat → Int} {W Pe b ep w : Nat} (x : Bnd m n step S U V W Pe b ep w) {q : Int} (h : q.natAbs * (S step step).natAbs ≤ (W + 2) * Pe) : q.natAbs ≤ 2 ^ (b + ep) := by
  have h0 := x.l0
  have h1 : q.natAbs ≤ q.natAbs * (S step step).natAbs := Nat.le_mul_of_pos_right _ (by lia)
  have h2 : (W + 2) * Pe ≤ 2 ^ b * 2 ^ ep := Nat.mul_le_mul (by have := x.hW; (exact Nat.le_of_lt (by assumption))) x.hP
  rw [Nat.pow_add]; grind
theorem Bnd.ent {m n step : Nat} {S U V : Nat → Nat → Int} {W Pe b ep w : Nat} (x : Bnd m n step S U V W Pe b ep w) : W + Pe ≤ 2 ^ (b + ep) := by
  have hP1 : 1 ≤ Pe := by have := x.l0; have := x.lP; lia
  have h1 : W ≤ W * Pe := Nat.le_mul_of_pos_right _ hP1
  have h2 : (W + 1) * Pe ≤ 2 ^ b * 2 ^ ep := Nat.mul_le_mul (by have := x.hW; grind) x.hP
  rw [Nat.add_mul, Nat.one_mul] at h2
  rw [Nat.pow_add]; lia
theorem UVb.sz {m n : Nat} {U V : Nat → Nat → Int} {Pe w : Nat} (x : UVb m n U V Pe w) (h : 1 ≤ Pe) : (∀ r c, r < m → c < m → (U r c).natAbs ≤ 2 ^ w) ∧ ∀ r c, r < n → c < n → (V r c).natAbs ≤ 2 ^ w :=
  ⟨fun r c hr hc => Nat.le_trans (Nat.le_mul_of_pos_right _ h) (x.u r c hr hc), fun r c hr hc => Nat.le_trans (Nat.le_mul_of_pos_right _ h) (x.v r c hr hc)⟩
theorem Bnd.uv' {m n step : Nat} {S U V : Nat → Nat → Int} {W Pe b ep w : Nat} (x : Bnd m n step S U V W Pe b ep w) : UVb m n (ccU S U step m) (ccV S V step n) (S step step).natAbs (w + b) := by
  have up : ∀ y : Nat, y ≤ 2 ^ w → y ≤ 2 ^ (w + b) := fun y h => Nat.le_trans h (pow_le (by solve_by_elim (maxDepth := 3) only [*, Nat.le_of_lt, Nat.lt_of_lt_of_le, Nat.lt_of_le_of_lt, Nat.le_trans, Nat.pos_of_ne_zero, Nat.ne_of_gt, Nat.le_refl, Nat.lt_trans, Nat.succ_ne_zero, Nat.le_add_right, Nat.ne_of_lt, Ne.symm, Nat.succ_le_of_lt, Nat.lt_irrefl, absurd]))
  constructor
  · intro r c hr hc
    unfold ccU redR
    split
    · exact comb_le (x.uv.u r c hr hc) (x.uv.u step c x.hm hc) x.lP (x.quoR (by lia) hr) x.hW
    · exact up _ (Nat.le_trans (Nat.mul_le_mul_left _ x.lP) (x.uv.u r c hr hc))
  · intro r c hr hc
    unfold ccV redC
    split
    · exact comb_le (x.uv.v r c hr hc) (x.uv.v r step hr x.hn) x.lP (x.quoC (by lia) hc) x.hW
    · exact up _ (Nat.le_trans (Nat.mul_le_mul_left _ x.lP) (x.uv.v r c hr hc))
theorem UVb.addM' {m n step q : Nat} {U V : Nat → Nat → Int} {Pe w : Nat} (x : UVb m n U V Pe w) (hs : step < m) (hq : q < m) : UVb m n (addM U step q) V Pe (w + 1) := by
  have e : 2 ^ (w + 1) = 2 * 2 ^ w := by rw [Nat.pow_succ]; (simp +arith only [*])
  refine ⟨fun r c hr hc => ?_, fun r c hr hc => by have := x.v r c hr hc; lia⟩
  unfold addM setRow
  split
  · have h1 := x.u step c hs hc
    have h2 := x.u q c hq hc
    have h3 : (U step c + U q c).natAbs * Pe ≤ ((U step c).natAbs + (U q c).natAbs) * Pe := Nat.mul_le_mul_right _ (nadd _ _)
    rw [Nat.add_mul] at h3
    dsimp only; lia
  · have := x.u r c hr hc; lia
theorem UVb.negM' {m n step : Nat} {U V : Nat → Nat → Int} {Pe w : Nat} {b : Bool} (x : UVb m n U V Pe w) : UVb m n (negM b U step) V Pe w := by
  refine ⟨fun r c hr hc => ?_, x.v⟩
  unfold negM; split
  · unfold setRow; split
    · rename_i e; subst e; rw [Int.natAbs_neg]; exact x.u r c hr hc
    · exact x.u r c hr hc
  · exact x.u r c hr hc
theorem UVb.le {m n : Nat} {U V : Nat → Nat → Int} {Pe w w' : Nat} (x : UVb m n U V Pe w) (h : w ≤ w') : UVb m n U V Pe w' := ⟨fun r c hr hc => Nat.le_trans (x.u r c hr hc) (pow_le h), fun r c hr hc => Nat.le_trans (x.v r c hr hc) (pow_le h)⟩
theorem UVb.fresh {m n : Nat} {U V : Nat → Nat → Int} {Pe w ep : Nat} (x : UVb m n U V Pe w) (h : 1 ≤ Pe) : UVb m n U V (2 ^ ep) (w + ep) :=
  ⟨fun r c hr hc => by rw [Nat.pow_add]; exact Nat.mul_le_mul_right _ ((x.sz h).1 r c hr hc), fun r c hr hc => by rw [Nat.pow_add]; exact Nat.mul_le_mul_right _ ((x.sz h).2 r c hr hc)⟩
theorem UVb.swap {m n step r c : Nat} {U V : Nat → Nat → Int} {Pe w : Nat} (x : UVb m n U V Pe w) (hr : r < m) (hs : step < m) (hc : c < n) (hn : step < n) : UVb m n (swR U r step) (swC V c step) Pe w :=
  ⟨fun r' c' h1 h2 => x.u _ _ (swp_lt hr hs h1) h2, fun r' c' h1 h2 => x.v _ _ h1 (swp_lt hc hn h2)⟩
end Mine
namespace Mine
theorem Bnd.fits {m n step : Nat} {S U V : Nat → Nat → Int} {W Pe b ep w : Nat} {fits : Int → Int → Prop} (x : Bnd m n step S U V W Pe b ep w) (F : ∀ {a b : Int} {k l : Nat}, a.natAbs ≤ 2 ^ k → b.natAbs ≤ 2 ^ l → k + l ≤ 134217726 → fits a b) :
    (∀ r c, step < r → r < m → c < n → fits (Mine.quoR S step r) (S step c)) ∧ (∀ r c, step < r → r < m → c < m → fits (Mine.quoR S step r) (U step c)) ∧
    (∀ c r, step < c → c < n → r < m → fits (Mine.quoC S step c) (redR S (Mine.quoR S step) step m r step)) ∧ (∀ c r, step < c → c < n → r < n → fits (Mine.quoC S step c) (V r step)) := by
  have hP1 : 1 ≤ Pe := by have := x.l0; have := x.lP; lia
  have lim := x.lim
  have lim2 := x.lim2
  have z : ∀ k : Nat, (0 : Int).natAbs ≤ 2 ^ k := fun k => Nat.zero_le _
  refine ⟨fun r c h1 h2 h3 => ?_, fun r c h1 h2 h3 => F (x.big (x.quoR (by exact Nat.le_of_lt (by assumption)) h2)) ((x.uv.sz hP1).1 step c x.hm h3) (by omega), fun c r h1 h2 h3 => ?_, fun c r h1 h2 h3 => F (x.big (x.quoC (by exact Nat.le_of_lt (by assumption)) h2)) ((x.uv.sz hP1).2 r step h3 x.hn) (by omega)⟩
  · refine F (x.big (x.quoR (by exact Nat.le_of_lt (by assumption)) h2)) (l := b + ep) ?_ (by lia)
    rcases Nat.lt_or_ge c step with g | g
    · rw [x.low c g step x.hm (by solve_by_elim (maxDepth := 3) only [*, Nat.le_of_lt, Nat.lt_of_lt_of_le, Nat.lt_of_le_of_lt, Nat.le_trans, Nat.pos_of_ne_zero, Nat.ne_of_gt, Nat.le_refl, Nat.lt_trans, Nat.succ_ne_zero, Nat.le_add_right, Nat.ne_of_lt, Ne.symm, Nat.succ_le_of_lt, Nat.lt_irrefl, absurd])]; exact z _
    · exact Nat.le_trans (x.e1 step c (Nat.le_refl _) x.hm g h3) x.ent
  · refine F (x.big (x.quoC (by exact Nat.le_of_lt (by assumption)) h2)) (l := b + ep) ?_ (by omega)
    have hle : (S step step).natAbs ≤ 2 ^ (b + ep) := Nat.le_trans (Nat.le_trans x.lP x.hP) (pow_le (by simp +arith only [*]))
    rcases Nat.lt_trichotomy r step with g | g | g
    · rw [redR_at (.inr (by exact Nat.le_of_lt (by assumption))), x.lowr r g step x.hn (by solve_by_elim (maxDepth := 3) only [*, Nat.le_of_lt, Nat.lt_of_lt_of_le, Nat.lt_of_le_of_lt, Nat.le_trans, Nat.pos_of_ne_zero, Nat.ne_of_gt, Nat.le_refl, Nat.lt_trans, Nat.succ_ne_zero, Nat.le_add_right, Nat.ne_of_lt, Ne.symm, Nat.succ_le_of_lt, Nat.lt_irrefl, absurd])]; exact z _
    · subst g; rw [redR_at (.inr (Nat.le_refl _))]; exact hle
    · unfold redR; rw [if_pos ⟨g, h3⟩]
      have : S r step - Mine.quoR S step r * S step step = (S r step).fmod (S step step) := by unfold Mine.quoR; exact mod_eq _ _
      rw [this]
      exact Nat.le_trans (Nat.le_of_lt (fmod_abs _ x.l0)) hle
/-- the sizes between two turns -/
structure St (m n step : Nat) (S U V : Nat → Nat → Int) (W Pe b ep w : Nat) : Prop where
  e1 : E1 (blk S step m n) (W + Pe)
  e2 : E2 (blk S step m n) W
  pe : (∀ i j, blk S step m n i j = 0) ∨ ∃ i j, blk S step m n i j ≠ 0 ∧ (blk S step m n i j).natAbs ≤ Pe
  P1 : 1 ≤ Pe
  uv : UVb m n U V Pe w
  hW : W + 3 ≤ 2 ^ b
  hP : Pe ≤ 2 ^ ep
  lim : b + ep + w ≤ 134217726
  lim2 : 2 * (b + ep) ≤ 134217726
/-- all that is known where a pivot has been found -/
structure Turn (m n step : Nat) (B S U V : Nat → Nat → Int) (W Pe b ep w r c i j : Nat) : Prop where
  er : r = step + i
  ec : c = step + j
  hr : step + i < m
  hc : step + j < n
  piv : Piv (blk S step m n) i j
  core : Core m n B step (ccS (swC (swR S r step) c step) step m n)
  z : blk (ccS (swC (swR S r step) c step) step m n) step m n = turn (brg (blk S step m n) i j)
  lead : ccS (swC (swR S r step) c step) step m n step step = blk S step m n i j
  done : ccDone (swC (swR S r step) c step) step m n ↔ Done (turn (brg (blk S step m n) i j))
  bnd : Bnd m n step (swC (swR S r step) c step) (swR U r step) (swC V c step) W Pe b ep w
  pP : (blk S step m n i j).natAbs ≤ Pe
  uv' : UVb m n (ccU (swC (swR S r step) c step) (swR U r step) step m) (ccV (swC (swR S r step) c step) (swC V c step) step n) (blk S step m n i j).natAbs (w + b)
  b0 : brg (blk S step m n) i j 0 0 ≠ 0
  b0e : brg (blk S step m n) i j 0 0 = blk S step m n i j
  be2 : E2 (brg (blk S step m n) i j) W
  ze1 : E1 (turn (brg (blk S step m n) i j)) (W + (blk S step m n i j).natAbs)
theorem mkTurn {m n step : Nat} {B S U V : Nat → Nat → Int} {W Pe b ep w r c : Nat} (x : Core m n B step S) (s : St m n step S U V W Pe b ep w) (ls : LS S step n m step (some (r, c))) : ∃ i j, Turn m n step B S U V W Pe b ep w r c i j := by
  obtain ⟨i, j, rfl, rfl, h1, h2, pv⟩ := ls.piv
  have hm : step < m := by lia
  have hn : step < n := by lia
  have eb := blk_bring (S := S) h1 h2
  have e00 : swC (swR S (step + i) step) (step + j) step step step = blk S step m n i j := by
    have := congrFun (congrFun eb 0) 0
    rw [blk_at (by omega) (by omega)] at this
    rw [Nat.add_zero] at this
    rw [this]; exact brg_00 _ _ _
  have pP : (blk S step m n i j).natAbs ≤ Pe := by
    rcases s.pe with h | ⟨a, b, hab, hle⟩
    · exact absurd (h i j) pv.1
    · exact Nat.le_trans (pv.2 a b hab).1 hle
  have cr := (x.swR' (Nat.le_add_right step i) h1 hm).swC' (Nat.le_add_right step j) h2 hn
  have bnd : Bnd m n step (swC (swR S (step + i) step) (step + j) step) (swR U (step + i) step) (swC V (step + j) step) W Pe b ep w :=
    { hm, hn, l0 := by rw [e00]; exact pv.1, lP := by rw [e00]; exact pP
      e1 := fun r c a1 a2 a3 a4 => by
        have := (s.e1.perm (swp i 0) (swp j 0)) (r - step) (c - step)
        have e2 := congrFun (congrFun eb (r - step)) (c - step)
        rw [blk_at (by grind) (by grind)] at e2
        rw [show step + (r - step) = r by grind, show step + (c - step) = c by grind] at e2
        rw [e2]; exact this
      low := fun i hi r hr hne => cr.col0 i hi r hr hne, lowr := fun i hi c hc hne => cr.row0 i hi c hc hne
      uv := s.uv.swap h1 hm h2 hn, hW := s.hW, hP := s.hP, lim := s.lim, lim2 := s.lim2 }
  have uv' := bnd.uv'
  rw [e00] at uv'
  have hz : blk (ccS (swC (swR S (step + i) step) (step + j) step) step m n) step m n = turn (brg (blk S step m n) i j) := by rw [blk_cc hm hn, eb]
  have b0 : brg (blk S step m n) i j 0 0 ≠ 0 := by rw [brg_00]; exact pv.1
  have be2 : E2 (brg (blk S step m n) i j) W := s.e2.perm (swp i 0) (swp j 0)
  refine ⟨i, j, { er := rfl, ec := rfl, hr := h1, hc := h2, piv := pv, core := x.cc (Nat.le_add_right _ _) h1 (Nat.le_add_right _ _) h2, z := hz, lead := ?_, done := ?_, bnd, pP, uv', b0, b0e := brg_00 _ _ _, be2, ze1 := ?_ }⟩
  · unfold ccS; rw [redC_at (.inr (Nat.le_refl step)), redR_at (.inr (Nat.le_refl step))]; exact e00
  · rw [ccDone_iff hm hn, eb]
  · have := turn_E1 b0 be2; rwa [brg_00] at this
/-- the phases of the step 0 -/
noncomputable def Ph0 (P0 e0 : Nat) (X : Nat → Nat → Int) (e μ : Nat) : Prop :=
  (μ = 2 * P0 + 2 ∧ e ≤ e0 ∧ ((∀ i j, X i j = 0) ∨ ∃ i j, X i j ≠ 0 ∧ (X i j).natAbs ≤ P0)) ∨
  (∃ P, μ = 2 * P ∧ 1 ≤ P ∧ P ≤ P0 ∧ e + 9 * P ≤ e0 + 9 * (P0 + 1) ∧ ∃ i j, X i j ≠ 0 ∧ (X i j).natAbs < P) ∨
  (∃ P, μ = 2 * P + 1 ∧ 1 ≤ P ∧ P ≤ P0 ∧ e + 9 * P + 4 ≤ e0 + 9 * (P0 + 1) ∧ (X 0 0).natAbs = P ∧ ∃ j, 1 ≤ j ∧ (X 0 j).fmod (X 0 0) ≠ 0)
theorem Ph0.e {P0 e0 e μ : Nat} {X : Nat → Nat → Int} (h : Ph0 P0 e0 X e μ) : e ≤ e0 + 9 * P0 + 9 ∧ 1 ≤ μ ∧ μ ≤ 2 * P0 + 2 := by
  rcases h with h | ⟨P, h⟩ | ⟨P, h⟩ <;> omega
theorem not_done_ex {X : Nat → Nat → Int} (h : X 0 0 ≠ 0) (hu : ¬ Done (turn X)) : ∃ i j, turn X i j ≠ 0 ∧ (turn X i j).natAbs < (X 0 0).natAbs := by
  refine Classical.byContradiction fun g => hu ⟨fun i hi => Classical.byContradiction fun hz => g ⟨i, 0, hz, ?_⟩, fun j hj => Classical.byContradiction fun hz => g ⟨0, j, hz, ?_⟩⟩
  · rw [turn_i0' (by solve_by_elim (maxDepth := 3) only [*, Nat.le_of_lt, Nat.lt_of_lt_of_le, Nat.lt_of_le_of_lt, Nat.le_trans, Nat.pos_of_ne_zero, Nat.ne_of_gt, Nat.le_refl, Nat.lt_trans, Nat.succ_ne_zero, Nat.le_add_right, Nat.ne_of_lt, Ne.symm, Nat.succ_le_of_lt, Nat.lt_irrefl, absurd])]; exact fmod_abs _ h
  · rw [turn_0j' (by solve_by_elim (maxDepth := 3) only [*, Nat.le_of_lt, Nat.lt_of_lt_of_le, Nat.lt_of_le_of_lt, Nat.le_trans, Nat.pos_of_ne_zero, Nat.ne_of_gt, Nat.le_refl, Nat.lt_trans, Nat.succ_ne_zero, Nat.le_add_right, Nat.ne_of_lt, Ne.symm, Nat.succ_le_of_lt, Nat.lt_irrefl, absurd])]; exact fmod_abs _ h
theorem ph0_n {P0 e0 e μ a b : Nat} {X : Nat → Nat → Int} (ph : Ph0 P0 e0 X e μ) (pv : Piv X a b) (hu : ¬ Done (turn (brg X a b))) : ∃ μ', μ' < μ ∧ Ph0 P0 e0 (turn (brg X a b)) (e + 4) μ' := by
  have h00 : brg X a b 0 0 ≠ 0 := by rw [brg_00]; exact pv.1
  have hp : 1 ≤ (X a b).natAbs := by have := pv.1; lia
  have ex := not_done_ex h00 hu
  rw [brg_00] at ex
  rcases ph with ⟨h1, h2, h3⟩ | ⟨P, h1, h2, h3, h4, i, j, h5, h6⟩ | ⟨P, h1, h2, h3, h4, h5, _⟩
  · have hle : (X a b).natAbs ≤ P0 := by
      rcases h3 with h3 | ⟨i, j, h4, h5⟩
      · exact absurd (h3 a b) pv.1
      · exact Nat.le_trans (pv.2 i j h4).1 h5
    exact ⟨2 * (X a b).natAbs, by lia, .inr (.inl ⟨_, rfl, hp, hle, by lia, ex⟩)⟩
  · have := (pv.2 i j h5).1
    exact ⟨2 * (X a b).natAbs, by lia, .inr (.inl ⟨_, rfl, hp, by lia, by lia, ex⟩)⟩
  · have := (pv.2 0 0 (by grind)).1
    exact ⟨2 * (X a b).natAbs, by lia, .inr (.inl ⟨_, rfl, hp, by lia, by lia, ex⟩)⟩
theorem ph0_u {P0 e0 e μ a b q : Nat} {X : Nat → Nat → Int} (ph : Ph0 P0 e0 X e μ) (pv : Piv X a b) (hd : Done (turn (brg X a b))) (hq : 1 ≤ q) (hx : ∃ j, 1 ≤ j ∧ (turn (brg X a b) q j).fmod (turn (brg X a b) 0 0) ≠ 0) :
    ∃ μ', μ' < μ ∧ Ph0 P0 e0 (addM (turn (brg X a b)) 0 q) (e + 5) μ' := by
  have hp : 1 ≤ (X a b).natAbs := by have := pv.1; grind
  have z00 : addM (turn (brg X a b)) 0 q 0 0 = X a b := by rw [addM_0, hd.1 q hq, turn_00, brg_00]; (simp +arith only [*])
  have ex : ∃ j, 1 ≤ j ∧ (addM (turn (brg X a b)) 0 q 0 j).fmod (addM (turn (brg X a b)) 0 q 0 0) ≠ 0 := by
    obtain ⟨j, hj, h⟩ := hx
    refine ⟨j, hj, ?_⟩
    rw [z00, addM_0, hd.2 j hj, Int.zero_add]
    rw [turn_00, brg_00] at h; exact h
  have e0' : (addM (turn (brg X a b)) 0 q 0 0).natAbs = (X a b).natAbs := by rw [z00]
  rcases ph with ⟨h1, h2, h3⟩ | ⟨P, h1, h2, h3, h4, i, j, h5, h6⟩ | ⟨P, h1, h2, h3, h4, h5, j, hj, h6⟩
  · have hle : (X a b).natAbs ≤ P0 := by
      rcases h3 with h3 | ⟨i, j, h4, h5⟩
      · exact absurd (h3 a b) pv.1
      · exact Nat.le_trans (pv.2 i j h4).1 h5
    exact ⟨2 * (X a b).natAbs + 1, by lia, .inr (.inr ⟨_, rfl, hp, hle, by lia, e0', ex⟩)⟩
  · have := (pv.2 i j h5).1
    exact ⟨2 * (X a b).natAbs + 1, by lia, .inr (.inr ⟨_, rfl, hp, by lia, by lia, e0', ex⟩)⟩
  · have hle := (pv.2 0 0 (by omega)).1
    have hlt : (X a b).natAbs < P := by
      by_cases e : a = 0 ∧ b = 0
      · obtain ⟨rfl, rfl⟩ := e
        rw [brg_self] at hd
        have := hd.2 j hj
        rw [turn_0j' (by solve_by_elim (maxDepth := 3) only [*, Nat.le_of_lt, Nat.lt_of_lt_of_le, Nat.lt_of_le_of_lt, Nat.le_trans, Nat.pos_of_ne_zero, Nat.ne_of_gt, Nat.le_refl, Nat.lt_trans, Nat.succ_ne_zero, Nat.le_add_right, Nat.ne_of_lt, Ne.symm, Nat.succ_le_of_lt, Nat.lt_irrefl, absurd])] at this
        exact absurd this h6
      · have := (pv.2 0 0 (by lia)).2 (by unfold Before; lia); lia
    exact ⟨2 * (X a b).natAbs + 1, by lia, .inr (.inr ⟨_, rfl, hp, by lia, by lia, e0', ex⟩)⟩
/-- the budget of a step: 5 * c j bits a window -/
noncomputable def PsiS (c : Nat → Nat) : Nat → Nat
  | 0 => 0
  | j + 1 => PsiS c j + 5 * c j
noncomputable def Psi (c : Nat → Nat) (j k : Nat) : Nat := PsiS c j + k * c j
noncomputable def Tra (j k j' k' g : Nat) : Prop := (j' = j ∧ be k + g ≤ be k') ∨ j' + 1 = j
theorem nxt_ok {P k g j : Nat} {c : Nat → Nat} {Z : Nat → Nat → Int} (h : Nxt P k g Z) (hk : 1 ≤ k) (hj : 5 ^ j * P ≤ 6 ^ j) :
    ∃ P' k' j', Phs P' Z k' ∧ 1 ≤ k' ∧ k' ≤ 5 ∧ 5 ^ j' * P' ≤ 6 ^ j' ∧ j' ≤ j ∧ 5 * j' + k' < 5 * j + k ∧ Psi c j' k' + c j ≤ Psi c j k ∧ Tra j k j' k' g := by
  have hk5 : ∀ {P k : Nat} {X : Nat → Nat → Int}, Phs P X k → k ≤ 5 := fun h => by cases h <;> decide
  rcases h with ⟨P', k', h1, h2, h3, h4, h5, h6⟩ | ⟨P', k', h1, h2, h3, h4, h6⟩
  · refine ⟨P', k', j, h6, h3, hk5 h6, Nat.le_trans (Nat.mul_le_mul_left _ h2) hj, Nat.le_refl _, by lia, ?_, .inl ⟨rfl, h5⟩⟩
    unfold Psi
    have : (k' + 1) * c j ≤ k * c j := Nat.mul_le_mul_right _ h4
    rw [Nat.add_mul, Nat.one_mul] at this
    grind
  · cases j with
    | zero => simp at hj; omega
    | succ j =>
      refine ⟨P', k', j, h6, h3, h4, ?_, by solve_by_elim (maxDepth := 3) only [*, Nat.le_of_lt, Nat.lt_of_lt_of_le, Nat.lt_of_le_of_lt, Nat.le_trans, Nat.pos_of_ne_zero, Nat.ne_of_gt, Nat.le_refl, Nat.lt_trans, Nat.succ_ne_zero, Nat.le_add_right, Nat.ne_of_lt, Ne.symm, Nat.succ_le_of_lt, Nat.lt_irrefl, absurd], by lia, ?_, .inr rfl⟩
      · rw [Nat.pow_succ, Nat.pow_succ] at hj
        have e : 6 * (5 ^ j * P') ≤ 5 * (5 ^ j * P) := by
          have := Nat.mul_le_mul_left (5 ^ j) h2
          rw [Nat.mul_left_comm, Nat.mul_left_comm _ 5] at this
          exact this
        have e2 : 5 ^ j * 5 * P = 5 * (5 ^ j * P) := by rw [Nat.mul_comm (5 ^ j) 5, Nat.mul_assoc]
        lia
      · unfold Psi
        have h1 : k' * c j ≤ 5 * c j := Nat.mul_le_mul_right _ h4
        have h2 : 1 * c (j + 1) ≤ k * c (j + 1) := Nat.mul_le_mul_right _ hk
        show PsiS c j + k' * c j + c (j + 1) ≤ PsiS c j + 5 * c j + k * c (j + 1)
        lia
end Mine
namespace Mine
theorem Turn.st {m n step : Nat} {B S U V : Nat → Nat → Int} {W Pe b ep w r c i j W' b' : Nat} (t : Turn m n step B S U V W Pe b ep w r c i j) (hP : Pe ≤ 2 ^ ep) (hle : W ≤ W') (he : E2 (turn (brg (blk S step m n) i j)) W') (hW : W' + 3 ≤ 2 ^ b')
    (l1 : b' + ep + (w + b) ≤ 134217726) (l2 : 2 * (b' + ep) ≤ 134217726) :
    St m n step (ccS (swC (swR S r step) c step) step m n) (ccU (swC (swR S r step) c step) (swR U r step) step m) (ccV (swC (swR S r step) c step) (swC V c step) step n) W' (blk S step m n i j).natAbs b' ep (w + b) where
  e1 := by rw [t.z]; exact t.ze1.mono (by simp +arith only [*])
  e2 := by rw [t.z]; exact he
  pe := .inr ⟨0, 0, by rw [t.z, turn_00]; exact t.b0, by rw [t.z, turn_00, t.b0e]; exact Nat.le_refl _⟩
  P1 := by have := t.piv.1; lia
  uv := t.uv'
  hW := hW
  hP := Nat.le_trans t.pP hP
  lim := l1
  lim2 := l2
theorem Turn.stU {m n step : Nat} {B S U V : Nat → Nat → Int} {W Pe b ep w r c i j W' b' q : Nat} (t : Turn m n step B S U V W Pe b ep w r c i j) (hP : Pe ≤ 2 ^ ep) (hle : W ≤ W') (d : Done (turn (brg (blk S step m n) i j))) (hq : 1 ≤ q) (hqm : step + q < m)
    (he : E2 (addM (turn (brg (blk S step m n) i j)) 0 q) W') (hW : W' + 3 ≤ 2 ^ b')
    (l1 : b' + ep + (w + b + 1) ≤ 134217726) (l2 : 2 * (b' + ep) ≤ 134217726) :
    St m n step (addM (ccS (swC (swR S r step) c step) step m n) step (step + q)) (addM (ccU (swC (swR S r step) c step) (swR U r step) step m) step (step + q)) (ccV (swC (swR S r step) c step) (swC V c step) step n) W' (blk S step m n i j).natAbs b' ep (w + b + 1) := by
  have hs : step < m := by lia
  have z00 : addM (turn (brg (blk S step m n) i j)) 0 q 0 0 = blk S step m n i j := by rw [addM_0, d.1 q hq, turn_00, t.b0e]; (simp +arith only [*])
  exact {
    e1 := by rw [blk_addM hs hqm, t.z]; exact (addM_E1 d hq t.ze1).mono (by simp +arith only [*])
    e2 := by rw [blk_addM hs hqm, t.z]; exact he
    pe := .inr ⟨0, 0, by rw [blk_addM hs hqm, t.z, z00]; exact t.piv.1, by rw [blk_addM hs hqm, t.z, z00]; exact Nat.le_refl _⟩
    P1 := by have := t.piv.1; lia
    uv := t.uv'.addM' hs hqm
    hW := hW
    hP := Nat.le_trans t.pP hP
    lim := l1
    lim2 := l2 }
theorem Turn.mod {m n step : Nat} {B S U V : Nat → Nat → Int} {W Pe b ep w r c i j q : Nat} (t : Turn m n step B S U V W Pe b ep w r c i j) (hqm : step + q < m)
    (h : ∃ c', step < c' ∧ c' < n ∧ (ccS (swC (swR S r step) c step) step m n (step + q) c').fmod (ccS (swC (swR S r step) c step) step m n step step) ≠ 0) :
    ∃ j', 1 ≤ j' ∧ (turn (brg (blk S step m n) i j) q j').fmod (turn (brg (blk S step m n) i j) 0 0) ≠ 0 := by
  obtain ⟨c', h1, h2, h3⟩ := h
  refine ⟨c' - step, by lia, ?_⟩
  rw [← t.z, blk_at hqm (by lia), blk_at (by lia) (by lia), show step + (c' - step) = c' by lia]
  exact h3
structure Par where
  ep : Nat
  J : Nat
  T : Nat
  bl : Nat → Nat → Nat
  c : Nat → Nat
structure ParOk (p : Par) : Prop where
  c : ∀ j k, j ≤ p.J → p.bl j k + 1 ≤ p.c j
  lim : ∀ j k, j ≤ p.J → p.bl j k + p.ep + p.T ≤ 134217726
  lim2 : ∀ j k, j ≤ p.J → 2 * (p.bl j k + p.ep) ≤ 134217726
  big : 5 ^ p.J * 2 ^ p.ep ≤ 6 ^ p.J
  J : 5 * p.J + 5 < 1000000
noncomputable def Grow (p : Par) (m n : Nat) (B : Nat → Nat → Int) (step : Nat) : Prop := ∀ {S : Nat → Nat → Int} {W g j k j' k' : Nat}, g ≤ 1 → Core m n B step S → E2 (blk S step m n) (2 ^ g * W) → W + 3 ≤ 2 ^ p.bl j k → Tra j k j' k' g → j ≤ p.J → ∃ W', W ≤ W' ∧ E2 (blk S step m n) W' ∧ W' + 3 ≤ 2 ^ p.bl j' k'
noncomputable def I1 (p : Par) (m n step μ : Nat) (S U V : Nat → Nat → Int) : Prop := ∃ W P j k Pe w, μ = 5 * j + k ∧ Phs P (blk S step m n) k ∧ 1 ≤ k ∧ k ≤ 5 ∧ 5 ^ j * P ≤ 6 ^ j ∧ j ≤ p.J ∧ St m n step S U V W Pe (p.bl j k) p.ep w ∧ w + Psi p.c j k ≤ p.T
theorem blk_sh {S : Nat → Nat → Int} {step m n : Nat} (hs : 1 ≤ step) (hm : m ≤ 4) (hn : n ≤ 3) : Sh (blk S step m n) := ⟨fun i j hj => blk_out (by lia), fun i j hi => blk_out (by lia)⟩
theorem i1_n {p : Par} {m n step μ r c : Nat} {B S U V : Nat → Nat → Int} (ok : ParOk p) (gr : Grow p m n B step) (hs : 1 ≤ step) (hm : m ≤ 4) (hn : n ≤ 3) (x : Core m n B step S) (i : I1 p m n step μ S U V) (ls : LS S step n m step (some (r, c)))
    (hu : ¬ ccDone (swC (swR S r step) c step) step m n) :
    ∃ μ', μ' < μ ∧ I1 p m n step μ' (ccS (swC (swR S r step) c step) step m n) (ccU (swC (swR S r step) c step) (swR U r step) step m) (ccV (swC (swR S r step) c step) (swC V c step) step n) := by
  obtain ⟨W, P, j, k, Pe, w, rfl, ph, k1, k5, hj, jJ, st, hT⟩ := i
  obtain ⟨a, b, t⟩ := mkTurn x st ls
  rw [t.done] at hu
  have sh := blk_sh (S := S) hs hm hn
  have sb := sh.brg' (sh.piv t.piv.1).1 (sh.piv t.piv.1).2
  obtain ⟨P', k', j', ph', k1', k5', hj', jj, hlt, hpsi, tra⟩ := nxt_ok (c := p.c) (phs_n sh ph t.piv hu) k1 hj
  have e2 : E2 (turn (brg (blk S step m n) a b)) (2 * W) := turn_E2c t.b0 sb.c t.be2
  obtain ⟨W', hle, he, hW⟩ := gr (g := 1) (by solve_by_elim (maxDepth := 3) only [*, Nat.le_of_lt, Nat.lt_of_lt_of_le, Nat.lt_of_le_of_lt, Nat.le_trans, Nat.pos_of_ne_zero, Nat.ne_of_gt, Nat.le_refl, Nat.lt_trans, Nat.succ_ne_zero, Nat.le_add_right, Nat.ne_of_lt, Ne.symm, Nat.succ_le_of_lt, Nat.lt_irrefl, absurd]) t.core (by rw [t.z]; exact e2) st.hW tra jJ
  rw [t.z] at he
  have hc := ok.c j k jJ
  have l1 := ok.lim j' k' (by grind)
  have l2 := ok.lim2 j' k' (by omega)
  exact ⟨5 * j' + k', hlt, W', P', j', k', _, _, rfl, by rw [t.z]; exact ph', k1', k5', hj', by omega, t.st st.hP hle he hW (by lia) l2, by lia⟩
theorem i1_u {p : Par} {m n step μ r c q : Nat} {B S U V : Nat → Nat → Int} (ok : ParOk p) (gr : Grow p m n B step) (hs : 1 ≤ step) (hm : m ≤ 4) (hn : n ≤ 3) (x : Core m n B step S) (i : I1 p m n step μ S U V) (ls : LS S step n m step (some (r, c)))
    (hd : ccDone (swC (swR S r step) c step) step m n) (hq : 1 ≤ q) (hqm : step + q < m)
    (hx : ∃ c', step < c' ∧ c' < n ∧ (ccS (swC (swR S r step) c step) step m n (step + q) c').fmod (ccS (swC (swR S r step) c step) step m n step step) ≠ 0) :
    ∃ μ', μ' < μ ∧ I1 p m n step μ' (addM (ccS (swC (swR S r step) c step) step m n) step (step + q)) (addM (ccU (swC (swR S r step) c step) (swR U r step) step m) step (step + q)) (ccV (swC (swR S r step) c step) (swC V c step) step n) := by
  obtain ⟨W, P, j, k, Pe, w, rfl, ph, k1, k5, hj, jJ, st, hT⟩ := i
  obtain ⟨a, b, t⟩ := mkTurn x st ls
  rw [t.done] at hd
  have sh := blk_sh (S := S) hs hm hn
  have sb := sh.brg' (sh.piv t.piv.1).1 (sh.piv t.piv.1).2
  obtain ⟨P', k', j', ph', k1', k5', hj', jj, hlt, hpsi, tra⟩ := nxt_ok (c := p.c) (phs_u sh ph t.piv hd hq (t.mod hqm hx)) k1 hj
  have e2 := (done_E2c t.b0 sb.c t.be2 hd hq).2
  have hsm : step < m := by lia
  have eb : blk (addM (ccS (swC (swR S r step) c step) step m n) step (step + q)) step m n = addM (turn (brg (blk S step m n) a b)) 0 q := by rw [blk_addM hsm hqm, t.z]
  obtain ⟨W', hle, he, hW⟩ := gr (g := 0) (by solve_by_elim (maxDepth := 3) only [*, Nat.le_of_lt, Nat.lt_of_lt_of_le, Nat.lt_of_le_of_lt, Nat.le_trans, Nat.pos_of_ne_zero, Nat.ne_of_gt, Nat.le_refl, Nat.lt_trans, Nat.succ_ne_zero, Nat.le_add_right, Nat.ne_of_lt, Ne.symm, Nat.succ_le_of_lt, Nat.lt_irrefl, absurd]) (t.core.addM' hsm (by simp +arith only [*]) hqm) (by rw [eb]; simpa using e2) st.hW tra jJ
  rw [eb] at he
  have hc := ok.c j k jJ
  have l1 := ok.lim j' k' (by grind)
  have l2 := ok.lim2 j' k' (by omega)
  exact ⟨5 * j' + k', hlt, W', P', j', k', _, _, rfl, by rw [eb]; exact ph', k1', k5', hj', by omega, t.stU st.hP hle hd hq hqm he hW (by lia) l2, by lia⟩
theorem i1_enter {p : Par} {m n step W Pe w : Nat} {S U V : Nat → Nat → Int} (ok : ParOk p) (he1 : E1 (blk S step m n) (2 ^ p.ep)) (he2 : E2 (blk S step m n) W) (hW : W + 3 ≤ 2 ^ p.bl p.J 5) (uv : UVb m n U V Pe w) (hP : 1 ≤ Pe) (hT : w + p.ep + Psi p.c p.J 5 ≤ p.T) :
    I1 p m n step (5 * p.J + 5) S U V := by
  have pe : (∀ i j, blk S step m n i j = 0) ∨ ∃ i j, blk S step m n i j ≠ 0 ∧ (blk S step m n i j).natAbs ≤ 2 ^ p.ep := by
    refine (Classical.em (∀ i j, blk S step m n i j = 0)).imp id fun h => ?_
    refine Classical.byContradiction fun g => h fun i j => Classical.byContradiction fun hz => g ⟨i, j, hz, he1 i j⟩
  have l1 := ok.lim p.J 5 (Nat.le_refl _)
  have l2 := ok.lim2 p.J 5 (Nat.le_refl _)
  exact ⟨W, 2 ^ p.ep, p.J, 5, 2 ^ p.ep, w + p.ep, rfl, .s0 pe, by solve_by_elim (maxDepth := 3) only [*, Nat.le_of_lt, Nat.lt_of_lt_of_le, Nat.lt_of_le_of_lt, Nat.le_trans, Nat.pos_of_ne_zero, Nat.ne_of_gt, Nat.le_refl, Nat.lt_trans, Nat.succ_ne_zero, Nat.le_add_right, Nat.ne_of_lt, Ne.symm, Nat.succ_le_of_lt, Nat.lt_irrefl, absurd], by solve_by_elim (maxDepth := 3) only [*, Nat.le_of_lt, Nat.lt_of_lt_of_le, Nat.lt_of_le_of_lt, Nat.le_trans, Nat.pos_of_ne_zero, Nat.ne_of_gt, Nat.le_refl, Nat.lt_trans, Nat.succ_ne_zero, Nat.le_add_right, Nat.ne_of_lt, Ne.symm, Nat.succ_le_of_lt, Nat.lt_irrefl, absurd], ok.big, Nat.le_refl _, { e1 := he1.mono (by simp +arith only [*]), e2 := he2, pe := pe, P1 := Nat.two_pow_pos _, uv := uv.fresh hP, hW := hW, hP := Nat.le_refl _, lim := by lia, lim2 := l2 }, hT⟩
/-- step 0 -/
noncomputable def I0 (P0 e0 ep0 T0 m n μ : Nat) (S U V : Nat → Nat → Int) : Prop := ∃ e Pe w, St m n 0 S U V (2 ^ e) Pe (e + 2) ep0 w ∧ E3 (blk S 0 m n) (2 ^ e) ∧ Ph0 P0 e0 (blk S 0 m n) e μ ∧ w + (e0 + 9 * P0 + 12) * μ ≤ T0
theorem pw3 (e : Nat) : 2 ^ e + 3 ≤ 2 ^ (e + 2) := by rw [Nat.pow_add]; have := Nat.two_pow_pos e; lia
theorem i0_n {P0 e0 ep0 T0 m n μ r c : Nat} {B S U V : Nat → Nat → Int} (hn : n ≤ 3) (l1 : (e0 + 9 * P0 + 11) + ep0 + T0 ≤ 134217726) (l2 : 2 * ((e0 + 9 * P0 + 11) + ep0) ≤ 134217726) (x : Core m n B 0 S) (i : I0 P0 e0 ep0 T0 m n μ S U V) (ls : LS S 0 n m 0 (some (r, c)))
    (hu : ¬ ccDone (swC (swR S r 0) c 0) 0 m n) :
    ∃ μ', μ' < μ ∧ I0 P0 e0 ep0 T0 m n μ' (ccS (swC (swR S r 0) c 0) 0 m n) (ccU (swC (swR S r 0) c 0) (swR U r 0) 0 m) (ccV (swC (swR S r 0) c 0) (swC V c 0) 0 n) := by
  obtain ⟨e, Pe, w, st, h3, ph, hT⟩ := i
  obtain ⟨a, b, t⟩ := mkTurn x st ls
  rw [t.done] at hu
  obtain ⟨μ', hlt, ph'⟩ := ph0_n ph t.piv hu
  have hz : ∀ i j, 3 ≤ j → brg (blk S 0 m n) a b i j = 0 := fun i j hj => by
    show blk S 0 m n (swp a 0 i) (swp b 0 j) = 0
    have := t.hc
    rw [show swp b 0 j = j from swp_ne (by lia) (by lia)]; exact blk_out (by lia)
  have be3 : E3 (brg (blk S 0 m n) a b) (2 ^ e) := h3.perm (swp a 0) (swp b 0)
  have e2 := turn_E2 t.b0 t.be2 be3
  have e3 := turn_E3 t.b0 hz be3
  have pw : 2 ^ (e + 4) = 16 * 2 ^ e := by rw [Nat.pow_add]; (simp +arith only [*])
  have hE := ph.e
  have hE' := ph'.e
  have hmul : (e0 + 9 * P0 + 12) * μ' + (e0 + 9 * P0 + 12) ≤ (e0 + 9 * P0 + 12) * μ := by
    have := Nat.mul_le_mul_left (e0 + 9 * P0 + 12) hlt
    rwa [Nat.succ_eq_add_one, Nat.mul_add, Nat.mul_one] at this
  exact ⟨μ', hlt, e + 4, _, _, t.st st.hP (by simp +arith only [*]) (e2.mono (by simp +arith only [*])) (pw3 _) (by lia) (by lia), by rw [t.z]; exact e3.mono (by simp +arith only [*]), by rw [t.z]; exact ph', by lia⟩
theorem i0_u {P0 e0 ep0 T0 m n μ r c q : Nat} {B S U V : Nat → Nat → Int} (hn : n ≤ 3) (l1 : (e0 + 9 * P0 + 11) + ep0 + T0 ≤ 134217726) (l2 : 2 * ((e0 + 9 * P0 + 11) + ep0) ≤ 134217726) (x : Core m n B 0 S) (i : I0 P0 e0 ep0 T0 m n μ S U V) (ls : LS S 0 n m 0 (some (r, c)))
    (hd : ccDone (swC (swR S r 0) c 0) 0 m n) (hq : 1 ≤ q) (hqm : 0 + q < m)
    (hx : ∃ c', 0 < c' ∧ c' < n ∧ (ccS (swC (swR S r 0) c 0) 0 m n (0 + q) c').fmod (ccS (swC (swR S r 0) c 0) 0 m n 0 0) ≠ 0) :
    ∃ μ', μ' < μ ∧ I0 P0 e0 ep0 T0 m n μ' (addM (ccS (swC (swR S r 0) c 0) 0 m n) 0 (0 + q)) (addM (ccU (swC (swR S r 0) c 0) (swR U r 0) 0 m) 0 (0 + q)) (ccV (swC (swR S r 0) c 0) (swC V c 0) 0 n) := by
  obtain ⟨e, Pe, w, st, h3, ph, hT⟩ := i
  obtain ⟨a, b, t⟩ := mkTurn x st ls
  rw [t.done] at hd
  obtain ⟨μ', hlt, ph'⟩ := ph0_u ph t.piv hd hq (t.mod hqm hx)
  have hz : ∀ i j, 3 ≤ j → brg (blk S 0 m n) a b i j = 0 := fun i j hj => by
    show blk S 0 m n (swp a 0 i) (swp b 0 j) = 0
    have := t.hc
    rw [show swp b 0 j = j from swp_ne (by lia) (by lia)]; exact blk_out (by lia)
  have be3 : E3 (brg (blk S 0 m n) a b) (2 ^ e) := h3.perm (swp a 0) (swp b 0)
  have e2 := addM_E2 (q := q) (turn_E2 t.b0 t.be2 be3)
  have e3 := addM_E3 (q := q) (turn_E3 t.b0 hz be3)
  have pw : 2 ^ (e + 5) = 32 * 2 ^ e := by rw [Nat.pow_add]; (simp +arith only [*])
  have hE := ph.e
  have hE' := ph'.e
  have hs : 0 < m := by lia
  have eb : blk (addM (ccS (swC (swR S r 0) c 0) 0 m n) 0 (0 + q)) 0 m n = addM (turn (brg (blk S 0 m n) a b)) 0 q := by rw [blk_addM hs hqm, t.z]
  have hmul : (e0 + 9 * P0 + 12) * μ' + (e0 + 9 * P0 + 12) ≤ (e0 + 9 * P0 + 12) * μ := by
    have := Nat.mul_le_mul_left (e0 + 9 * P0 + 12) hlt
    rwa [Nat.succ_eq_add_one, Nat.mul_add, Nat.mul_one] at this
  exact ⟨μ', hlt, e + 5, _, _, t.stU st.hP (by simp +arith only [*]) hd hq hqm (e2.mono (by simp +arith only [*])) (pw3 _) (by lia) (by lia), by rw [eb]; exact e3.mono (by simp +arith only [*]), by rw [eb]; exact ph', by lia⟩
end Mine
namespace Mine
structure Pl (m n : Nat) (B : Nat → Nat → Int) (P0 e0 ep0 T0 : Nat) (p1 p2 : Par) : Prop where
  hm : m ≤ 4
  hn : n ≤ 3
  ok1 : ParOk p1
  ok2 : ParOk p2
  gr1 : Grow p1 m n B 1
  gr2 : Grow p2 m n B 2
  l1 : (e0 + 9 * P0 + 11) + ep0 + T0 ≤ 134217726
  l2 : 2 * ((e0 + 9 * P0 + 11) + ep0) ≤ 134217726
  in1 : T0 + p1.ep + Psi p1.c p1.J 5 ≤ p1.T
  in2 : p1.T + p2.ep + Psi p2.c p2.J 5 ≤ p2.T
  e1 : e0 + 9 * P0 + 10 ≤ p1.ep
  e0' : ep0 ≤ e0 + 9 * P0 + 9
  e2 : ∀ j k, j ≤ p1.J → p1.bl j k + 1 ≤ p2.ep
  e2' : p1.ep + 1 ≤ p2.ep
  s1 : ∀ {S : Nat → Nat → Int}, Core m n B 1 S → E2 (blk S 1 m n) (5 * 2 ^ (e0 + 9 * P0 + 9)) → ∃ W, E2 (blk S 1 m n) W ∧ W + 3 ≤ 2 ^ p1.bl p1.J 5
  s2 : ∀ {S : Nat → Nat → Int}, Core m n B 2 S → ∃ W, E2 (blk S 2 m n) W ∧ W + 3 ≤ 2 ^ p2.bl p2.J 5
  mu : 2 * P0 + 2 < 1000000
noncomputable def SzP (P0 e0 ep0 T0 : Nat) (p1 p2 : Par) (m n : Nat) : Nat → Nat → (Nat → Nat → Int) → (Nat → Nat → Int) → (Nat → Nat → Int) → Prop
  | 0, μ, S, U, V => I0 P0 e0 ep0 T0 m n μ S U V
  | 1, μ, S, U, V => I1 p1 m n 1 μ S U V
  | s + 2, μ, S, U, V => I1 p2 m n (s + 2) μ S U V
noncomputable def II (B : Nat → Nat → Int) (P0 e0 ep0 T0 : Nat) (p1 p2 : Par) (m n κ step : Nat) (S U V : Nat → Nat → Int) : Prop :=
  Core m n B step S ∧ (step < min m n → ∃ μ, μ < 1000000 ∧ κ = (3 - step) * 1000000 + μ ∧ SzP P0 e0 ep0 T0 p1 p2 m n step μ S U V)
theorem SzP.st {P0 e0 ep0 T0 : Nat} {p1 p2 : Par} {m n step μ : Nat} {S U V : Nat → Nat → Int} (h : SzP P0 e0 ep0 T0 p1 p2 m n step μ S U V) : ∃ W Pe b ep w, St m n step S U V W Pe b ep w := by
  match step, h with
  | 0, h => obtain ⟨e, Pe, w, st, _⟩ := h; exact ⟨_, _, _, _, _, st⟩
  | 1, h => obtain ⟨W, P, j, k, Pe, w, _, _, _, _, _, _, st, _⟩ := h; exact ⟨_, _, _, _, _, st⟩
  | s + 2, h => obtain ⟨W, P, j, k, Pe, w, _, _, _, _, _, _, st, _⟩ := h; exact ⟨_, _, _, _, _, st⟩
theorem kap {s μ μ' : Nat} (h : s < 3) (h' : μ' < 1000000) : (3 - (s + 1)) * 1000000 + μ' < (3 - s) * 1000000 + μ ∧ 0 < (3 - s) * 1000000 + μ := by lia
theorem psi_ge {c : Nat → Nat} {j k : Nat} (h : 1 ≤ k) : c j ≤ Psi c j k := by
  unfold Psi
  have := Nat.mul_le_mul_right (c j) h
  lia
theorem E1.nxt {S : Nat → Nat → Int} {step m n e : Nat} {b : Bool} (h : E1 (blk S step m n) e) : E1 (blk (negM b S step) (step + 1) m n) e := fun i j => by rw [blk_next]; exact h _ _
theorem E2.nxt {S : Nat → Nat → Int} {step m n e : Nat} {b : Bool} (h : E2 (blk S step m n) e) : E2 (blk (negM b S step) (step + 1) m n) e := fun i j k l => by
  have := h (i + 1) (j + 1) (k + 1) (l + 1)
  unfold m2 at this ⊢
  rw [blk_next, blk_next, blk_next, blk_next]; exact this
theorem plan_of {m n P0 e0 ep0 T0 : Nat} {p1 p2 : Par} {B : Nat → Nat → Int} {fits : Int → Int → Prop} (F : ∀ {a b : Int} {k l : Nat}, a.natAbs ≤ 2 ^ k → b.natAbs ≤ 2 ^ l → k + l ≤ 134217726 → fits a b) (x : Pl m n B P0 e0 ep0 T0 p1 p2) :
    SPlan fits m n (II B P0 e0 ep0 T0 p1 p2 m n) (SOf m n B) := by
  have hm := x.hm
  have hn := x.hn
  constructor
  · rintro k step S U V ⟨co, -⟩ h
    by_cases e : step = min m n
    · exact co.done (.inl e)
    · have := h (by have := co.le; lia)
      exact co.done (.inr fun r c h1 h2 h3 h4 => by
        exact this.none r c h1 h2 h3 h4)
  · rintro k step S U V ⟨co, -⟩; exact co.le
  · rintro k step S U V r c ⟨co, sz⟩ hs ls
    obtain ⟨μ, _, _, h⟩ := sz hs
    obtain ⟨W, Pe, b, ep, w, st⟩ := h.st
    obtain ⟨i, j, t⟩ := mkTurn co st ls
    exact t.bnd.fits F
  · rintro k step S U V r c ⟨co, sz⟩ hs ls hu
    obtain ⟨μ, hμ, rfl, h⟩ := sz hs
    have fin : (∃ μ', μ' < μ ∧ SzP P0 e0 ep0 T0 p1 p2 m n step μ' (ccS (swC (swR S r step) c step) step m n) (ccU (swC (swR S r step) c step) (swR U r step) step m) (ccV (swC (swR S r step) c step) (swC V c step) step n)) := by
      match step, h with
      | 0, h => exact i0_n hn x.l1 x.l2 co h ls hu
      | 1, h => exact i1_n x.ok1 x.gr1 (Nat.le_refl _) hm hn co h ls hu
      | 2, h => exact i1_n x.ok2 x.gr2 (by solve_by_elim (maxDepth := 3) only [*, Nat.le_of_lt, Nat.lt_of_lt_of_le, Nat.lt_of_le_of_lt, Nat.le_trans, Nat.pos_of_ne_zero, Nat.ne_of_gt, Nat.le_refl, Nat.lt_trans, Nat.succ_ne_zero, Nat.le_add_right, Nat.ne_of_lt, Ne.symm, Nat.succ_le_of_lt, Nat.lt_irrefl, absurd]) hm hn co h ls hu
      | s + 3, h => lia
    obtain ⟨μ', h1, h2⟩ := fin
    obtain ⟨W, Pe, b, ep, w, st⟩ := h.st
    obtain ⟨i, j, t⟩ := mkTurn co st ls
    exact ⟨(3 - step) * 1000000 + μ', by lia, t.core, fun _ => ⟨μ', by lia, rfl, h2⟩⟩
  · rintro k step S U V r c q ⟨co, sz⟩ hs ls hd hq hqm hx
    obtain ⟨μ, hμ, rfl, h⟩ := sz hs
    obtain ⟨q, rfl⟩ : ∃ q', q = step + q' := ⟨q - step, by grind⟩
    have fin : (∃ μ', μ' < μ ∧ SzP P0 e0 ep0 T0 p1 p2 m n step μ' (addM (ccS (swC (swR S r step) c step) step m n) step (step + q)) (addM (ccU (swC (swR S r step) c step) (swR U r step) step m) step (step + q)) (ccV (swC (swR S r step) c step) (swC V c step) step n)) := by
      match step, h with
      | 0, h => exact i0_u hn x.l1 x.l2 co h ls hd (by lia) hqm hx
      | 1, h => exact i1_u x.ok1 x.gr1 (Nat.le_refl _) hm hn co h ls hd (by lia) hqm hx
      | 2, h => exact i1_u x.ok2 x.gr2 (by solve_by_elim (maxDepth := 3) only [*, Nat.le_of_lt, Nat.lt_of_lt_of_le, Nat.lt_of_le_of_lt, Nat.le_trans, Nat.pos_of_ne_zero, Nat.ne_of_gt, Nat.le_refl, Nat.lt_trans, Nat.succ_ne_zero, Nat.le_add_right, Nat.ne_of_lt, Ne.symm, Nat.succ_le_of_lt, Nat.lt_irrefl, absurd]) hm hn co h ls hd (by lia) hqm hx
      | s + 3, h => lia
    obtain ⟨μ', h1, h2⟩ := fin
    obtain ⟨W, Pe, b, ep, w, st⟩ := h.st
    obtain ⟨i, j, t⟩ := mkTurn co st ls
    exact ⟨(3 - step) * 1000000 + μ', by lia, t.core.addM' (by lia) (by omega) hqm, fun _ => ⟨μ', by lia, rfl, h2⟩⟩
  · rintro k step S U V r c ⟨co, sz⟩ hs ls hd hz
    obtain ⟨μ, hμ, rfl, h⟩ := sz hs
    have hs3 : step < 3 := Nat.lt_of_lt_of_le hs (Nat.le_trans (Nat.min_le_right m n) hn)
    have co' : Core m n B (step + 1) (negM (decide (ccS (swC (swR S r step) c step) step m n step step < 0)) (ccS (swC (swR S r step) c step) step m n) step) := by
      obtain ⟨W, Pe, b, ep, w, st⟩ := h.st
      obtain ⟨i, j, t⟩ := mkTurn co st ls
      exact t.core.next hs (by rw [t.lead]; exact t.piv.1) hd.1 hd.2 hz
    generalize hb : decide (ccS (swC (swR S r step) c step) step m n step step < 0) = bb at *
    by_cases g : step + 1 < min m n
    · have fin : (∃ μ', μ' < 1000000 ∧ SzP P0 e0 ep0 T0 p1 p2 m n (step + 1) μ' (negM bb (ccS (swC (swR S r step) c step) step m n) step) (negM bb (ccU (swC (swR S r step) c step) (swR U r step) step m) step) (ccV (swC (swR S r step) c step) (swC V c step) step n)) := by
        match step, h with
        | 0, h =>
          obtain ⟨e, Pe, w, st, h3, ph, hT⟩ := h
          obtain ⟨i, j, t⟩ := mkTurn co st ls
          have he := ph.e
          have be3 : E3 (brg (blk S 0 m n) i j) (2 ^ e) := h3.perm (swp i 0) (swp j 0)
          have e2 := turn_E2 t.b0 t.be2 be3
          have e1 := t.ze1
          rw [← t.z] at e1 e2
          have pe : 2 ^ e ≤ 2 ^ (e0 + 9 * P0 + 9) := pow_le he.1
          have p1' : 2 ^ (e0 + 9 * P0 + 9) + 2 ^ (e0 + 9 * P0 + 9) ≤ 2 ^ p1.ep := by
            have : 2 ^ (e0 + 9 * P0 + 10) ≤ 2 ^ p1.ep := pow_le x.e1
            have e : 2 ^ (e0 + 9 * P0 + 10) = 2 ^ (e0 + 9 * P0 + 9) * 2 := Nat.pow_succ ..
            lia
          have p2' : 2 ^ ep0 ≤ 2 ^ (e0 + 9 * P0 + 9) := pow_le x.e0'
          have tp := t.pP
          have sP := st.hP
          obtain ⟨W, hW, hW3⟩ := x.s1 co' ((e2.mono (by lia)).nxt)
          have hmul : (e0 + 9 * P0 + 12) * 1 ≤ (e0 + 9 * P0 + 12) * μ := Nat.mul_le_mul_left _ he.2.1
          have in1 := x.in1
          exact ⟨_, x.ok1.J, i1_enter x.ok1 ((e1.mono (by lia)).nxt) hW hW3 t.uv'.negM' (by have := t.piv.1; omega) (by lia)⟩
        | 1, h =>
          obtain ⟨W, P, j, k, Pe, w, rfl, ph, k1, k5, hj, jJ, st, hT⟩ := h
          obtain ⟨a, b, t⟩ := mkTurn co st ls
          have e1 := t.ze1
          rw [← t.z] at e1
          obtain ⟨W2, hW, hW3⟩ := x.s2 co'
          have tp := t.pP
          have sP := st.hP
          have sW := st.hW
          have q1 : 2 ^ (p1.bl j k) * 2 ≤ 2 ^ p2.ep := by rw [← Nat.pow_succ]; exact pow_le (x.e2 j k jJ)
          have q2 : 2 ^ p1.ep * 2 ≤ 2 ^ p2.ep := by rw [← Nat.pow_succ]; exact pow_le x.e2'
          have hc := x.ok1.c j k jJ
          have := psi_ge (c := p1.c) (j := j) k1
          have in2 := x.in2
          exact ⟨_, x.ok2.J, i1_enter x.ok2 ((e1.mono (by lia)).nxt) hW hW3 t.uv'.negM' (by have := t.piv.1; omega) (by lia)⟩
        | s + 2, h => lia
      obtain ⟨μ', h1, h2⟩ := fin
      exact ⟨(3 - (step + 1)) * 1000000 + μ', (kap hs3 h1).1, co', fun _ => ⟨μ', h1, rfl, h2⟩⟩
    · exact ⟨0, (kap (μ' := 0) hs3 (by solve_by_elim (maxDepth := 3) only [*, Nat.le_of_lt, Nat.lt_of_lt_of_le, Nat.lt_of_le_of_lt, Nat.le_trans, Nat.pos_of_ne_zero, Nat.ne_of_gt, Nat.le_refl, Nat.lt_trans, Nat.succ_ne_zero, Nat.le_add_right, Nat.ne_of_lt, Ne.symm, Nat.succ_le_of_lt, Nat.lt_irrefl, absurd])).2, co', fun h => absurd h g⟩
end Mine
namespace Mine
theorem E2_row1 {X : Nat → Nat → Int} (h : ∀ i j, 1 ≤ i → X i j = 0) : E2 X 0 := by
  intro i j k l
  have : m2 X i j k l = 0 := by
    unfold m2
    by_cases hi : 1 ≤ i
    · rw [h i k hi, h i l hi]; simp
    · by_cases hj : 1 ≤ j
      · rw [h j k hj, h j l hj]; simp
      · obtain rfl : i = 0 := by lia
        obtain rfl : j = 0 := by lia
        grind
  rw [this]; simp
theorem E2_col1 {X : Nat → Nat → Int} (h : ∀ i j, 1 ≤ j → X i j = 0) : E2 X 0 := by
  intro i j k l
  have : m2 X i j k l = 0 := by
    unfold m2
    by_cases hi : 1 ≤ k
    · rw [h i k hi, h j k hi]; simp
    · by_cases hj : 1 ≤ l
      · rw [h j l hj, h i l hj]; simp
      · obtain rfl : k = 0 := by lia
        obtain rfl : l = 0 := by lia
        grind
  rw [this]; simp
theorem E2_22 {X : Nat → Nat → Int} {W : Nat} (hc : ∀ i j, 2 ≤ j → X i j = 0) (hr : ∀ i j, 2 ≤ i → X i j = 0) (h : (m2 X 0 1 0 1).natAbs ≤ W) : E2 X W := by
  refine E2_of_01 hc fun i j => ?_
  by_cases hi : 2 ≤ i
  · unfold m2; rw [hr i 0 hi, hr i 1 hi]; simp
  · by_cases hj : 2 ≤ j
    · unfold m2; rw [hr j 0 hj, hr j 1 hj]; simp
    · have : (i = 0 ∧ j = 0) ∨ (i = 1 ∧ j = 1) ∨ (i = 0 ∧ j = 1) ∨ (i = 1 ∧ j = 0) := by lia
      rcases this with ⟨rfl, rfl⟩ | ⟨rfl, rfl⟩ | ⟨rfl, rfl⟩ | ⟨rfl, rfl⟩
      · have : m2 X 0 0 0 1 = 0 := by unfold m2; grind
        rw [this]; simp
      · have : m2 X 1 1 0 1 = 0 := by unfold m2; grind
        rw [this]; simp
      · exact h
      · have : m2 X 1 0 0 1 = -(m2 X 0 1 0 1) := by unfold m2; grind
        rw [this, Int.natAbs_neg]; exact h
theorem det_mul (x0 x1 x2 y0 y1 y2 z0 z1 z2 a b c d e f g h i : Int) :
    det3 (x0 * a + x1 * d + x2 * g) (x0 * b + x1 * e + x2 * h) (x0 * c + x1 * f + x2 * i) (y0 * a + y1 * d + y2 * g) (y0 * b + y1 * e + y2 * h) (y0 * c + y1 * f + y2 * i) (z0 * a + z1 * d + z2 * g) (z0 * b + z1 * e + z2 * h) (z0 * c + z1 * f + z2 * i) =
      det3 x0 x1 x2 y0 y1 y2 z0 z1 z2 * det3 a b c d e f g h i := by
  unfold det3; grind
theorem bil3 (A : Nat → Nat → Int) (x u : Nat → Int) : bil 3 3 A x u = x 0 * (A 0 0 * u 0 + A 0 1 * u 1 + A 0 2 * u 2) + x 1 * (A 1 0 * u 0 + A 1 1 * u 1 + A 1 2 * u 2) + x 2 * (A 2 0 * u 0 + A 2 1 * u 1 + A 2 2 * u 2) := by
  simp only [bil, sumN, Int.zero_add]
theorem red_det {A A' : Nat → Nat → Int} (h : Red 3 3 A 3 3 A') : ∃ k, m3 A' 0 1 2 0 1 2 = k * m3 A 0 1 2 0 1 2 := by
  obtain ⟨f, g, h⟩ := h
  have ev : ∀ a b, a < 3 → b < 3 → A' a b = bil 3 3 A (f (e_ a)) (g (e_ b)) := fun a b ha hb => by
    rw [← h, bil3]
    have ha : a = 0 ∨ a = 1 ∨ a = 2 := by lia
    have hb : b = 0 ∨ b = 1 ∨ b = 2 := by lia
    rcases ha with rfl | rfl | rfl <;> rcases hb with rfl | rfl | rfl <;> simp [e_]
  unfold m3
  rw [ev 0 0 (by solve_by_elim (maxDepth := 3) only [*, Nat.le_of_lt, Nat.lt_of_lt_of_le, Nat.lt_of_le_of_lt, Nat.le_trans, Nat.pos_of_ne_zero, Nat.ne_of_gt, Nat.le_refl, Nat.lt_trans, Nat.succ_ne_zero, Nat.le_add_right, Nat.ne_of_lt, Ne.symm, Nat.succ_le_of_lt, Nat.lt_irrefl, absurd]) (by solve_by_elim (maxDepth := 3) only [*, Nat.le_of_lt, Nat.lt_of_lt_of_le, Nat.lt_of_le_of_lt, Nat.le_trans, Nat.pos_of_ne_zero, Nat.ne_of_gt, Nat.le_refl, Nat.lt_trans, Nat.succ_ne_zero, Nat.le_add_right, Nat.ne_of_lt, Ne.symm, Nat.succ_le_of_lt, Nat.lt_irrefl, absurd]), ev 0 1 (by solve_by_elim (maxDepth := 3) only [*, Nat.le_of_lt, Nat.lt_of_lt_of_le, Nat.lt_of_le_of_lt, Nat.le_trans, Nat.pos_of_ne_zero, Nat.ne_of_gt, Nat.le_refl, Nat.lt_trans, Nat.succ_ne_zero, Nat.le_add_right, Nat.ne_of_lt, Ne.symm, Nat.succ_le_of_lt, Nat.lt_irrefl, absurd]) (by solve_by_elim (maxDepth := 3) only [*, Nat.le_of_lt, Nat.lt_of_lt_of_le, Nat.lt_of_le_of_lt, Nat.le_trans, Nat.pos_of_ne_zero, Nat.ne_of_gt, Nat.le_refl, Nat.lt_trans, Nat.succ_ne_zero, Nat.le_add_right, Nat.ne_of_lt, Ne.symm, Nat.succ_le_of_lt, Nat.lt_irrefl, absurd]), ev 0 2 (by solve_by_elim (maxDepth := 3) only [*, Nat.le_of_lt, Nat.lt_of_lt_of_le, Nat.lt_of_le_of_lt, Nat.le_trans, Nat.pos_of_ne_zero, Nat.ne_of_gt, Nat.le_refl, Nat.lt_trans, Nat.succ_ne_zero, Nat.le_add_right, Nat.ne_of_lt, Ne.symm, Nat.succ_le_of_lt, Nat.lt_irrefl, absurd]) (by solve_by_elim (maxDepth := 3) only [*, Nat.le_of_lt, Nat.lt_of_lt_of_le, Nat.lt_of_le_of_lt, Nat.le_trans, Nat.pos_of_ne_zero, Nat.ne_of_gt, Nat.le_refl, Nat.lt_trans, Nat.succ_ne_zero, Nat.le_add_right, Nat.ne_of_lt, Ne.symm, Nat.succ_le_of_lt, Nat.lt_irrefl, absurd]), ev 1 0 (by solve_by_elim (maxDepth := 3) only [*, Nat.le_of_lt, Nat.lt_of_lt_of_le, Nat.lt_of_le_of_lt, Nat.le_trans, Nat.pos_of_ne_zero, Nat.ne_of_gt, Nat.le_refl, Nat.lt_trans, Nat.succ_ne_zero, Nat.le_add_right, Nat.ne_of_lt, Ne.symm, Nat.succ_le_of_lt, Nat.lt_irrefl, absurd]) (by solve_by_elim (maxDepth := 3) only [*, Nat.le_of_lt, Nat.lt_of_lt_of_le, Nat.lt_of_le_of_lt, Nat.le_trans, Nat.pos_of_ne_zero, Nat.ne_of_gt, Nat.le_refl, Nat.lt_trans, Nat.succ_ne_zero, Nat.le_add_right, Nat.ne_of_lt, Ne.symm, Nat.succ_le_of_lt, Nat.lt_irrefl, absurd]), ev 1 1 (by solve_by_elim (maxDepth := 3) only [*, Nat.le_of_lt, Nat.lt_of_lt_of_le, Nat.lt_of_le_of_lt, Nat.le_trans, Nat.pos_of_ne_zero, Nat.ne_of_gt, Nat.le_refl, Nat.lt_trans, Nat.succ_ne_zero, Nat.le_add_right, Nat.ne_of_lt, Ne.symm, Nat.succ_le_of_lt, Nat.lt_irrefl, absurd]) (by solve_by_elim (maxDepth := 3) only [*, Nat.le_of_lt, Nat.lt_of_lt_of_le, Nat.lt_of_le_of_lt, Nat.le_trans, Nat.pos_of_ne_zero, Nat.ne_of_gt, Nat.le_refl, Nat.lt_trans, Nat.succ_ne_zero, Nat.le_add_right, Nat.ne_of_lt, Ne.symm, Nat.succ_le_of_lt, Nat.lt_irrefl, absurd]), ev 1 2 (by solve_by_elim (maxDepth := 3) only [*, Nat.le_of_lt, Nat.lt_of_lt_of_le, Nat.lt_of_le_of_lt, Nat.le_trans, Nat.pos_of_ne_zero, Nat.ne_of_gt, Nat.le_refl, Nat.lt_trans, Nat.succ_ne_zero, Nat.le_add_right, Nat.ne_of_lt, Ne.symm, Nat.succ_le_of_lt, Nat.lt_irrefl, absurd]) (by solve_by_elim (maxDepth := 3) only [*, Nat.le_of_lt, Nat.lt_of_lt_of_le, Nat.lt_of_le_of_lt, Nat.le_trans, Nat.pos_of_ne_zero, Nat.ne_of_gt, Nat.le_refl, Nat.lt_trans, Nat.succ_ne_zero, Nat.le_add_right, Nat.ne_of_lt, Ne.symm, Nat.succ_le_of_lt, Nat.lt_irrefl, absurd]), ev 2 0 (by solve_by_elim (maxDepth := 3) only [*, Nat.le_of_lt, Nat.lt_of_lt_of_le, Nat.lt_of_le_of_lt, Nat.le_trans, Nat.pos_of_ne_zero, Nat.ne_of_gt, Nat.le_refl, Nat.lt_trans, Nat.succ_ne_zero, Nat.le_add_right, Nat.ne_of_lt, Ne.symm, Nat.succ_le_of_lt, Nat.lt_irrefl, absurd]) (by solve_by_elim (maxDepth := 3) only [*, Nat.le_of_lt, Nat.lt_of_lt_of_le, Nat.lt_of_le_of_lt, Nat.le_trans, Nat.pos_of_ne_zero, Nat.ne_of_gt, Nat.le_refl, Nat.lt_trans, Nat.succ_ne_zero, Nat.le_add_right, Nat.ne_of_lt, Ne.symm, Nat.succ_le_of_lt, Nat.lt_irrefl, absurd]), ev 2 1 (by solve_by_elim (maxDepth := 3) only [*, Nat.le_of_lt, Nat.lt_of_lt_of_le, Nat.lt_of_le_of_lt, Nat.le_trans, Nat.pos_of_ne_zero, Nat.ne_of_gt, Nat.le_refl, Nat.lt_trans, Nat.succ_ne_zero, Nat.le_add_right, Nat.ne_of_lt, Ne.symm, Nat.succ_le_of_lt, Nat.lt_irrefl, absurd]) (by solve_by_elim (maxDepth := 3) only [*, Nat.le_of_lt, Nat.lt_of_lt_of_le, Nat.lt_of_le_of_lt, Nat.le_trans, Nat.pos_of_ne_zero, Nat.ne_of_gt, Nat.le_refl, Nat.lt_trans, Nat.succ_ne_zero, Nat.le_add_right, Nat.ne_of_lt, Ne.symm, Nat.succ_le_of_lt, Nat.lt_irrefl, absurd]), ev 2 2 (by solve_by_elim (maxDepth := 3) only [*, Nat.le_of_lt, Nat.lt_of_lt_of_le, Nat.lt_of_le_of_lt, Nat.le_trans, Nat.pos_of_ne_zero, Nat.ne_of_gt, Nat.le_refl, Nat.lt_trans, Nat.succ_ne_zero, Nat.le_add_right, Nat.ne_of_lt, Ne.symm, Nat.succ_le_of_lt, Nat.lt_irrefl, absurd]) (by solve_by_elim (maxDepth := 3) only [*, Nat.le_of_lt, Nat.lt_of_lt_of_le, Nat.lt_of_le_of_lt, Nat.le_trans, Nat.pos_of_ne_zero, Nat.ne_of_gt, Nat.le_refl, Nat.lt_trans, Nat.succ_ne_zero, Nat.le_add_right, Nat.ne_of_lt, Ne.symm, Nat.succ_le_of_lt, Nat.lt_irrefl, absurd])]
  simp only [bil3]
  rw [det_mul]
  rw [det_mul]
  exact ⟨_, by rw [Int.mul_comm (det3 (A 0 0) _ _ _ _ _ _ _ _), ← Int.mul_assoc]⟩
theorem core_det {B S : Nat → Nat → Int} {W : Nat} (x : Core 3 3 B 1 S) (hB : (m3 B 0 1 2 0 1 2).natAbs ≤ W) : (S 1 1 * S 2 2 - S 1 2 * S 2 1).natAbs ≤ W := by
  obtain ⟨k, hk⟩ := red_det x.eq.1
  obtain ⟨l, hl⟩ := red_det x.eq.2
  have hS : m3 S 0 1 2 0 1 2 = S 0 0 * (S 1 1 * S 2 2 - S 1 2 * S 2 1) := by
    unfold m3 det3
    rw [x.row0 0 (by solve_by_elim (maxDepth := 3) only [*, Nat.le_of_lt, Nat.lt_of_lt_of_le, Nat.lt_of_le_of_lt, Nat.le_trans, Nat.pos_of_ne_zero, Nat.ne_of_gt, Nat.le_refl, Nat.lt_trans, Nat.succ_ne_zero, Nat.le_add_right, Nat.ne_of_lt, Ne.symm, Nat.succ_le_of_lt, Nat.lt_irrefl, absurd]) 1 (by solve_by_elim (maxDepth := 3) only [*, Nat.le_of_lt, Nat.lt_of_lt_of_le, Nat.lt_of_le_of_lt, Nat.le_trans, Nat.pos_of_ne_zero, Nat.ne_of_gt, Nat.le_refl, Nat.lt_trans, Nat.succ_ne_zero, Nat.le_add_right, Nat.ne_of_lt, Ne.symm, Nat.succ_le_of_lt, Nat.lt_irrefl, absurd]) (by solve_by_elim (maxDepth := 3) only [*, Nat.le_of_lt, Nat.lt_of_lt_of_le, Nat.lt_of_le_of_lt, Nat.le_trans, Nat.pos_of_ne_zero, Nat.ne_of_gt, Nat.le_refl, Nat.lt_trans, Nat.succ_ne_zero, Nat.le_add_right, Nat.ne_of_lt, Ne.symm, Nat.succ_le_of_lt, Nat.lt_irrefl, absurd]), x.row0 0 (by solve_by_elim (maxDepth := 3) only [*, Nat.le_of_lt, Nat.lt_of_lt_of_le, Nat.lt_of_le_of_lt, Nat.le_trans, Nat.pos_of_ne_zero, Nat.ne_of_gt, Nat.le_refl, Nat.lt_trans, Nat.succ_ne_zero, Nat.le_add_right, Nat.ne_of_lt, Ne.symm, Nat.succ_le_of_lt, Nat.lt_irrefl, absurd]) 2 (by solve_by_elim (maxDepth := 3) only [*, Nat.le_of_lt, Nat.lt_of_lt_of_le, Nat.lt_of_le_of_lt, Nat.le_trans, Nat.pos_of_ne_zero, Nat.ne_of_gt, Nat.le_refl, Nat.lt_trans, Nat.succ_ne_zero, Nat.le_add_right, Nat.ne_of_lt, Ne.symm, Nat.succ_le_of_lt, Nat.lt_irrefl, absurd]) (by solve_by_elim (maxDepth := 3) only [*, Nat.le_of_lt, Nat.lt_of_lt_of_le, Nat.lt_of_le_of_lt, Nat.le_trans, Nat.pos_of_ne_zero, Nat.ne_of_gt, Nat.le_refl, Nat.lt_trans, Nat.succ_ne_zero, Nat.le_add_right, Nat.ne_of_lt, Ne.symm, Nat.succ_le_of_lt, Nat.lt_irrefl, absurd])]; simp
  have p := x.pos 0 (by solve_by_elim (maxDepth := 3) only [*, Nat.le_of_lt, Nat.lt_of_lt_of_le, Nat.lt_of_le_of_lt, Nat.le_trans, Nat.pos_of_ne_zero, Nat.ne_of_gt, Nat.le_refl, Nat.lt_trans, Nat.succ_ne_zero, Nat.le_add_right, Nat.ne_of_lt, Ne.symm, Nat.succ_le_of_lt, Nat.lt_irrefl, absurd])
  have h1 : (S 1 1 * S 2 2 - S 1 2 * S 2 1).natAbs ≤ (m3 S 0 1 2 0 1 2).natAbs := by
    rw [hS, Int.natAbs_mul]; exact Nat.le_mul_of_pos_left _ (by grind)
  refine Nat.le_trans h1 (Nat.le_trans ?_ hB)
  by_cases z : m3 B 0 1 2 0 1 2 = 0
  · rw [hk, z]; simp
  · have hl0 : l ≠ 0 := fun e => z (by rw [hl, e]; simp)
    rw [hl, Int.natAbs_mul]; exact Nat.le_mul_of_pos_left _ (by grind)
theorem E2_of_1 {X : Nat → Nat → Int} {e : Nat} (h : E1 X e) : E2 X (2 * (e * e)) := fun i j k l => by
  have h1 := natAbs_prod_le (h i k) (h j l)
  have h2 := natAbs_prod_le (h i l) (h j k)
  have := nsub (X i k * X j l) (X i l * X j k)
  unfold m2; lia
theorem E3_of_1 {X : Nat → Nat → Int} {e : Nat} (h : E1 X e) : E3 X (6 * (e * e * e)) := fun i j k a b c => by
  have t : ∀ i j k l, (X i k * X j l - X i l * X j k).natAbs ≤ 2 * (e * e) := E2_of_1 h
  have h1 := natAbs_prod_le (h i a) (t j k b c)
  have h2 := natAbs_prod_le (h i b) (t j k a c)
  have h3 := natAbs_prod_le (h i c) (t j k a b)
  have e1 : e * (2 * (e * e)) = 2 * (e * e * e) := by rw [Nat.mul_left_comm, ← Nat.mul_assoc e e e]
  rw [e1] at h1 h2 h3
  unfold m3 det3
  have s1 := nsub (X i a * (X j b * X k c - X j c * X k b)) (X i b * (X j a * X k c - X j c * X k a))
  have s2 := nadd (X i a * (X j b * X k c - X j c * X k b) - X i b * (X j a * X k c - X j c * X k a)) (X i c * (X j a * X k b - X j b * X k a))
  lia
theorem core_E2 {m n : Nat} {B S : Nat → Nat → Int} {e : Nat} (hm : m ≤ 3) (hn : n ≤ 3) (hB : ∀ i j, i < m → j < n → (B i j).natAbs ≤ e) (x : Core m n B 1 S) : E2 (blk S 1 m n) (6 * (e * e * e)) := by
  by_cases h : m = 3 ∧ n = 3
  · obtain ⟨rfl, rfl⟩ := h
    have hb : E1 (blk B 0 3 3) e := fun i j => by
      by_cases g : 0 + i < 3 ∧ 0 + j < 3
      · rw [blk_at g.1 g.2]; exact hB _ _ g.1 g.2
      · rw [blk_out g]; simp
    have h3 := E3_of_1 hb 0 1 2 0 1 2
    have eb : m3 (blk B 0 3 3) 0 1 2 0 1 2 = m3 B 0 1 2 0 1 2 := rfl
    rw [eb] at h3
    refine E2_22 (fun i j hj => blk_out (by lia)) (fun i j hi => blk_out (by lia)) ?_
    exact core_det x h3
  · by_cases hm' : m ≤ 2
    · exact (E2_row1 fun i j hi => blk_out (by lia)).mono (Nat.zero_le _)
    · exact (E2_col1 fun i j hi => blk_out (by lia)).mono (Nat.zero_le _)
/-- two kinds of numbers -/
noncomputable def parK (ep J T b : Nat) : Par := { ep, J, T, bl := fun _ _ => b, c := fun _ => b + 1 }
noncomputable def parU (ep J T a : Nat) : Par := { ep, J, T, bl := fun j k => a + 3 * (J - j) + be k, c := fun j => a + 3 * (J - j) + 3 }
theorem be_le (k : Nat) : be k ≤ 2 := by unfold be; split <;> decide
theorem grow_K {ep J T b m n step W0 : Nat} {B : Nat → Nat → Int} (h3 : W0 + 3 ≤ 2 ^ b) (h : ∀ S, Core m n B step S → E2 (blk S step m n) W0) : Grow (parK ep J T b) m n B step := by
  intro S W g j k j' k' hg co _ hW _ _
  exact ⟨max W W0, Nat.le_max_left _ _, (h S co).mono (Nat.le_max_right _ _), by
    show max W W0 + 3 ≤ 2 ^ b
    have : W + 3 ≤ 2 ^ b := hW
    grind⟩
theorem grow_U {ep J T a m n step : Nat} {B : Nat → Nat → Int} : Grow (parU ep J T a) m n B step := by
  intro S W g j k j' k' hg co he hW tra hj
  refine ⟨2 ^ g * W, Nat.le_mul_of_pos_left _ (Nat.two_pow_pos _), he, ?_⟩
  have hW' : W + 3 ≤ 2 ^ (a + 3 * (J - j) + be k) := hW
  have hj' : j ≤ J := hj
  show 2 ^ g * W + 3 ≤ 2 ^ (a + 3 * (J - j') + be k')
  have h1 : 2 ^ g * (W + 3) ≤ 2 ^ g * 2 ^ (a + 3 * (J - j) + be k) := Nat.mul_le_mul_left _ hW'
  rw [← Nat.pow_add, Nat.mul_add] at h1
  have h2 : 1 * 3 ≤ 2 ^ g * 3 := Nat.mul_le_mul_right _ (Nat.two_pow_pos g)
  have h3 : 2 ^ (g + (a + 3 * (J - j) + be k)) ≤ 2 ^ (a + 3 * (J - j') + be k') := by
    refine pow_le ?_
    have := be_le k
    rcases tra with ⟨e, h⟩ | h
    · subst e; lia
    · grind
  lia
theorem psi_K (b : Nat) : ∀ j, PsiS (fun _ => b + 1) j = 5 * (b + 1) * j
  | 0 => rfl
  | j + 1 => by unfold PsiS; rw [psi_K b j]; exact (Nat.mul_succ _ _).symm
theorem psi_U (a J : Nat) : ∀ j, j ≤ J → 2 * PsiS (fun j => a + 3 * (J - j) + 3) j + 15 * (j * j) = 5 * (j * (2 * a + 6 * J + 9))
  | 0, _ => by unfold PsiS; simp
  | j + 1, h => by
    have ih := psi_U a J j (by exact Nat.le_of_lt (by assumption))
    unfold PsiS
    obtain ⟨d, rfl⟩ : ∃ d, J = j + d := ⟨J - j, by lia⟩
    rw [show j + d - j = d by lia]
    generalize PsiS (fun x => a + 3 * (j + d - x) + 3) j = p at *
    grind
end Mine
namespace Mine
theorem unit_le (i j : Nat) : (unitM' i j).natAbs ≤ 1 := by unfold unitM'; split <;> simp
theorem init {m n P0 e0 ep0 T0 E : Nat} {p1 p2 : Par} {B : Nat → Nat → Int} (x : Pl m n B P0 e0 ep0 T0 p1 p2) (hB : ∀ i j, i < m → j < n → (B i j).natAbs ≤ E) (h1 : E ≤ 2 ^ ep0) (h2 : 2 * (E * E) ≤ 2 ^ e0) (h3 : 6 * (E * E * E) ≤ 2 ^ e0)
    (hP : (∀ i j, i < m → j < n → B i j = 0) ∨ ∃ i j, i < m ∧ j < n ∧ B i j ≠ 0 ∧ (B i j).natAbs ≤ P0) (hT : ep0 + (e0 + 9 * P0 + 12) * (2 * P0 + 2) ≤ T0) : ∃ k, II B P0 e0 ep0 T0 p1 p2 m n k 0 B unitM' unitM' := by
  have l1 := x.l1
  have l2 := x.l2
  have hb : E1 (blk B 0 m n) E := fun i j => by
    by_cases g : 0 + i < m ∧ 0 + j < n
    · rw [blk_at g.1 g.2]; exact hB _ _ g.1 g.2
    · rw [blk_out g]; simp
  have bz : (∀ i j, i < m → j < n → B i j = 0) → ∀ i j, blk B 0 m n i j = 0 := fun h i j => by
    by_cases g : 0 + i < m ∧ 0 + j < n
    · rw [blk_at g.1 g.2]; exact h _ _ g.1 g.2
    · exact blk_out g
  have bp : ∀ i j, i < m → j < n → blk B 0 m n i j = B i j := fun i j hi hj => by
    rw [blk_at (by lia) (by lia), Nat.zero_add, Nat.zero_add]
  refine ⟨(3 - 0) * 1000000 + (2 * P0 + 2), ⟨.refl _ _ _, fun i hi => absurd hi (Nat.not_lt_zero _), fun i hi => absurd hi (Nat.not_lt_zero _), fun i hi => absurd hi (Nat.not_lt_zero _), fun i hi => absurd hi (Nat.not_lt_zero _), Nat.zero_le _⟩, fun hs => ⟨2 * P0 + 2, x.mu, rfl, e0, 2 ^ ep0, ep0, ?_, (E3_of_1 hb).mono h3, .inl ⟨rfl, Nat.le_refl _, ?_⟩, hT⟩⟩
  · have hmul : (e0 + 9 * P0 + 12) * 1 ≤ (e0 + 9 * P0 + 12) * (2 * P0 + 2) := Nat.mul_le_mul_left _ (by solve_by_elim (maxDepth := 3) only [*, Nat.le_of_lt, Nat.lt_of_lt_of_le, Nat.lt_of_le_of_lt, Nat.le_trans, Nat.pos_of_ne_zero, Nat.ne_of_gt, Nat.le_refl, Nat.lt_trans, Nat.succ_ne_zero, Nat.le_add_right, Nat.ne_of_lt, Ne.symm, Nat.succ_le_of_lt, Nat.lt_irrefl, absurd])
    exact {
      e1 := hb.mono (by lia)
      e2 := (E2_of_1 hb).mono h2
      pe := hP.imp bz fun ⟨i, j, a1, a2, a3, _⟩ => ⟨i, j, by rw [bp i j a1 a2]; exact a3, Nat.le_trans (hb i j) h1⟩
      P1 := Nat.two_pow_pos _
      uv := ⟨fun r c _ _ => Nat.le_trans (Nat.mul_le_mul_right _ (unit_le r c)) (by simp +arith only [*]), fun r c _ _ => Nat.le_trans (Nat.mul_le_mul_right _ (unit_le r c)) (by simp +arith only [*])⟩
      hW := pw3 _
      hP := Nat.le_refl _
      lim := by lia
      lim2 := by lia }
  · exact hP.imp bz fun ⟨i, j, a1, a2, a3, a4⟩ => ⟨i, j, by rw [bp i j a1 a2]; exact a3, by rw [bp i j a1 a2]; exact a4⟩
/-- deeds and sizes -/
theorem RowDeed.size {m n e : Nat} {Y Z : Nat → Nat → Int} (h : RowDeed m Y Z) (hY : ∀ i j, i < m → j < n → (Y i j).natAbs ≤ e) : ∀ i j, i < m → j < n → (Z i j).natAbs ≤ 4 * e := by
  intro i j hi hj
  cases h with
  | swap h1 h2 =>
    have := hY _ j (swp_lt h1 h2 hi) hj
    show (Y (swp _ _ i) j).natAbs ≤ 4 * e
    lia
  | neg h1 =>
    have := hY i j hi hj
    unfold setRow; split
    · rename_i e; subst e; dsimp only; omega
    · lia
  | @add a b t h1 h2 h3 h4 =>
    have := hY i j hi hj
    unfold setRow; split
    · rename_i e; subst e
      have k1 := natAbs_prod_le h4 (hY _ j h2 hj)
      have k2 := nadd (Y i j) (t * Y b j)
      dsimp only
      exact Nat.le_trans k2 (by lia)
    · lia
  | same => have := hY i j hi hj; lia
theorem deed_small {m n e : Nat} {Y Z : Nat → Nat → Int} (h : RowDeed m Y Z) (hY : ∀ i j, i < m → j < n → (Y i j).natAbs ≤ e) : (∀ i j, i < m → j < n → Z i j = 0) ∨ ∃ i j, i < m ∧ j < n ∧ Z i j ≠ 0 ∧ (Z i j).natAbs ≤ e := by
  refine (Classical.em (∀ i j, i < m → j < n → Z i j = 0)).imp id fun h0 => ?_
  refine Classical.byContradiction fun g => h0 fun i j hi hj => Classical.byContradiction fun hz => ?_
  have big : ∀ i j, i < m → j < n → Z i j = 0 ∨ ¬ (Z i j).natAbs ≤ e := fun i j hi hj => (Classical.em (Z i j = 0)).imp id fun a b => g ⟨i, j, hi, hj, a, b⟩
  cases h with
  | swap h1 h2 =>
    exact (big i j hi hj).elim hz fun q => q (hY _ j (swp_lt h1 h2 hi) hj)
  | neg h1 =>
    refine (big i j hi hj).elim hz fun q => q ?_
    have := hY i j hi hj
    unfold setRow; split
    · rename_i e; subst e; dsimp only; omega
    · exact this
  | @add a b t h1 h2 h3 h4 =>
    have hb : ∀ c, c < n → Y b c = 0 := fun c hc => by
      have q := big b c h2 hc
      unfold setRow at q
      rw [if_neg (Ne.symm h3)] at q
      exact q.elim id fun q => absurd (hY b c h2 hc) q
    refine (big i j hi hj).elim hz fun q => q ?_
    unfold setRow; split
    · rename_i e; subst e
      dsimp only
      rw [hb j hj, Int.mul_zero, Int.add_zero]; exact hY i j hi hj
    · exact hY i j hi hj
  | same => exact (big i j hi hj).elim hz fun q => q (hY i j hi hj)
theorem DeedsN.size {m n k e : Nat} {X Y : Nat → Nat → Int} (h : DeedsN m X k Y) (hX : ∀ i j, i < m → j < n → (X i j).natAbs ≤ e) : ∀ i j, i < m → j < n → (Y i j).natAbs ≤ 4 ^ k * e := by
  induction h with
  | zero => intro i j hi hj; simpa using hX i j hi hj
  | succ d r ih =>
    intro i j hi hj
    have := r.size ih i j hi hj
    rw [Nat.pow_succ]
    rwa [Nat.mul_comm (4 ^ _) 4, Nat.mul_assoc]
theorem DeedsN.last {m k : Nat} {X Y : Nat → Nat → Int} (h : DeedsN m X (k + 1) Y) : ∃ Y', DeedsN m X k Y' ∧ RowDeed m Y' Y := by
  cases h with
  | succ d r => exact ⟨_, d, r⟩
theorem hangS_zero {m n : Nat} {Y : Nat → Nat → Int} {t : Nat → Int} (h : ∀ i j, i < m → j < n → Y i j = 0) : ∀ k c, k ≤ m → c < n → hangS Y t k c = 0
  | 0, c, _, _ => rfl
  | k + 1, c, hk, hc => by unfold hangS; rw [hangS_zero h k c (by exact Nat.le_of_lt (by assumption)) hc, h k c (by assumption) hc]; simp
/-- the numbers -/
theorem bigK1 : 5 ^ 52750 * 2 ^ 13875 ≤ 6 ^ 52750 := by decide +kernel
theorem bigK2 : 5 ^ 52754 * 2 ^ 13876 ≤ 6 ^ 52754 := by decide +kernel
theorem bigU1 : 5 ^ 3464 * 2 ^ 911 ≤ 6 ^ 3464 := by decide +kernel
theorem bigU2 : 5 ^ 42991 * 2 ^ 11308 ≤ 6 ^ 42991 := by decide +kernel
theorem okK {ep J T b : Nat} (h1 : b + ep + T ≤ 134217726) (h2 : 2 * (b + ep) ≤ 134217726) (h3 : 5 ^ J * 2 ^ ep ≤ 6 ^ J) (h4 : 5 * J + 5 < 1000000) : ParOk (parK ep J T b) :=
  ⟨fun j k h => Nat.le_refl _, fun j k h => h1, fun j k h => h2, h3, h4⟩
theorem okU {ep J T a : Nat} (h1 : a + 3 * J + 2 + ep + T ≤ 134217726) (h2 : 2 * (a + 3 * J + 2 + ep) ≤ 134217726) (h3 : 5 ^ J * 2 ^ ep ≤ 6 ^ J) (h4 : 5 * J + 5 < 1000000) : ParOk (parU ep J T a) :=
  ⟨fun j k h => by have := be_le k; show a + 3 * (J - j) + be k + 1 ≤ a + 3 * (J - j) + 3; (simp +arith only [*]), fun j k h => by have := be_le k; show a + 3 * (J - j) + be k + ep + T ≤ _; lia,
    fun j k h => by have := be_le k; show 2 * (a + 3 * (J - j) + be k + ep) ≤ _; lia, h3, h4⟩
theorem psiK' (ep J T b : Nat) : Psi (parK ep J T b).c (parK ep J T b).J 5 = 5 * (b + 1) * J + 5 * (b + 1) := by
  show PsiS (fun _ => b + 1) J + 5 * (b + 1) = _
  rw [psi_K]
theorem psiU' (ep J T a : Nat) : 2 * Psi (parU ep J T a).c (parU ep J T a).J 5 + 15 * (J * J) = 5 * (J * (2 * a + 6 * J + 9)) + 10 * (a + 3) := by
  have h := psi_U a J J (Nat.le_refl _)
  show 2 * (PsiS (fun j => a + 3 * (J - j) + 3) J + 5 * (a + 3 * (J - J) + 3)) + _ = _
  rw [Nat.sub_self]
  (simp +arith only [*])
theorem col2 {m n : Nat} {B : Nat → Nat → Int} (hn : n ≤ 3) : ∀ S, Core m n B 2 S → E2 (blk S 2 m n) 0 := fun S _ => E2_col1 fun i j hj => blk_out (by lia)
theorem plK {m n : Nat} {B : Nat → Nat → Int} (hm : m ≤ 3) (hn : n ≤ 3) (hB : ∀ i j, i < m → j < n → (B i j).natAbs ≤ 6144) : Pl m n B 1536 41 13 42657911 (parK 13875 52750 53749496 41) (parK 13876 52754 54554697 2) where
  hm := by solve_by_elim (maxDepth := 3) only [*, Nat.le_of_lt, Nat.lt_of_lt_of_le, Nat.lt_of_le_of_lt, Nat.le_trans, Nat.pos_of_ne_zero, Nat.ne_of_gt, Nat.le_refl, Nat.lt_trans, Nat.succ_ne_zero, Nat.le_add_right, Nat.ne_of_lt, Ne.symm, Nat.succ_le_of_lt, Nat.lt_irrefl, absurd]
  hn := hn
  ok1 := okK (by decide) (by decide) bigK1 (by decide)
  ok2 := okK (by decide) (by decide) bigK2 (by decide)
  gr1 := grow_K (W0 := 6 * (6144 * 6144 * 6144)) (by decide) fun S x => core_E2 hm hn hB x
  gr2 := grow_K (W0 := 0) (by decide) (col2 hn)
  l1 := by decide
  l2 := by decide
  in1 := by rw [psiK']; decide
  in2 := by rw [psiK']; decide
  e1 := by decide
  e0' := by decide
  e2 := fun j k _ => by show 41 + 1 ≤ 13876; decide
  e2' := by decide
  s1 := fun x _ => ⟨_, core_E2 hm hn hB x, by show _ ≤ 2 ^ 41; decide⟩
  s2 := fun x => ⟨_, col2 hn _ x, by show _ ≤ 2 ^ 2; decide⟩
  mu := by decide
theorem s_grow {E a : Nat} (h : E + 3 ≤ a) : 5 * 2 ^ E + 3 ≤ 2 ^ a := by
  have h1 := pow_le h
  rw [Nat.pow_add] at h1
  have := Nat.two_pow_pos E
  lia
end Mine
namespace Mine
theorem parU_bl (ep J T a : Nat) : (parU ep J T a).bl (parU ep J T a).J 5 = a := by
  show a + 3 * (J - J) + 0 = a
  rw [Nat.sub_self]; rfl
theorem plU {m n : Nat} {B : Nat → Nat → Int} (hm : m ≤ 4) (hn : n ≤ 3) : Pl m n B 96 37 12 177134 (parU 911 3464 106068445 913) (parK 11308 42991 106724633 2) where
  hm := hm
  hn := hn
  ok1 := okU (by decide) (by decide) bigU1 (by decide)
  ok2 := okK (by decide) (by decide) bigU2 (by decide)
  gr1 := grow_U
  gr2 := grow_K (W0 := 0) (by decide) (col2 hn)
  l1 := by decide
  l2 := by decide
  in1 := by
    have h := psiU' 911 3464 106068445 913
    have e1 : (parU 911 3464 106068445 913).ep = 911 := rfl
    have e2 : (parU 911 3464 106068445 913).T = 106068445 := rfl
    rw [e1, e2]
    lia
  in2 := by rw [psiK']; decide
  e1 := by decide
  e0' := by decide
  e2 := fun j k _ => by have := be_le k; show 913 + 3 * (3464 - j) + be k + 1 ≤ 11308; lia
  e2' := by decide
  s1 := fun x h => ⟨_, h, by rw [parU_bl]; exact s_grow (by decide)⟩
  s2 := fun x => ⟨_, col2 hn _ x, by show _ ≤ 2 ^ 2; decide⟩
  mu := by decide
/-- S is a form of B with divisors, and the sizes are small -/
noncomputable def SOx (m n : Nat) (B S : Nat → Nat → Int) : Prop := m ≤ 4 ∧ n ≤ 3 ∧ SOf m n B S
theorem planx {m n : Nat} {B : Nat → Nat → Int} {fits : Int → Int → Prop} {I : Nat → Nat → (Nat → Nat → Int) → (Nat → Nat → Int) → (Nat → Nat → Int) → Prop} (hm : m ≤ 4) (hn : n ≤ 3) (x : SPlan fits m n I (SOf m n B)) : SPlan fits m n I (SOx m n B) :=
  ⟨fun i h => ⟨hm, hn, x.fin i h⟩, x.le, x.fit, x.undone, x.undiv, x.next⟩
theorem maths_of {fits : Int → Int → Prop} (F : ∀ {a b : Int} {k l : Nat}, a.natAbs ≤ 2 ^ k → b.natAbs ≤ 2 ^ l → k + l ≤ 134217726 → fits a b) : Maths fits SOx where
  herm := fun d h h' => herm_law d h h'
  hang := fun d h h' => hang_law d h h'
  size3 := fun {m n k X Y} hk hX d i j hi hj => by
    have h := d.size hX i j hi hj
    have : 4 ^ k ≤ 4 ^ 3 := Nat.pow_le_pow_right (by solve_by_elim (maxDepth := 3) only [*, Nat.le_of_lt, Nat.lt_of_lt_of_le, Nat.lt_of_le_of_lt, Nat.le_trans, Nat.pos_of_ne_zero, Nat.ne_of_gt, Nat.le_refl, Nat.lt_trans, Nat.succ_ne_zero, Nat.le_add_right, Nat.ne_of_lt, Ne.symm, Nat.succ_le_of_lt, Nat.lt_irrefl, absurd]) hk
    have := Nat.mul_le_mul_right 6 this
    lia
  plan1 := fun {m n X} m1 m3 n1 n3 hX => by
    have P := plK (B := X) m3 n3 fun i j hi hj => Nat.le_trans (hX i j hi hj) (by decide)
    have hP : (∀ i j, i < m → j < n → X i j = 0) ∨ ∃ i j, i < m ∧ j < n ∧ X i j ≠ 0 ∧ (X i j).natAbs ≤ 1536 := by
      refine (Classical.em (∀ i j, i < m → j < n → X i j = 0)).imp id fun h0 => ?_
      refine Classical.byContradiction fun g => h0 fun i j hi hj => Classical.byContradiction fun hz => g ⟨i, j, hi, hj, hz, Nat.le_trans (hX i j hi hj) (by decide)⟩
    obtain ⟨k, hk⟩ := init P (E := 6144) (fun i j hi hj => Nat.le_trans (hX i j hi hj) (by decide)) (by decide) (by decide) (by decide) hP (by decide)
    exact ⟨_, k, planx (by solve_by_elim (maxDepth := 3) only [*, Nat.le_of_lt, Nat.lt_of_lt_of_le, Nat.lt_of_le_of_lt, Nat.le_trans, Nat.pos_of_ne_zero, Nat.ne_of_gt, Nat.le_refl, Nat.lt_trans, Nat.succ_ne_zero, Nat.le_add_right, Nat.ne_of_lt, Ne.symm, Nat.succ_le_of_lt, Nat.lt_irrefl, absurd]) n3 (plan_of F P), hk⟩
  plan2 := fun {m n X Y t} m1 m3 n1 n3 hX d ht => by
    have P := plU (m := m + 1) (B := hangM m Y t) (by exact Nat.lt_of_le_of_lt (by assumption) (by decide)) n3
    obtain ⟨Y', d', r⟩ := d.last
    have s2 : ∀ i j, i < m → j < n → (Y' i j).natAbs ≤ 96 := d'.size hX
    have s3 : ∀ i j, i < m → j < n → (Y i j).natAbs ≤ 384 := d.size hX
    have hP : (∀ i j, i < m + 1 → j < n → hangM m Y t i j = 0) ∨ ∃ i j, i < m + 1 ∧ j < n ∧ hangM m Y t i j ≠ 0 ∧ (hangM m Y t i j).natAbs ≤ 96 := by
      refine (deed_small r s2).imp (fun h i j hi hj => ?_) fun ⟨i, j, hi, hj, h1, h2⟩ => ⟨i, j, by solve_by_elim (maxDepth := 3) only [*, Nat.le_of_lt, Nat.lt_of_lt_of_le, Nat.lt_of_le_of_lt, Nat.le_trans, Nat.pos_of_ne_zero, Nat.ne_of_gt, Nat.le_refl, Nat.lt_trans, Nat.succ_ne_zero, Nat.le_add_right, Nat.ne_of_lt, Ne.symm, Nat.succ_le_of_lt, Nat.lt_irrefl, absurd], hj, by unfold hangM; rw [if_pos hi]; exact h1, by unfold hangM; rw [if_pos hi]; exact h2⟩
      unfold hangM; split
      · exact h i j (by assumption) hj
      · exact hangS_zero h m j (Nat.le_refl _) hj
    obtain ⟨k, hk⟩ := init P (E := 2304) (hangM_size m3 s3 ht) (by decide) (by decide) (by decide) hP (by decide)
    exact ⟨_, k, planx (by exact Nat.lt_of_le_of_lt (by assumption) (by decide)) n3 (plan_of F P), hk⟩
  plan3 := fun {m n X Y Z} m1 m3 n1 n3 hX d d2 => by
    have s3 : ∀ i j, i < n → j < m → (Y j i).natAbs ≤ 384 := fun i j hi hj => d.size hX j i hj hi
    obtain ⟨Z', d', r⟩ := d2.last
    have z1 : ∀ i j, i < n → j < m → (Z' i j).natAbs ≤ 1536 := d'.size s3
    have z2 : ∀ i j, i < n → j < m → (Z i j).natAbs ≤ 6144 := d2.size s3
    have P := plK (m := n) (n := m) (B := Z) n3 m3 z2
    obtain ⟨k, hk⟩ := init P (E := 6144) z2 (by decide) (by decide) (by decide) (deed_small r z1) (by decide)
    exact ⟨_, k, planx (by solve_by_elim (maxDepth := 3) only [*, Nat.le_of_lt, Nat.lt_of_lt_of_le, Nat.lt_of_le_of_lt, Nat.le_trans, Nat.pos_of_ne_zero, Nat.ne_of_gt, Nat.le_refl, Nat.lt_trans, Nat.succ_ne_zero, Nat.le_add_right, Nat.ne_of_lt, Ne.symm, Nat.succ_le_of_lt, Nat.lt_irrefl, absurd]) m3 (plan_of F P), hk⟩
  same2 := fun {m n X Y t S S'} d x x' => smith_same2 x.2.1 (by have := x'.1; lia) d x.2.2 x'.2.2
  same3 := fun {m n X Y Z S S'} d d2 x x' => smith_same3 x'.2.1 x.2.1 d d2 x.2.2 x'.2.2
end Mine
open PySem PySem.W PyProof.Rows PySem.Calls
namespace Mine
/-- same but for the heap and the counter of tokens -/
noncomputable def Same (s s' : Shared) : Prop := s'.gens = s.gens ∧ s'.drawn = s.drawn ∧ s'.os = s.os
theorem Same.refl (s : Shared) : Same s s := ⟨rfl, rfl, rfl⟩
theorem Same.trans {a b c : Shared} (x : Same a b) (y : Same b c) : Same a c :=
  ⟨y.1.trans x.1, y.2.1.trans x.2.1, y.2.2.trans x.2.2⟩
section
variable {prog : Program} {w : World} {A : Around} {α β : Type}
/-- the tree t, begun at the heap h, ends without raising, and Q holds of its value and its heap -/
noncomputable def Tr (prog : Program) (w : World) (A : Around) (t : Sem α) (h : Heap) (Q : α → Heap → Prop) : Prop :=
  ∀ s : Shared, s.heap = h → wpAny (model prog w) A t (fun a s' => Same s s' ∧ Q a s'.heap) (fun _ _ => False) s
noncomputable def TrC (prog : Program) (w : World) (A : Around) (c : Code) (h : Heap) (Q : Flow → Heap → Prop) : Prop :=
  ∀ s : Shared, s.heap = h → codeAny (model prog w) A c (fun r s' => match r with | .ok f => Same s s' ∧ Q f s'.heap | .error _ => False) s
theorem Tr.mono {t : Sem α} {h : Heap} {Q Q' : α → Heap → Prop} (x : Tr prog w A t h Q) (f : ∀ a h', Q a h' → Q' a h') : Tr prog w A t h Q' :=
  fun s e => wpAny_mono (x s e) (fun _ _ q => ⟨q.1, f _ _ q.2⟩) fun _ _ q => q
theorem Tr.wp {t : Sem α} {s s₀ : Shared} {Q : α → Heap → Prop} {Q' : α → Shared → Prop} {E : Value → Shared → Prop} (x : Tr prog w A t s.heap Q) (h0 : Same s₀ s)
    (f : ∀ a s', Same s₀ s' → Q a s'.heap → Q' a s') : wpAny (model prog w) A t Q' E s :=
  wpAny_mono (x s rfl) (fun _ _ q => f _ _ (h0.trans q.1) q.2) fun _ _ q => q.elim
theorem T_pure {a : α} {h : Heap} {Q : α → Heap → Prop} (q : Q a h) : Tr prog w A (pure a) h Q := fun s e => wpAny_pure ⟨Same.refl s, e ▸ q⟩
theorem T_bind {m : Sem α} {f : α → Sem β} {h : Heap} {Q : β → Heap → Prop} (x : Tr prog w A m h (fun a h' => Tr prog w A (f a) h' Q)) : Tr prog w A (m >>= f) h Q :=
  fun s e => wpAny_bind (wpAny_mono (x s e) (fun _ s' q => wpAny_mono (q.2 s' rfl) (fun _ _ r => ⟨q.1.trans r.1, r.2⟩) fun _ _ r => r) fun _ _ q => q)
theorem TrC.mono {c : Code} {h : Heap} {Q Q' : Flow → Heap → Prop} (x : TrC prog w A c h Q) (f : ∀ a h', Q a h' → Q' a h') : TrC prog w A c h Q' :=
  fun s e => codeAny_mono (x s e) fun r s' q => by cases r with | ok a => exact ⟨q.1, f _ _ q.2⟩ | error _ => exact q
/-- out of a rule of the library that hands on states -/
theorem Tr.of {t : Sem α} {h : Heap} {Q : α → Heap → Prop} (x : ∀ s : Shared, s.heap = h → wpAny (model prog w) A t (fun a s' => Same s s' ∧ Q a s'.heap) (fun _ _ => False) s) : Tr prog w A t h Q := x
end
section
variable (prog : Program) (w : World) (A : Around)
/-- named posts: they keep the terms small -/
noncomputable abbrev KNx {α : Type} (Q : Flow → Heap → Prop) : α → Heap → Prop := fun _ h' => Q .next h'
noncomputable abbrev KRet (Q : Flow → Heap → Prop) : Value → Heap → Prop := fun v h' => Q (.ret v) h'
noncomputable abbrev KRest (env : Env) (rest : List Stmt) (Q : Flow → Heap → Prop) : Flow → Heap → Prop := fun f h' => match f with | .next => Tr prog w A (execs rest env) h' Q | f => Q f h'
noncomputable abbrev KStore (env : Env) (x : Str) (Q : Flow → Heap → Prop) : Value → Heap → Prop := fun v h' => Tr prog w A (storeName env x v) h' (KNx Q)
noncomputable abbrev KAsT (env : Env) (t : Expr) (Q : Flow → Heap → Prop) : Value → Heap → Prop := fun v h' => Tr prog w A (assign t env v) h' (KNx Q)
noncomputable abbrev KAs3 (v ov : Value) (Q : Flow → Heap → Prop) : Value → Heap → Prop := fun iv h3 => Tr prog w A (setItem ov iv v) h3 (KNx Q)
noncomputable abbrev KAs2 (env : Env) (i : Expr) (v : Value) (Q : Flow → Heap → Prop) : Value → Heap → Prop := fun ov h2 => Tr prog w A (eval i env) h2 (KAs3 prog w A v ov Q)
noncomputable abbrev KAs1 (env : Env) (o i : Expr) (Q : Flow → Heap → Prop) : Value → Heap → Prop := fun v h1 => Tr prog w A (eval o env) h1 (KAs2 prog w A env i v Q)
noncomputable abbrev KBin2 (op : Operator) (a : Value) (Q : Value → Heap → Prop) : Value → Heap → Prop := fun b h2 => Tr prog w A (binaryOp op a b) h2 Q
noncomputable abbrev KBin (env : Env) (r : Expr) (op : Operator) (Q : Value → Heap → Prop) : Value → Heap → Prop := fun a h1 => Tr prog w A (eval r env) h1 (KBin2 prog w A op a Q)
noncomputable abbrev KUn (op : UnaryOp) (Q : Value → Heap → Prop) : Value → Heap → Prop := fun v h' => Tr prog w A (unaryOp op v) h' Q
noncomputable abbrev KCmp2 (op : CmpOp) (a : Value) (Q : Value → Heap → Prop) : Value → Heap → Prop := fun b h2 => Tr prog w A (compareOp op a b) h2 Q
noncomputable abbrev KCmp (env : Env) (r : Expr) (op : CmpOp) (Q : Value → Heap → Prop) : Value → Heap → Prop := fun a h1 => Tr prog w A (eval r env) h1 (KCmp2 prog w A op a Q)
noncomputable abbrev KTru (Q : Bool → Heap → Prop) : Value → Heap → Prop := fun c h3 => Tr prog w A (truthy c) h3 Q
noncomputable abbrev KSub2 (value slice : Expr) (o : Value) (Q : Value → Heap → Prop) : Value → Heap → Prop := fun i h2 => Tr prog w A (subscriptTail value slice o i) h2 Q
noncomputable abbrev KSub (env : Env) (value slice : Expr) (Q : Value → Heap → Prop) : Value → Heap → Prop := fun o h1 => Tr prog w A (eval slice env) h1 (KSub2 prog w A value slice o Q)
end
section
variable {prog : Program} {w : World} {A : Around} {env : Env} {h : Heap}
theorem T_nil {Q : Flow → Heap → Prop} (q : Q .next h) : Tr prog w A (execs [] env) h Q := fun s e => wpAny_execs_nil ⟨Same.refl s, e ▸ q⟩
theorem T_cons {st : Stmt} {rest : List Stmt} {Q : Flow → Heap → Prop}
    (x : Tr prog w A (exec st env) h (KRest prog w A env rest Q)) : Tr prog w A (execs (st :: rest) env) h Q :=
  fun s e => wpAny_execs_cons (wpAny_mono (x s e) (fun f s' q => by
    cases f with
    | next => exact wpAny_mono (q.2 s' rfl) (fun _ _ r => ⟨q.1.trans r.1, r.2⟩) fun _ _ r => r
    | _ => exact q) fun _ _ q => q)
theorem T_if {test : Expr} {body orelse : List Stmt} {pos : Pos} {Q : Flow → Heap → Prop}
    (x : Tr prog w A (isTrue test env (eval test env)) h (fun b h' => if b = true then Tr prog w A (execs body env) h' Q else Tr prog w A (execs orelse env) h' Q)) :
    Tr prog w A (exec (.If test body orelse pos) env) h Q :=
  fun s e => wpAny_If (wpAny_mono (x s e) (fun b s' q => by
    cases b with
    | true => simp only [if_true] at q ⊢; exact wpAny_mono (q.2 s' rfl) (fun _ _ r => ⟨q.1.trans r.1, r.2⟩) fun _ _ r => r
    | false => simp only [Bool.false_eq_true, if_false] at q ⊢; exact wpAny_mono (q.2 s' rfl) (fun _ _ r => ⟨q.1.trans r.1, r.2⟩) fun _ _ r => r) fun _ _ q => q)
theorem T_ret {e : Expr} {pos : Pos} {Q : Flow → Heap → Prop} (x : Tr prog w A (eval e env) h (KRet Q)) : Tr prog w A (exec (.Return (some e) pos) env) h Q :=
  fun s e => wpAny_Return_some (x s e)
theorem T_expr {e : Expr} {pos : Pos} {Q : Flow → Heap → Prop} (x : Tr prog w A (eval e env) h (KNx Q))
    (h1 : interactive env = false := by rfl) (h2 : swapsWith e none pos.line env = pure false := by rfl) : Tr prog w A (exec (.Expr e pos) env) h Q :=
  fun s e => wpAny_Expr_any (x s e) h1 h2
theorem T_brk {pos : Pos} {Q : Flow → Heap → Prop} (q : Q .brk h) : Tr prog w A (exec (.Break pos) env) h Q := fun s e => wpAny_Break ⟨Same.refl s, e ▸ q⟩
theorem T_cont {pos : Pos} {Q : Flow → Heap → Prop} (q : Q .cont h) : Tr prog w A (exec (.Continue pos) env) h Q := fun s e => wpAny_Continue ⟨Same.refl s, e ▸ q⟩
theorem T_asName {x : Str} {pos' : Pos} {value : Expr} {pos : Pos} {Q : Flow → Heap → Prop}
    (q : Tr prog w A (eval value env) h (KStore prog w A env x Q))
    (h2 : swapsWith value (some (.Name x pos')) pos.line env = pure false := by rfl) : Tr prog w A (exec (.Assign [.Name x pos'] value pos) env) h Q :=
  fun s e => wpAny_Assign_Name (wpAny_mono (q s e) (fun _ s' q => wpAny_mono (q.2 s' rfl) (fun _ _ r => ⟨q.1.trans r.1, r.2⟩) fun _ _ r => r) fun _ _ q => q) h2
theorem T_asTuple {elts : List Expr} {k : Nat} {tpos : Pos} {value : Expr} {pos : Pos} {Q : Flow → Heap → Prop}
    (q : Tr prog w A (eval value env) h (KAsT prog w A env (.Tuple elts k tpos) Q))
    (h2 : swapsWithSole [.Tuple elts k tpos] value pos.line env = pure false := by rfl) (h3 : swappedStores [.Tuple elts k tpos] value env = pure none := by rfl) :
    Tr prog w A (exec (.Assign [.Tuple elts k tpos] value pos) env) h Q :=
  fun s e => Assign_Tuple (wpAny_mono (q s e) (fun _ s' q => wpAny_mono (q.2 s' rfl) (fun _ _ r => ⟨q.1.trans r.1, r.2⟩) fun _ _ r => r) fun _ _ q => q) h2 h3
theorem T_asSub {o i : Expr} {pos' : Pos} {value : Expr} {pos : Pos} {Q : Flow → Heap → Prop}
    (q : Tr prog w A (eval value env) h (KAs1 prog w A env o i Q))
    (h2 : swapsWith value (some (.Subscript o i pos')) pos.line env = pure false := by rfl) : Tr prog w A (exec (.Assign [.Subscript o i pos'] value pos) env) h Q :=
  fun s e => wpAny_Assign_Subscript (wpAny_mono (q s e) (fun _ s' q => wpAny_mono (q.2 s' rfl) (fun _ s₂ r => wpAny_mono (r.2 s₂ rfl) (fun _ s₃ t => wpAny_mono (t.2 s₃ rfl) (fun _ _ u => ⟨((q.1.trans r.1).trans t.1).trans u.1, u.2⟩)
    fun _ _ r => r) fun _ _ r => r) fun _ _ r => r) fun _ _ q => q) h2
theorem T_bin {l r : Expr} {op : Operator} {pos : Pos} {Q : Value → Heap → Prop}
    (x : Tr prog w A (eval l env) h (KBin prog w A env r op Q)) : Tr prog w A (eval (.BinOp l op r pos) env) h Q :=
  fun s e => wpAny_BinOp (wpAny_mono (x s e) (fun _ s' q => wpAny_mono (q.2 s' rfl) (fun _ s₂ r => wpAny_mono (r.2 s₂ rfl) (fun _ _ u => ⟨(q.1.trans r.1).trans u.1, u.2⟩) fun _ _ r => r) fun _ _ r => r) fun _ _ q => q)
theorem T_un {op : UnaryOp} {x : Expr} {pos : Pos} {Q : Value → Heap → Prop} (q : Tr prog w A (eval x env) h (KUn prog w A op Q)) : Tr prog w A (eval (.UnaryOp op x pos) env) h Q :=
  fun s e => wpAny_UnaryOp (wpAny_mono (q s e) (fun _ s' q => wpAny_mono (q.2 s' rfl) (fun _ _ r => ⟨q.1.trans r.1, r.2⟩) fun _ _ r => r) fun _ _ q => q)
theorem T_ifexp {test body orelse : Expr} {pos : Pos} {Q : Value → Heap → Prop}
    (x : Tr prog w A (isTrue test env (eval test env)) h (fun b h' => if b = true then Tr prog w A (eval body env) h' Q else Tr prog w A (eval orelse env) h' Q)) :
    Tr prog w A (eval (.IfExp test body orelse pos) env) h Q :=
  fun s e => wpAny_IfExp (wpAny_mono (x s e) (fun b s' q => by
    cases b with
    | true => simp only [if_true] at q ⊢; exact wpAny_mono (q.2 s' rfl) (fun _ _ r => ⟨q.1.trans r.1, r.2⟩) fun _ _ r => r
    | false => simp only [Bool.false_eq_true, if_false] at q ⊢; exact wpAny_mono (q.2 s' rfl) (fun _ _ r => ⟨q.1.trans r.1, r.2⟩) fun _ _ r => r) fun _ _ q => q)
theorem T_cmp {l r : Expr} {op : CmpOp} {pos : Pos} {Q : Value → Heap → Prop}
    (x : Tr prog w A (eval l env) h (KCmp prog w A env r op Q)) (hb : behindInMarks op r = false := by rfl) :
    Tr prog w A (eval (.Compare l [op] [r] pos) env) h Q :=
  fun s e => wpAny_Compare1 (wpAny_mono (x s e) (fun _ s' q => wpAny_mono (q.2 s' rfl) (fun _ s₂ r => wpAny_mono (r.2 s₂ rfl) (fun _ _ u => ⟨(q.1.trans r.1).trans u.1, u.2⟩) fun _ _ r => r) fun _ _ r => r) fun _ _ q => q) hb
theorem T_tcmp {l r : Expr} {op : CmpOp} {pos : Pos} {whole : Sem Value} {Q : Bool → Heap → Prop}
    (x : Tr prog w A (eval l env) h (KCmp prog w A env r op (KTru prog w A Q))) (hb : behindInMarks op r = false := by rfl) :
    Tr prog w A (isTrue (.Compare l [op] [r] pos) env whole) h Q :=
  fun s e => wpAny_isTrue_Compare1 (wpAny_mono (x s e) (fun _ s' q => wpAny_mono (q.2 s' rfl) (fun _ s₂ r => wpAny_mono (r.2 s₂ rfl) (fun _ s₃ t => wpAny_mono (t.2 s₃ rfl) (fun _ _ u => ⟨((q.1.trans r.1).trans t.1).trans u.1, u.2⟩)
    fun _ _ r => r) fun _ _ r => r) fun _ _ r => r) fun _ _ q => q) hb
theorem T_tval {e : Expr} {whole : Sem Value} {Q : Bool → Heap → Prop} (x : Tr prog w A whole h (KTru prog w A Q))
    (hh : isTrue e env whole = (do let v ← whole; standAt e.pos; holding [v] (truthy v)) := by rfl) : Tr prog w A (isTrue e env whole) h Q :=
  fun s e => wpAny_isTrue_value (wpAny_mono (x s e) (fun _ s' q => wpAny_mono (q.2 s' rfl) (fun _ _ r => ⟨q.1.trans r.1, r.2⟩) fun _ _ r => r) fun _ _ q => q) hh
theorem T_tnot {x : Expr} {pos : Pos} {whole : Sem Value} {Q : Bool → Heap → Prop} (q : Tr prog w A (isTrue x env (eval x env)) h (fun b h' => Q (!b) h')) : Tr prog w A (isTrue (.UnaryOp .Not x pos) env whole) h Q :=
  fun s e => wpAny_isTrue_Not (q s e)
theorem T_truthyB {b : Bool} {Q : Bool → Heap → Prop} (q : Q b h) : Tr prog w A (truthy (.bool b)) h Q := fun s e => wpAny_truthy_bool ⟨Same.refl s, e ▸ q⟩
theorem T_sub {value slice : Expr} {pos : Pos} {Q : Value → Heap → Prop}
    (x : Tr prog w A (eval value env) h (KSub prog w A env value slice Q)) : Tr prog w A (eval (.Subscript value slice pos) env) h Q :=
  fun s e => Subscript_ (wpAny_mono (x s e) (fun _ s' q => wpAny_mono (q.2 s' rfl) (fun _ s₂ r => wpAny_mono (r.2 s₂ rfl) (fun _ _ u => ⟨(q.1.trans r.1).trans u.1, u.2⟩) fun _ _ r => r) fun _ _ r => r) fun _ _ q => q)
theorem T_int {i : Int} {k : Nat} {pos : Pos} {Q : Value → Heap → Prop} (q : ∀ t, Q (.int i t) h) : Tr prog w A (eval (.Constant (.int i) k pos) env) h Q :=
  fun s e => wpAny_Constant_int ⟨Same.refl s, e ▸ q _⟩
end
end Mine
namespace Mine
/-- the heap's length never falls -/
theorem runs_size {M : Model} {Γ : Ctx} {p : Pos} {t : Sem PySem.Fin} {fs : List Frame} {s s' : Shared} {e : End} (h : Runs M Γ p t fs s e s') : s.heap.objs.size ≤ s'.heap.objs.size := by
  induction h <;> (try simp only [Shared.setGen, Heap.size_push, Heap.size_after_update] at *) <;> omega
theorem wakes_size {M : Model} {Γ : Ctx} {p : Pos} {g : Nat} {r : Resume} {s s' : Shared} {res : GenResult} (h : Wakes M Γ p g r s res s') : s.heap.objs.size ≤ s'.heap.objs.size := by
  unfold Wakes at h
  split at h
  · exact h.elim
  · split at h
    · obtain ⟨e₁, s₁, hr, _, _, rfl⟩ := h; exact (runs_size hr : (s.setGen g .running).heap.objs.size ≤ s₁.heap.objs.size)
    · rw [h.2]; exact Nat.le_refl _
    · rw [h.2]; exact Nat.le_refl _
  · obtain ⟨e₁, s₁, hr, _, _, rfl⟩ := h; exact (runs_size hr : (s.setGen g .running).heap.objs.size ≤ s₁.heap.objs.size)
  · rw [h.2]; exact Nat.le_refl _
  · rw [h.2]; exact Nat.le_refl _
theorem wp_size {α : Type} (M : Model) (Γ : Ctx) (n : Nat) (t : Sem α) : ∀ (Q : α → Pos → Shared → Prop) (E : Value → Pos → Shared → Prop) (p : Pos) (s : Shared), n ≤ s.heap.objs.size → Sem.wp M Γ t Q E p s →
    Sem.wp M Γ t (fun a p' s' => n ≤ s'.heap.objs.size ∧ Q a p' s') (fun e p' s' => n ≤ s'.heap.objs.size ∧ E e p' s') p s := by
  induction t with
  | pure a => intro Q E p s hn h; exact ⟨hn, h⟩
  | raise e => intro Q E p s hn h; exact ⟨hn, h⟩
  | unsupported _ => intro Q E p s _ h; exact h
  | finish _ => intro Q E p s _ h; exact h
  | rule _ k ih => intro Q E p s hn h; exact ih () Q E p s hn h
  | «at» p' k ih => intro Q E p s hn h; exact ih () Q E p' s hn h
  | load a _ k ih => intro Q E p s hn h; obtain ⟨o, ho, h⟩ := h; exact ⟨o, ho, ih o Q E p s hn h⟩
  | update a _ f k ih => intro Q E p s hn h; exact ⟨h.1, ih () Q E p _ (by show n ≤ (s.heap.update a f).objs.size; rw [Heap.size_after_update]; exact hn) h.2⟩
  | loadIfAlive a k ih => intro Q E p s hn h; exact ih _ Q E p s hn h
  | point _ k ih => intro Q E p s hn h; exact ih () Q E p s hn h
  | register _ _ => intro Q E p s _ h; exact h
  | alloc o k ih => intro Q E p s hn h; exact ih _ Q E p _ (by show n ≤ (s.heap.push o).objs.size; rw [Heap.size_push]; exact Nat.le_succ_of_le hn) h
  | fresh k ih => intro Q E p s hn h; exact ih _ Q E p _ hn h
  | ask k ih => intro Q E p s hn h; exact ih _ Q E p s hn h
  | choose src m k ih => intro Q E p s hn h; exact ⟨h.1, ih _ Q E p _ hn h.2⟩
  | os q _ k ih => intro Q E p s hn h; exact ih _ Q E p _ hn h
  | call c hd _ _ k ih => intro Q E p s hn h; obtain ⟨r, s', hr, h⟩ := h; exact ⟨r, s', hr, ih r Q E p s' (Nat.le_trans hn (runs_size hr)) h⟩
  | handled own k ih => intro Q E p s hn h; exact ih _ Q E p s hn h
  | genState g k ih => intro Q E p s hn h; obtain ⟨st, hs, h⟩ := h; exact ⟨st, hs, ih _ Q E p s hn h⟩
  | newGen c k ih => intro Q E p s hn h; exact ih _ Q E p _ hn h
  | resume g r _ k ih => intro Q E p s hn h; obtain ⟨res, s', hw, h⟩ := h; exact ⟨res, s', hw, ih res Q E p s' (Nat.le_trans hn (wakes_size hw)) h⟩
  | yield _ _ _ _ => intro Q E p s _ h; exact h
  | stack k ih => intro Q E p s hn h; exact ih _ Q E p s hn h
  | fork _ _ => intro Q E p s _ h; exact h
  | thread k ih => intro Q E p s hn h; exact ih _ Q E p s hn h
  | await _ _ _ _ _ => intro Q E p s _ h; exact h
theorem Tr.size {prog : Program} {w : World} {A : Around} {α : Type} {t : Sem α} {h : Heap} {Q : α → Heap → Prop} (x : Tr prog w A t h Q) :
    Tr prog w A t h (fun a h' => h.objs.size ≤ h'.objs.size ∧ Q a h') := fun s e Γ p hΓ => by
  subst e
  exact Sem.wp_mono _ Γ t (fun a _ s' q => ⟨q.2.1, q.1, q.2.2⟩) (fun _ _ _ q => q.2) p s (wp_size _ Γ s.heap.objs.size t _ _ p s (Nat.le_refl _) (x s rfl Γ p hΓ))
end Mine
namespace Mine
/-- every list and every tuple stands as it stood -/
noncomputable def KD (h h' : Heap) : Prop := ∀ b o, h.get? b = some o → (∃ vs n, o.data = .seq vs n) → h'.get? b = some o
theorem KD.refl (h : Heap) : KD h h := fun _ _ e _ => e
theorem KD.trans {a b c : Heap} (x : KD a b) (y : KD b c) : KD a c := fun d o e h1 => y d o (x d o e h1) h1
theorem KD.push (h : Heap) (o : Obj) : KD h (h.push o) := fun _ _ e _ => Heap.get?_push_of_some _ e
theorem KD.of_all {h h' : Heap} (x : ∀ b o, h.get? b = some o → h'.get? b = some o) : KD h h' := fun b o e _ => x b o e
/-- what may turn at all: lists, namespaces, cells -/
noncomputable def Mut (o : Obj) : Prop := o.cls = .type "list" ∨ (∃ es n, o.data = .dict es n) ∨ ∃ v, o.data = .cell v
/-- from h to h' the lists of D alone have turned -/
structure Ext (D : Addr → Prop) (h h' : Heap) : Prop where
  get : ∀ b o, (¬ D b ∨ ¬ Mut o) → h.get? b = some o → h'.get? b = some o
  size : h.objs.size ≤ h'.objs.size
theorem Ext.refl (D : Addr → Prop) (h : Heap) : Ext D h h := ⟨fun _ _ _ e => e, Nat.le_refl _⟩
theorem Ext.trans {D : Addr → Prop} {a b c : Heap} (x : Ext D a b) (y : Ext D b c) : Ext D a c := ⟨fun d o k e => y.get d o k (x.get d o k e), Nat.le_trans x.size y.size⟩
theorem Ext.mono {D D' : Addr → Prop} {a b : Heap} (x : Ext D a b) (k : ∀ d, D d → d < a.objs.size → D' d) : Ext D' a b :=
  ⟨fun d o q e => x.get d o (q.imp (fun n m => n (k d m (Heap.lt_size e))) id) e, x.size⟩
theorem Ext.push (D : Addr → Prop) (h : Heap) (o : Obj) : Ext D h (h.push o) := ⟨fun _ _ _ e => Heap.get?_push_of_some _ e, by rw [Heap.size_push]; exact Nat.le_succ _⟩
theorem Ext.kd {h h' : Heap} (x : Ext (fun _ => False) h h') : KD h h' := fun b o e _ => x.get b o (.inl id) e
noncomputable def Stable (P : Heap → Prop) : Prop := ∀ h h', P h → KD h h' → P h'
theorem Stable.and {P Q : Heap → Prop} (x : Stable P) (y : Stable Q) : Stable (fun h => P h ∧ Q h) := fun h h' p k => ⟨x h h' p.1 k, y h h' p.2 k⟩
theorem Stable.const {p : Prop} : Stable (fun _ => p) := fun _ _ x _ => x
theorem Stable.ex {α : Type} {P : α → Heap → Prop} (x : ∀ a, Stable (P a)) : Stable (fun h => ∃ a, P a h) := fun h h' ⟨a, p⟩ k => ⟨a, x a h h' p k⟩
theorem Stable.all {α : Type} {P : α → Heap → Prop} (x : ∀ a, Stable (P a)) : Stable (fun h => ∀ a, P a h) := fun h h' p k a => x a h h' (p a) k
theorem Stable.imp {p : Prop} {P : Heap → Prop} (x : Stable P) : Stable (fun h => p → P h) := fun h h' f k hp => x h h' (f hp) k
theorem Stable.list (a : Addr) (vs : Array Value) : Stable (fun h => h.IsList a vs) := fun h h' ⟨o, ho, hc, r⟩ k => ⟨o, k a o ho ⟨_, r⟩, hc, r⟩
theorem Stable.tuple (a : Addr) (vs : Array Value) : Stable (fun h => h.IsTuple a vs) := fun h h' ⟨o, ho, hc, r⟩ k => ⟨o, k a o ho ⟨_, r⟩, hc, r⟩
/-- the names of a frame: locals and cells in one map -/
structure Fz (env : Env) (m : Str → Option Value) (h : Heap) : Prop where
  kind : env.scope.kind = .function
  loc : ∃ ml, h.Ns env.locals ml ∧ ∀ x, env.kindOf x = some .local → ml x = m x
  cel : ∀ x c, env.cells.lookup x = some c → h.IsCell c (m x)
  apart : ∀ x y c, env.cells.lookup x = some c → env.cells.lookup y = some c → x = y
noncomputable def upd (m : Str → Option Value) (x : Str) (v : Value) : Str → Option Value := fun y => if y = x then some v else m y
theorem Fz.keeps {env : Env} {m : Str → Option Value} {h h' : Heap} (F : Fz env m h)
    (k : ∀ b o, h.get? b = some o → ((∃ es n, o.data = .dict es n) ∨ (∃ v, o.data = .cell v)) → h'.get? b = some o) : Fz env m h' where
  kind := F.kind
  loc := by
    obtain ⟨ml, ⟨o, es, ep, ho, hd, r⟩, hm⟩ := F.loc
    exact ⟨ml, ⟨o, es, ep, k _ o ho (.inl ⟨es, ep, hd⟩), hd, r⟩, hm⟩
  cel := fun x c e => by
    obtain ⟨o, ho, hd⟩ := F.cel x c e
    exact ⟨o, k _ o ho (.inr ⟨_, hd⟩), hd⟩
  apart := F.apart
/-- a stretch of a run: begun at the heap hs, now at h; of what stood at hs the lists, namespaces and cells of D alone may have turned;
    the frame holds m; P holds of the lists and tuples -/
structure Ses (h0 hs : Heap) (D : Addr → Prop) (env : Env) (m : Str → Option Value) (P : Heap → Prop) (h : Heap) : Prop where
  fr : Fz env m h
  ext : Ext D hs h
  nw : ∀ b, hs.objs.size ≤ b → D b
  gnd : ∀ b o, h0.get? b = some o → hs.get? b = some o
  out : ∀ b, D b → h0.objs.size ≤ b
  st : Stable P
  dat : P h
  gl : env.globals = mainGlobals
  bu : env.builtins = builtinsNs
section
variable {prog : Program} {w : World} {A : Around} {h0 hs h : Heap} {D : Addr → Prop} {env : Env} {m : Str → Option Value} {P : Heap → Prop}
theorem Ses.base (S : Ses h0 hs D env m P h) : ∀ b o, h0.get? b = some o → h.get? b = some o := fun b o e =>
  S.ext.get b o (.inl fun d => Nat.lt_irrefl _ (Nat.lt_of_lt_of_le (Heap.lt_size e) (S.out b d))) (S.gnd b o e)
/-- all that stood still stands; new things have come -/
theorem Ses.on (S : Ses h0 hs D env m P h) {P' : Heap → Prop} {h' : Heap} (st : Stable P') (p : P' h') (hz : h.objs.size ≤ h'.objs.size)
    (k : ∀ b o, h.get? b = some o → h'.get? b = some o) : Ses h0 hs D env m P' h' :=
  { fr := S.fr.keeps fun b o e _ => k b o e, ext := S.ext.trans ⟨fun b o _ e => k b o e, hz⟩, nw := S.nw, gnd := S.gnd, out := S.out, st, dat := p, gl := S.gl, bu := S.bu }
theorem Ses.with (S : Ses h0 hs D env m P h) {P' : Heap → Prop} (st : Stable P') (p : P' h) : Ses h0 hs D env m P' h := { S with st, dat := p }
theorem Ses.push (S : Ses h0 hs D env m P h) (o : Obj) : Ses h0 hs D env m P (h.push o) :=
  S.on S.st (S.st _ _ S.dat (KD.push h o)) (by rw [Heap.size_push]; exact Nat.le_succ _) fun _ _ e => Heap.get?_push_of_some _ e
/-- a call has come back -/
theorem Ses.after (S : Ses h0 hs D env m P h) {Dc : Addr → Prop} {P' : Heap → Prop} {h' : Heap} (x : Ext Dc h h') (hD : ∀ b, Dc b → D b) (hL : ∀ b, Dc b → ∃ vs, h.IsList b vs) (st : Stable P') (p : P' h') : Ses h0 hs D env m P' h' :=
  { fr := S.fr.keeps fun b o e q => x.get b o (.inl fun d => by
      obtain ⟨vs, o', ho', _, n, hd⟩ := hL b d
      rw [e] at ho'; cases ho'
      rcases q with ⟨es, n', q⟩ | ⟨v, q⟩ <;> (rw [hd] at q; cases q)) e
    ext := S.ext.trans (x.mono fun b d _ => hD b d), nw := S.nw, gnd := S.gnd, out := S.out, st, dat := p, gl := S.gl, bu := S.bu }
theorem Ses.after0 (S : Ses h0 hs D env m P h) {h' : Heap} (x : Ext (fun _ => False) h h') : Ses h0 hs D env m P h' :=
  S.after x (fun _ f => f.elim) (fun _ f => f.elim) S.st (S.st _ _ S.dat x.kd)
/-- a stretch begun anew -/
theorem Ses.anew (S : Ses h0 hs D env m P h) : Ses h0 h D env m P h :=
  { fr := S.fr, ext := Ext.refl _ _, nw := fun b hb => S.nw b (Nat.le_trans S.ext.size hb), gnd := S.base, out := S.out, st := S.st, dat := S.dat, gl := S.gl, bu := S.bu }
theorem Ses.join {m' : Str → Option Value} {P' : Heap → Prop} {h' : Heap} (S : Ses h0 hs D env m P h) (S' : Ses h0 h D env m' P' h') : Ses h0 hs D env m' P' h' :=
  { fr := S'.fr, ext := S.ext.trans S'.ext, nw := S.nw, gnd := S.gnd, out := S.out, st := S'.st, dat := S'.dat, gl := S.gl, bu := S.bu }
/-- names -/
theorem T_loc {x : Str} {pos : Pos} {v : Value} {Q : Value → Heap → Prop} (S : Ses h0 hs D env m P h) (hv : m x = some v) (q : Q v h)
    (hk : env.kindOf x = some .local := by rfl) (hd : (x == ("__debug__" : Str)) = false := by decide) : Tr prog w A (eval (.Name x pos) env) h Q := fun s e => by
  obtain ⟨ml, hn, hm⟩ := S.fr.loc
  exact wpAny_Name (wpAny_loadName_local S.fr.kind hk (e ▸ hn) ((hm x hk).trans hv) ⟨Same.refl s, e ▸ q⟩) hd
theorem T_cel {x : Str} {pos : Pos} {v : Value} {c : Addr} {Q : Value → Heap → Prop} (S : Ses h0 hs D env m P h) (hv : m x = some v) (q : Q v h)
    (hc : env.cells.lookup x = some c := by rfl)
    (hk : env.kindOf x = some .cell := by rfl) (hd : (x == ("__debug__" : Str)) = false := by decide) : Tr prog w A (eval (.Name x pos) env) h Q := fun s e => by
  have := S.fr.cel x c hc
  rw [hv] at this
  exact wpAny_Name (wpAny_loadName_cell S.fr.kind hk hc (e ▸ this) ⟨Same.refl s, e ▸ q⟩) hd
theorem T_fre {x : Str} {pos : Pos} {v : Value} {c : Addr} {Q : Value → Heap → Prop} (S : Ses h0 hs D env m P h) (hv : m x = some v) (q : Q v h)
    (hc : env.cells.lookup x = some c := by rfl)
    (hk : env.kindOf x = some .free := by rfl) (hd : (x == ("__debug__" : Str)) = false := by decide) (hn : (x == ("__classdict__" : Str)) = false := by decide) : Tr prog w A (eval (.Name x pos) env) h Q := fun s e => by
  have := S.fr.cel x c hc
  rw [hv] at this
  exact wpAny_Name (wpAny_loadName_free S.fr.kind hk hc (e ▸ this) ⟨Same.refl s, e ▸ q⟩ hn) hd
/-- a name of the module's or of the built-ins' -/
noncomputable def NameIs (h0 : Heap) (x : Str) (v : Value) : Prop :=
  ∀ (M : Model) (A : Around) (E : Value → Shared → Prop) (env : Env) (pos : Pos) (s : Shared) (Q : Value → Shared → Prop), (∀ b o, h0.get? b = some o → s.heap.get? b = some o) →
    env.scope.kind = .function → env.kindOf x = some .globalImplicit → env.globals = mainGlobals → env.builtins = builtinsNs → Q v s → wpAny M A (eval (.Name x pos) env) Q E s
theorem T_glo {x : Str} {pos : Pos} {v : Value} {Q : Value → Heap → Prop} (S : Ses h0 hs D env m P h) (N : NameIs h0 x v) (q : Q v h)
    (hk : env.kindOf x = some .globalImplicit := by rfl) : Tr prog w A (eval (.Name x pos) env) h Q := fun s e =>
  N _ _ _ env pos s _ (fun b o eb => e ▸ S.base b o eb) S.fr.kind hk S.gl S.bu ⟨Same.refl s, e ▸ q⟩
/-- a store to a name of the frame -/
theorem T_stL {x : Str} {v : Value} {Q : Unit → Heap → Prop} (S : Ses h0 hs D env m P h) (q : ∀ h', Ses h0 hs D env (upd m x v) P h' → Q () h')
    (own : D env.locals := by first | assumption | exact .inr (Nat.le_refl _)) (hk : env.kindOf x = some .local := by rfl) (hc : env.cells.lookup x = none := by rfl) : Tr prog w A (storeName env x v) h Q := fun s e => by
  obtain ⟨ml, hn, hm⟩ := S.fr.loc
  refine wpAny_storeName_local hk (e ▸ hn) (fun h' hn' hs' => ⟨⟨rfl, rfl, rfl⟩, ?_⟩) (by rw [S.fr.kind]; rfl)
  rw [e] at hs'
  obtain ⟨oL, es, ep, hL, hLd, _⟩ := id hn
  have hex : Ext D h h' := ⟨fun b o k eb => (hs'.2 b (by rintro rfl; rw [hL] at eb; cases eb; exact k.elim (fun n => n own) fun n => n (.inr (.inl ⟨_, _, hLd⟩)))).trans eb, Nat.le_of_eq hs'.1.symm⟩
  have kd : KD h h' := fun b o eb k => by
    by_cases hb : b = env.locals
    · subst hb
      rw [hL] at eb; cases eb
      obtain ⟨vs, n, k⟩ := k
      rw [hLd] at k; cases k
    · exact (hs'.2 b hb).trans eb
  refine q h' { fr := { kind := S.fr.kind, loc := ⟨_, hn', fun y hy => ?_⟩, cel := fun y c hy => ?_, apart := S.fr.apart }, ext := S.ext.trans hex, nw := S.nw, gnd := S.gnd, out := S.out, st := S.st, dat := S.st _ _ S.dat kd, gl := S.gl, bu := S.bu }
  · show (if y = x then some v else ml y) = if y = x then some v else m y
    split
    · rfl
    · exact hm y hy
  · obtain ⟨o, ho, hd⟩ := S.fr.cel y c hy
    have hyx : y ≠ x := by rintro rfl; rw [hc] at hy; cases hy
    refine ⟨o, (hs'.2 c (by rintro rfl; rw [hL] at ho; cases ho; rw [hLd] at hd; cases hd)).trans ho, ?_⟩
    show _ = Data.cell (if y = x then some v else m y)
    rw [if_neg hyx]; exact hd
theorem T_stC {x : Str} {v : Value} {c : Addr} {Q : Unit → Heap → Prop} (S : Ses h0 hs D env m P h) (q : ∀ h', Ses h0 hs D env (upd m x v) P h' → Q () h')
    (hD : D c) (hc : env.cells.lookup x = some c := by rfl) (hk : env.kindOf x = some .cell := by rfl) : Tr prog w A (storeName env x v) h Q := fun s e => by
  refine wpAny_storeName_cell S.fr.kind hk hc (e ▸ S.fr.cel x c hc) (fun h' hc' hs' => ⟨⟨rfl, rfl, rfl⟩, ?_⟩)
  rw [e] at hs'
  obtain ⟨oc, hoc, hdc⟩ := S.fr.cel x c hc
  obtain ⟨ml, hn, hm⟩ := S.fr.loc
  obtain ⟨oL, es, ep, hL, hLd, _⟩ := id hn
  have hex : Ext D h h' := ⟨fun b o k eb => (hs'.2 b (by rintro rfl; rw [hoc] at eb; cases eb; exact k.elim (fun n => n hD) fun n => n (.inr (.inr ⟨_, hdc⟩)))).trans eb, Nat.le_of_eq hs'.1.symm⟩
  have kd : KD h h' := fun b o eb k => (hs'.2 b (by rintro rfl; rw [hoc] at eb; cases eb; obtain ⟨vs, n, k⟩ := k; rw [hdc] at k; cases k)).trans eb
  refine q h' { fr := { kind := S.fr.kind, loc := ⟨ml, hn.sameBut hs' (by rintro rfl; rw [hL] at hoc; cases hoc; rw [hLd] at hdc; cases hdc), fun y hy => ?_⟩, cel := fun y c' hy => ?_, apart := S.fr.apart }, ext := S.ext.trans hex, nw := S.nw, gnd := S.gnd, out := S.out, st := S.st, dat := S.st _ _ S.dat kd, gl := S.gl, bu := S.bu }
  · show ml y = if y = x then some v else m y
    rw [if_neg (by rintro rfl; rw [hk] at hy; cases hy)]; exact hm y hy
  · show Heap.IsCell h' c' (if y = x then some v else m y)
    by_cases hyx : y = x
    · subst hyx; rw [hc] at hy; cases hy; rw [if_pos rfl]; exact hc'
    · rw [if_neg hyx]
      exact (S.fr.cel y c' hy).sameBut hs' fun ecc => hyx (S.fr.apart y x c (ecc ▸ hy) hc)
theorem room_pylong {d : Nat} (hd : d < 500) : d + Builtin.pylongFrames < recursionLimit := by
  have h1 : Builtin.pylongFrames < 500 := by decide
  have h2 : recursionLimit = 1000 := rfl
  omega
/-- what the calls ask of what lies around them: k more frames may be made -/
structure Rm (A : Around) (k : Nat) : Prop where
  handled : A.handled = none
  depth : A.depth + k < 500
  units : A.units + 10 * k < 5000
  frames : ∃ env l, A.frames = some (env :: l) ∧ env.scope.isGenerator = false ∧ env.scope.isCoroutine = false ∧ env.builtins = builtinsNs ∧ env.globals = mainGlobals
theorem Rm.deeper {A : Around} {k : Nat} {env : Env} (R : Rm A (k + 1)) (h1 : env.scope.isGenerator = false) (h2 : env.scope.isCoroutine = false) (h3 : env.builtins = builtinsNs) (h4 : env.globals = mainGlobals) : Rm (A.deeper env) k where
  handled := R.handled
  depth := by have := R.depth; show A.depth + 1 + k < 500; omega
  units := by have := R.units; show A.units + 3 + 10 * k < 5000; omega
  frames := by
    obtain ⟨e, l, hf, _⟩ := R.frames
    exact ⟨env, e :: l, by show A.frames.map (env :: ·) = _; rw [hf]; rfl, h1, h2, h3, h4⟩
theorem Rm.le {A : Around} {k j : Nat} (R : Rm A k) (hj : j ≤ k) : Rm A j :=
  ⟨R.handled, by have := R.depth; omega, by have := R.units; omega, R.frames⟩
/-- ints -/
theorem T_add {a b : Int} {t u : Tok} {Q : Value → Heap → Prop} (q : ∀ t, Q (.int (a + b) t) h) : Tr prog w A (binaryOp .Add (.int a t) (.int b u)) h Q := fun s e => add_int ⟨⟨rfl, rfl, rfl⟩, e ▸ q _⟩
theorem T_subi {a b : Int} {t u : Tok} {Q : Value → Heap → Prop} (q : ∀ t, Q (.int (a - b) t) h) : Tr prog w A (binaryOp .Sub (.int a t) (.int b u)) h Q := fun s e => sub_int ⟨⟨rfl, rfl, rfl⟩, e ▸ q _⟩
theorem T_mul {a b : Int} {t u : Tok} {Q : Value → Heap → Prop} (hm : IntMulOk a b) (q : ∀ t, Q (.int (a * b) t) h) : Tr prog w A (binaryOp .Mult (.int a t) (.int b u)) h Q := fun s e => mul_int ⟨⟨rfl, rfl, rfl⟩, e ▸ q _⟩ hm
theorem T_mod {a b : Int} {t u : Tok} {Q : Value → Heap → Prop} (hb : b ≠ 0) (q : ∀ t, Q (.int (a.fmod b) t) h) : Tr prog w A (binaryOp .Mod (.int a t) (.int b u)) h Q := fun s e => mod_int' hb ⟨⟨rfl, rfl, rfl⟩, e ▸ q _⟩
theorem T_fdiv {a b : Int} {t u : Tok} {k : Nat} {Q : Value → Heap → Prop} (S : Ses h0 hs D env m P h) (R : Rm A k) (hl : h0.NoLimit) (hN : h0.NoSeer) (ht : prog.given.tree = none) (hb : b ≠ 0) (q : ∀ t, Q (.int (a.fdiv b) t) h) :
    Tr prog w A (binaryOp .FloorDiv (.int a t) (.int b u)) h Q := fun s e => by
  obtain ⟨fe, l, hf, f1, f2, f3, f4⟩ := R.frames
  exact floordiv_int hb ⟨⟨rfl, rfl, rfl⟩, e ▸ q _⟩
    (.inr (PylongRoom.of (hl.keeps fun b o eb => e ▸ S.base b o eb) (room_pylong (by have := R.depth; omega))
      (SeerAt.of (hN.keeps fun b o eb => e ▸ S.base b o eb) ht hf f1 f2 f3 f4)))
theorem T_neg {a : Int} {t : Tok} {Q : Value → Heap → Prop} (q : ∀ t, Q (.int (-a) t) h) : Tr prog w A (unaryOp .USub (.int a t)) h Q := fun s e => neg_int ⟨⟨rfl, rfl, rfl⟩, e ▸ q _⟩
theorem T_abs {a : Int} {t : Tok} {Q : Value → Heap → Prop} (q : ∀ t, Q (.int (if a < 0 then -a else a) t) h) : Tr prog w A (call (.builtin "abs") [.int a t]) h Q := fun s e => call_abs_int fun _ _ => ⟨⟨rfl, rfl, rfl⟩, e ▸ q _⟩
theorem T_eq {a b : Int} {t u : Tok} {Q : Value → Heap → Prop} (q : Q (.bool (a == b)) h) : Tr prog w A (compareOp .Eq (.int a t) (.int b u)) h Q := fun s e => eq_int ⟨Same.refl s, e ▸ q⟩
theorem T_ne {a b : Int} {t u : Tok} {Q : Value → Heap → Prop} (q : Q (.bool (a != b)) h) : Tr prog w A (compareOp .NotEq (.int a t) (.int b u)) h Q := fun s e => ne_int ⟨Same.refl s, e ▸ q⟩
theorem T_lt {a b : Int} {t u : Tok} {Q : Value → Heap → Prop} (q : Q (.bool (decide (a < b))) h) : Tr prog w A (compareOp .Lt (.int a t) (.int b u)) h Q := fun s e => lt_int ⟨Same.refl s, e ▸ q⟩
theorem T_gt {a b : Int} {t u : Tok} {Q : Value → Heap → Prop} (q : Q (.bool (decide (b < a))) h) : Tr prog w A (compareOp .Gt (.int a t) (.int b u)) h Q := fun s e => gt_int ⟨Same.refl s, e ▸ q⟩
theorem T_ge {a b : Int} {t u : Tok} {Q : Value → Heap → Prop} (q : Q (.bool (decide (b ≤ a))) h) : Tr prog w A (compareOp .GtE (.int a t) (.int b u)) h Q := fun s e => ge_int ⟨Same.refl s, e ▸ q⟩
/-- items -/
theorem T_itemL {value slice : Expr} {l : Addr} {vs : Array Value} {k : Int} {t : Tok} {x : Value} {Q : Value → Heap → Prop} (hl : h.IsList l vs) (h0' : 0 ≤ k) (hhi : k < 2 ^ 63) (hx : vs[k.toNat]? = some x) (q : Q x h)
    (hs : subscripted slice false (.ref l) (.int k t) = operate [.ref l, .int k t] (getItem (.ref l) (.int k t)) := by with_unfolding_all rfl) :
    Tr prog w A (subscriptTail value slice (.ref l) (.int k t)) h Q := fun s e =>
  tail_any (Heap.IsList.typeIs (e ▸ hl)) slot_list_getitem.lookup (wpAny_getItem_list (e ▸ hl) h0' hhi hx ⟨Same.refl s, e ▸ q⟩) hs
theorem T_itemT {value slice : Expr} {l : Addr} {vs : Array Value} {k : Int} {t : Tok} {j : Nat} {x : Value} {Q : Value → Heap → Prop} (hl : h.IsTuple l vs) (hlo : -(2 ^ 63) ≤ k) (hhi : k < 2 ^ 63) (hj : seqIndex? k vs.size = some j) (hx : vs[j]? = some x) (q : Q x h)
    (hs : subscripted slice false (.ref l) (.int k t) = operate [.ref l, .int k t] (getItem (.ref l) (.int k t)) := by with_unfolding_all rfl) :
    Tr prog w A (subscriptTail value slice (.ref l) (.int k t)) h Q := fun s e => by
  obtain ⟨o, ho, hc, n, hd⟩ := id hl
  have ht : IsTup s.heap l vs := ⟨o, e ▸ ho, hc, n, hd⟩
  exact item_tupleT (l := vs.toList) (by simpa using ht) hlo hhi (by simpa using hj) (by simpa using hx) ⟨Same.refl s, e ▸ q⟩ hs
end
end Mine
namespace Mine
section
variable (prog : Program) (w : World) (A : Around)
noncomputable abbrev KCo (v : Value) (Q : List Value → Heap → Prop) : List Value → Heap → Prop := fun vs h2 => Q (v :: vs) h2
noncomputable abbrev KSp (env : Env) (pos : Pos) (rest : List Expr) (Q : List Value → Heap → Prop) : Value → Heap → Prop := fun v h1 => Tr prog w A (spliced (backTo pos (starEach rest env))) h1 (KCo v Q)
noncomputable abbrev KTup (Q : Value → Heap → Prop) : List Value → Heap → Prop := fun vs h1 => Tr prog w A (newTuple vs) h1 Q
noncomputable abbrev KLst (Q : Value → Heap → Prop) : List Value → Heap → Prop := fun vs h1 => Tr prog w A (newList vs) h1 Q
noncomputable abbrev KCall (env : Env) (pos : Pos) (args : List Expr) (Q : Value → Heap → Prop) : Value → Heap → Prop := fun f h1 => Tr prog w A (callWith pos f [] (backTo pos (starEach args env)) []) h1 Q
noncomputable abbrev KCw (f : Value) (Q : Value → Heap → Prop) : List Value → Heap → Prop := fun vs h1 => Tr prog w A (call f vs) h1 Q
noncomputable abbrev KCwF (a : Addr) (o : Obj) (fd : FuncData) (Q : Value → Heap → Prop) : List Value → Heap → Prop := fun vs h1 => (h1.get? a = some o ∧ o.data = .func fd) ∧ Tr prog w A (call (.ref a) vs) h1 Q
end
section
variable {prog : Program} {w : World} {A : Around} {h0 hs h : Heap} {D : Addr → Prop} {env : Env} {m : Str → Option Value} {P : Heap → Prop}
/-- several expressions, one behind the other -/
theorem T_sp0 {pos : Pos} {Q : List Value → Heap → Prop} (q : Q [] h) : Tr prog w A (spliced (backTo pos (starEach [] env))) h Q := fun s e => Calls.spliced_nil ⟨Same.refl s, e ▸ q⟩
theorem T_sp {x : Expr} {rest : List Expr} {pos : Pos} {Q : List Value → Heap → Prop}
    (q : Tr prog w A (eval x env) h (KSp prog w A env pos rest Q))
    (he : starEach (x :: rest) env = (false, eval x env) :: starEach rest env := by rfl) : Tr prog w A (spliced (backTo pos (starEach (x :: rest) env))) h Q := by
  rw [he]
  exact fun s e => Calls.spliced_cons (wpAny_mono (q s e) (fun _ s' q => wpAny_mono (q.2 s' rfl) (fun _ _ r => ⟨q.1.trans r.1, r.2⟩) fun _ _ r => r) fun _ _ q => q)
theorem T_tup {elts : List Expr} {k : Nat} {pos : Pos} {Q : Value → Heap → Prop}
    (q : Tr prog w A (spliced (backTo pos (starEach elts env))) h (KTup prog w A Q)) : Tr prog w A (eval (.Tuple elts k pos) env) h Q :=
  fun s e => Tuple_ (wpAny_mono (q s e) (fun _ s' q => wpAny_mono (q.2 s' rfl) (fun _ _ r => ⟨q.1.trans r.1, r.2⟩) fun _ _ r => r) fun _ _ q => q)
theorem T_lst {elts : List Expr} {pos : Pos} {Q : Value → Heap → Prop}
    (q : Tr prog w A (spliced (backTo pos (starEach elts env))) h (KLst prog w A Q)) : Tr prog w A (eval (.List elts pos) env) h Q :=
  fun s e => List_ (wpAny_mono (q s e) (fun _ s' q => wpAny_mono (q.2 s' rfl) (fun _ _ r => ⟨q.1.trans r.1, r.2⟩) fun _ _ r => r) fun _ _ q => q)
theorem T_newTuple {vs : List Value} {Q : Value → Heap → Prop} (S : Ses h0 hs D env m P h)
    (q : ∀ a h', a = h.objs.size → Ses h0 hs D env m (fun h => P h ∧ h.IsTuple a vs.toArray) h' → Q (.ref a) h') (hz : vs.length ≤ sizeLine := by rw [sizeLine_eq]; simp) : Tr prog w A (newTuple vs) h Q := fun s e =>
  wpAny_newTuple ⟨⟨rfl, rfl, rfl⟩, by
    subst e
    refine q _ _ rfl ?_
    exact S.on (S.st.and (Stable.tuple _ _)) ⟨S.st _ _ S.dat (KD.push _ _), _, Heap.get?_push_size _ rfl, rfl, _, rfl⟩ (by show _ ≤ (Heap.push _ _).objs.size; rw [Heap.size_push]; exact Nat.le_succ _) fun _ _ eb => Heap.get?_push_of_some _ eb⟩ hz
theorem T_newList {vs : List Value} {Q : Value → Heap → Prop} (S : Ses h0 hs D env m P h)
    (q : ∀ a h', a = h.objs.size → Ses h0 hs D env m (fun h => P h ∧ h.IsList a vs.toArray) h' → Q (.ref a) h') (hz : vs.length ≤ sizeLine := by rw [sizeLine_eq]; simp) : Tr prog w A (newList vs) h Q := fun s e =>
  wpAny_newList ⟨⟨rfl, rfl, rfl⟩, by
    subst e
    refine q _ _ rfl ?_
    exact S.on (S.st.and (Stable.list _ _)) ⟨S.st _ _ S.dat (KD.push _ _), _, Heap.get?_push_size _ rfl, rfl, _, rfl⟩ (by show _ ≤ (Heap.push _ _).objs.size; rw [Heap.size_push]; exact Nat.le_succ _) fun _ _ eb => Heap.get?_push_of_some _ eb⟩ hz
/-- calls -/
theorem T_call {id : Str} {p pos : Pos} {args : List Expr} {Q : Value → Heap → Prop}
    (q : Tr prog w A (eval (.Name id p) env) h (KCall prog w A env pos args Q)) : Tr prog w A (eval (.Call (.Name id p) args [] pos) env) h Q :=
  fun s e => wpAny_Call_NameR (wpAny_mono (q s e) (fun _ s' q => wpAny_mono (q.2 s' rfl) (fun _ _ r => ⟨q.1.trans r.1, r.2⟩) fun _ _ r => r) fun _ _ q => q)
theorem T_cwB {pos : Pos} {id : String} {x : Expr} {rest : List Expr} {Q : Value → Heap → Prop}
    (q : Tr prog w A (spliced (backTo pos (starEach (x :: rest) env))) h (KCw prog w A (.builtin id) Q))
    (he : starEach (x :: rest) env = (false, eval x env) :: starEach rest env := by rfl) (hplain : (backTo pos (starEach rest env)).any (·.1) = false := by rfl) :
    Tr prog w A (callWith pos (.builtin id) [] (backTo pos (starEach (x :: rest) env)) []) h Q := by
  rw [he] at q ⊢
  exact fun s e => Calls.callWith_builtin (by show (false || (backTo pos (starEach rest env)).any (·.1)) = false; rw [hplain]; rfl)
    (Calls.evalArgs_plain (wpAny_mono (q s e) (fun _ s' q => wpAny_mono (q.2 s' rfl) (fun _ _ r => ⟨q.1.trans r.1, r.2⟩) fun _ _ r => r) fun _ _ q => q))
theorem T_cwT {pos : Pos} {id : String} {x : Expr} {rest : List Expr} {Q : Value → Heap → Prop}
    (q : Tr prog w A (spliced (backTo pos (starEach (x :: rest) env))) h (KCw prog w A (.type id) Q))
    (he : starEach (x :: rest) env = (false, eval x env) :: starEach rest env := by rfl) (hplain : (backTo pos (starEach rest env)).any (·.1) = false := by rfl) :
    Tr prog w A (callWith pos (.type id) [] (backTo pos (starEach (x :: rest) env)) []) h Q := by
  rw [he] at q ⊢
  exact fun s e => PySem.callWith_type (by show (false || (backTo pos (starEach rest env)).any (·.1)) = false; rw [hplain]; rfl)
    (Calls.evalArgs_plain (wpAny_mono (q s e) (fun _ s' q => wpAny_mono (q.2 s' rfl) (fun _ _ r => ⟨q.1.trans r.1, r.2⟩) fun _ _ r => r) fun _ _ q => q))
/-- a def of the text's own -/
theorem T_cwF {pos : Pos} {a : Addr} {o : Obj} {fd : FuncData} {x : Expr} {rest : List Expr} {Q : Value → Heap → Prop}
    (q : Tr prog w A (spliced (backTo pos (starEach (x :: rest) env))) h (KCwF prog w A a o fd Q))
    (he : starEach (x :: rest) env = (false, eval x env) :: starEach rest env := by rfl) (hplain : (backTo pos (starEach rest env)).any (·.1) = false := by rfl) :
    Tr prog w A (callWith pos (.ref a) [] (backTo pos (starEach (x :: rest) env)) []) h Q := by
  rw [he] at q ⊢
  exact fun s e => callWith_function_kw (o := o) (fd := fd)
    (Calls.evalArgs_plain (wpAny_mono (q s e) (fun _ s' q => ⟨q.2.1, wpAny_mono (q.2.2 s' rfl) (fun _ _ r => ⟨q.1.trans r.1, r.2⟩) fun _ _ r => r⟩) fun _ _ q => q))
theorem T_len {l : Addr} {vs : Array Value} {Q : Value → Heap → Prop} (hl : h.IsList l vs) (hz : (vs.size : Int) < 2 ^ 63) (q : ∀ t, Q (.int vs.size t) h) : Tr prog w A (call (.builtin "len") [.ref l]) h Q :=
  fun s e => Calls.call_len_list (e ▸ hl) hz ⟨⟨rfl, rfl, rfl⟩, e ▸ q _⟩
theorem T_copy {l : Addr} {vs : Array Value} {Q : Value → Heap → Prop} (S : Ses h0 hs D env m P h) (hl : h.IsList l vs) (hz : vs.size ≤ sizeLine)
    (q : ∀ a h', a = h.objs.size → Ses h0 hs D env m (fun h => P h ∧ h.IsList a vs) h' → Q (.ref a) h') : Tr prog w A (call (.type "list") [.ref l]) h Q := fun s e => by
  obtain ⟨o, ho, hc, n, hd⟩ := hl
  subst e
  refine call_list_seq (hsz := hz) l (.inl rfl) ho hc hd fun h' c' hk hD => ⟨⟨rfl, rfl, rfl⟩, q _ _ rfl ?_⟩
  refine S.on (S.st.and (Stable.list _ _)) ⟨S.st _ _ S.dat (KD.of_all hk), _, hD, rfl, _, rfl⟩ (Nat.le_of_lt (Heap.lt_size hD)) hk
/-- a list's item put -/
theorem T_setItem {l : Addr} {vs : Array Value} {k : Int} {t : Tok} {v : Value} {Q : Unit → Heap → Prop} (S : Ses h0 hs D env m P h) (hl : h.IsList l vs) (hD : D l) (h0' : 0 ≤ k) (hhi : k < 2 ^ 63) (hlt : k < (vs.size : Int))
    {P' : Heap → Prop} (st : Stable P') (p : ∀ h', h'.IsList l (vs.setIfInBounds k.toNat v) → (∀ b, b ≠ l → h'.get? b = h.get? b) → P' h')
    (q : ∀ h', Ses h0 hs D env m P' h' → Q () h') : Tr prog w A (setItem (.ref l) (.int k t) v) h Q := fun s e => by
  subst e
  refine wpAny_setItem_list hl h0' hhi hlt fun h' hl' hs' => ⟨⟨rfl, rfl, rfl⟩, q h' ?_⟩
  obtain ⟨o, ho, hc, n, hd⟩ := id hl
  refine { fr := S.fr.keeps fun b ob eb k => ?_, ext := S.ext.trans ⟨fun b ob k eb => ?_, Nat.le_of_eq hs'.1.symm⟩, nw := S.nw, gnd := S.gnd, out := S.out, st := st, dat := p h' hl' hs'.2, gl := S.gl, bu := S.bu }
  · refine (hs'.2 b ?_).trans eb
    rintro rfl
    rw [ho] at eb; cases eb
    rcases k with ⟨_, _, k⟩ | ⟨_, k⟩ <;> (rw [hd] at k; cases k)
  · refine (hs'.2 b ?_).trans eb
    rintro rfl
    rw [ho] at eb; cases eb
    exact k.elim (fun n => n hD) fun n => n (.inl hc)
end
end Mine
namespace Mine
section
variable (prog : Program) (w : World) (A : Around)
noncomputable abbrev KLp (env : Env) (target : Expr) (body : List Stmt) (Q : Flow → Heap → Prop) : Value → Heap → Prop := fun it h2 => TrC prog w A (.forLoop target it body [] env) h2 Q
noncomputable abbrev KIt (env : Env) (target : Expr) (body : List Stmt) (Q : Flow → Heap → Prop) : Value → Heap → Prop := fun x h1 => Tr prog w A (pyIter x) h1 (KLp prog w A env target body Q)
noncomputable abbrev KBd (I : Heap → Prop) (Q : Flow → Heap → Prop) : Flow → Heap → Prop := fun f h4 => match f with | .next => I h4 | .cont => I h4 | .brk => Q .next h4 | .ret v => Q (.ret v) h4
end
section
variable {prog : Program} {w : World} {A : Around} {h0 hs h : Heap} {D : Addr → Prop} {env : Env} {m : Str → Option Value} {P : Heap → Prop}
/-- a name that may be stored to -/
noncomputable def Asg (env : Env) (D : Addr → Prop) (x : Str) : Prop := (env.kindOf x = some .local ∧ env.cells.lookup x = none ∧ D env.locals) ∨ (env.kindOf x = some .cell ∧ ∃ c, env.cells.lookup x = some c ∧ D c)
theorem T_st {x : Str} {v : Value} {Q : Unit → Heap → Prop} (S : Ses h0 hs D env m P h) (ha : Asg env D x) (q : ∀ h', Ses h0 hs D env (upd m x v) P h' → Q () h') : Tr prog w A (storeName env x v) h Q := by
  rcases ha with ⟨a, b, c⟩ | ⟨a, c, b, d⟩
  · exact T_stL S q c a b
  · exact T_stC S q d b a
theorem T_toName {x : Str} {pos : Pos} {v : Value} {Q : Unit → Heap → Prop} (q : Tr prog w A (storeName env x v) h Q) : Tr prog w A (assign (.Name x pos) env v) h Q := fun s e => wpAny_assign_Name (q s e)
theorem T_for {target iter : Expr} {body : List Stmt} {pos : Pos} {Q : Flow → Heap → Prop}
    (q : Tr prog w A (eval iter env) h (KIt prog w A env target body Q))
    (hs : ∀ x, foldedSetIterable iter env x = pure x := by intro _; rfl) : Tr prog w A (exec (.For target iter body [] pos) env) h Q := fun s e =>
  wpAny_For (wpAny_mono (q s e) (fun x s1 q1 => wpAny_mono (q1.2 s1 rfl) (fun it s2 q2 => codeAny_mono (q2.2 s2 rfl) fun r s3 q3 => by
    cases r with
    | ok f => exact ⟨(q1.1.trans q2.1).trans q3.1, q3.2⟩
    | error x => exact q3.elim) fun _ _ f => f.elim) fun _ _ f => f.elim) hs
/-- a for's turns -/
theorem T_forLoop {target : Expr} {it : Value} {body : List Stmt} {Q : Flow → Heap → Prop} (n : Nat) (I : Nat → Heap → Prop)
    (turn : ∀ i h, i < n → I i h → Tr prog w A (pyNext it) h (fun r h1 => ∃ v, r = some v ∧ Tr prog w A (letOwnedTupleGo target it v) h1 (fun _ h2 => Tr prog w A (assign target env v) h2 (fun _ h3 =>
      Tr prog w A (execs body env) h3 (KBd (I (i + 1)) Q)))))
    (fin : ∀ h, I n h → Tr prog w A (pyNext it) h (fun r h1 => r = none ∧ Q .next h1)) (h0 : I 0 h) : TrC prog w A (.forLoop target it body [] env) h Q := fun s₀ e₀ => by
  refine codeAny_loop' rfl (fun k s => ∃ i, i ≤ n ∧ k = n - i ∧ Same s₀ s ∧ I i s.heap) (fun k s hI => ?_) n ⟨0, Nat.zero_le _, rfl, Same.refl _, e₀ ▸ h0⟩
  obtain ⟨i, hi, rfl, hsame, hI⟩ := hI
  show wpAny _ _ ((forTurn target it body [] env).onRaise (fun x => do noteFrame x env; theTreesLotGoes x)) _ _ s
  refine wpAny_onRaise (wpAny_mono (E := fun _ _ => False) ?_ (fun _ _ q => q) fun _ _ f => f.elim)
  simp only [forTurn]
  refine wpAny_bind (wpAny_standAt (wpAny_bind (wpAny_onRaise ?_)))
  by_cases hlt : i < n
  · refine wpAny_mono (turn i s.heap hlt hI s rfl) (fun r s1 h1 => ?_) fun _ _ f => f.elim
    obtain ⟨e1, v, rfl, h1⟩ := h1
    refine wpAny_bind (wpAny_mono (h1 s1 rfl) (fun _ s2 h2 => ?_) fun _ _ f => f.elim)
    refine wpAny_bind (wpAny_mono (h2.2 s2 rfl) (fun _ s3 h3 => ?_) fun _ _ f => f.elim)
    refine wpAny_bind (wpAny_mono (h3.2 s3 rfl) (fun f s4 h4 => ?_) fun _ _ f => f.elim)
    have hss := (((hsame.trans e1).trans h2.1).trans h3.1).trans h4.1
    cases f with
    | next => exact wpAny_pure (.inl ⟨rfl, n - (i + 1), by omega, i + 1, hlt, rfl, hss, h4.2⟩)
    | cont => exact wpAny_pure (.inl ⟨rfl, n - (i + 1), by omega, i + 1, hlt, rfl, hss, h4.2⟩)
    | brk => exact wpAny_pure ⟨hss, h4.2⟩
    | ret v => exact wpAny_pure ⟨hss, h4.2⟩
  · have hin : i = n := by omega
    subst hin
    refine wpAny_mono (fin s.heap hI s rfl) (fun r s1 h1 => ?_) fun _ _ f => f.elim
    obtain ⟨e1, rfl, h1⟩ := h1
    exact wpAny_pure (.inr ⟨rfl, codeAny_block (wpAny_execs_nil ⟨hsame.trans e1, h1⟩)⟩)
/-- a while: at most n turns -/
theorem T_while {test : Expr} {body : List Stmt} {pos : Pos} {Q : Flow → Heap → Prop} (I : Nat → Heap → Prop)
    (turn : ∀ n h, I n h → Tr prog w A (isTrue test env (eval test env)) h (fun b h1 => if b = true then
      Tr prog w A (execs body env) h1 (KBd (fun h2 => ∃ k, k < n ∧ I k h2) Q) else Q .next h1))
    (n : Nat) (hI : I n h) : Tr prog w A (exec (.While test body [] pos) env) h Q := fun s₀ e₀ => by
  refine wpAny_While ?_
  refine codeAny_whileLoop (fun k s => Same s₀ s ∧ I k s.heap) (fun k s hI => ?_) n ⟨Same.refl _, e₀ ▸ hI⟩
  refine wpAny_mono (turn k s.heap hI.2 s rfl) (fun b s1 h1 => ?_) fun _ _ f => f.elim
  cases b with
  | true =>
    simp only [if_true] at h1 ⊢
    refine wpAny_mono (h1.2 s1 rfl) (fun f s2 h2 => ?_) fun _ _ f => f.elim
    have hss := (hI.1.trans h1.1).trans h2.1
    cases f with
    | next => obtain ⟨j, hj, hJ⟩ := h2.2; exact ⟨j, hj, hss, hJ⟩
    | cont => obtain ⟨j, hj, hJ⟩ := h2.2; exact ⟨j, hj, hss, hJ⟩
    | brk => exact ⟨hss, h2.2⟩
    | ret v => exact ⟨hss, h2.2⟩
  | false =>
    simp only [Bool.false_eq_true, if_false] at h1 ⊢
    exact wpAny_execs_nil ⟨hI.1.trans h1.1, h1.2⟩
/-- an iterator of the call's own has moved on -/
theorem Ses.moved (S : Ses h0 hs D env m P h) {I : Addr} {oI : Obj} {h' : Heap} (hI : h.get? I = some oI) (hnm : ¬ Mut oI) (hseq : ∀ vs n, oI.data ≠ .seq vs n) (hnew : hs.get? I = none)
    (hz : h.objs.size ≤ h'.objs.size) (k : ∀ b o, b ≠ I → h.get? b = some o → h'.get? b = some o) : Ses h0 hs D env m P h' := by
  refine { fr := S.fr.keeps fun b o e q => k b o ?_ e, ext := ⟨fun b o q e => ?_, Nat.le_trans S.ext.size hz⟩, nw := S.nw, gnd := S.gnd, out := S.out, st := S.st, dat := S.st _ _ S.dat fun b o e q => k b o ?_ e, gl := S.gl, bu := S.bu }
  · rintro rfl
    rw [hI] at e; cases e
    exact hnm (.inr q)
  · exact k b o (by rintro rfl; rw [hnew] at e; cases e) (S.ext.get b o q e)
  · rintro rfl
    rw [hI] at e; cases e
    obtain ⟨vs, n, q⟩ := q
    exact hseq vs n q
theorem none_above {h : Heap} {a : Addr} (x : h.objs.size ≤ a) : h.get? a = none := by
  cases e : h.get? a with
  | none => rfl
  | some o => exact absurd (Heap.lt_size e) (Nat.not_lt.mpr x)
theorem notmut_iter {T : String} {vs : Array Value} {d : Option Addr} {sl : Array (Option Value)} (hT : T ≠ "list") : ¬ Mut ({ cls := .type T, dict := d, data := .fields vs, slots := sl } : Obj) := by
  rintro (h | ⟨_, _, h⟩ | ⟨_, h⟩)
  · exact hT (by injection h)
  · cases h
  · cases h
theorem T_range2 {a b : Int} {t u : Tok} {Q : Value → Heap → Prop} (S : Ses h0 hs D env m P h)
    (q : ∀ r h' t1 t2 t3, Ses h0 hs D env m P h' → IsRange h' r a b 1 t1 t2 t3 → Q (.ref r) h') : Tr prog w A (call (.type "range") [.int a t, .int b u]) h Q := fun s e => by
  subst e
  exact call_range_2 ⟨⟨rfl, rfl, rfl⟩, q _ _ _ _ _ (S.push _) (IsRange.new ..)⟩
theorem T_range1 {b : Int} {u : Tok} {Q : Value → Heap → Prop} (S : Ses h0 hs D env m P h)
    (q : ∀ r h' t1 t2 t3, Ses h0 hs D env m P h' → IsRange h' r 0 b 1 t1 t2 t3 → Q (.ref r) h') : Tr prog w A (call (.type "range") [.int b u]) h Q := fun s e => by
  subst e
  exact call_range_1 ⟨⟨rfl, rfl, rfl⟩, q _ _ _ _ _ (S.push _) (IsRange.new ..)⟩
theorem T_iterRange {r : Addr} {a b : Int} {t1 t2 t3 : Tok} {Q : Value → Heap → Prop} (S : Ses h0 hs D env m P h) (hr : IsRange h r a b 1 t1 t2 t3) (ha : 0 ≤ a) (ha' : a < 2 ^ 62) (hb : 0 ≤ b) (hb' : b < 2 ^ 62)
    (q : ∀ I h', Ses h0 hs D env m P h' → h.get? I = none → h.objs.size ≤ I → IsRangeIter h' I a (((b - a).toNat : Nat) : Int) 1 → Q (.ref I) h') : Tr prog w A (pyIter (.ref r)) h Q := fun s e => by
  subst e
  refine wpAny_pyIter_range hr (small_one (by omega) ha' (by omega) hb') ⟨⟨rfl, rfl, rfl⟩, q _ _ (S.push _) (none_above (Nat.le_refl _)) (Nat.le_refl _) ?_⟩
  have e : Builtin.Range.rangeSize a b 1 = (((b - a).toNat : Nat) : Int) := by rw [rangeSize_one]; split <;> omega
  rw [e]
  exact Heap.get?_push_size _ rfl
/-- for x in range(a, b) -/
theorem T_forRange {x : Str} {px : Pos} {body : List Stmt} {I : Addr} {a : Int} {n : Nat} {Q : Flow → Heap → Prop} (hh : A.handled = none) (S : Ses h0 hs D env m P h) (ha : Asg env D x) (hnew : hs.get? I = none) (hI : IsRangeIter h I a (n : Int) 1)
    (J : Nat → (Str → Option Value) → Heap → Prop) (hJ : ∀ i m, Stable (J i m))
    (start : J 0 m h)
    (step : ∀ i m h t, i < n → Ses h0 h D env (upd m x (.int (a + i) t)) (J i m) h → (∀ m' P' h', Ses h0 h D env m' P' h' → Ses h0 hs D env m' P' h') →
      Tr prog w A (execs body env) h (KBd (fun h' => ∃ m', Ses h0 h D env m' (J (i + 1) m') h') Q))
    (fin : ∀ m h, Ses h0 hs D env m (J n m) h → Q .next h) : TrC prog w A (.forLoop (.Name x px) (.ref I) body [] env) h Q := by
  refine T_forLoop n (fun i h => ∃ m, Ses h0 hs D env m (J i m) h ∧ IsRangeIter h I (a + i) ((n : Int) - i) 1) (fun i h hi hI => ?_) (fun h hI => ?_) ⟨m, S.with (hJ 0 m) start, by simpa using hI⟩
  · obtain ⟨m, S, hI⟩ := hI
    intro s e
    subst e
    refine wpAny_pyNext_range_item hI (by omega) fun h' hI' hs' => ⟨⟨rfl, rfl, rfl⟩, _, rfl, ?_⟩
    have S' := S.moved hI (notmut_iter (by decide)) (by intro _ _ e; cases e) hnew (Nat.le_of_eq hs'.1.symm) fun b o hb e => (hs'.2 b hb).trans e
    refine T_pure (T_toName (T_st S'.anew ha fun h2 S2 => ?_))
    have k2 := S2.ext.get I _ (.inr (notmut_iter (by decide))) hI'
    refine (step i m h2 _ hi S2.anew fun m' P' h'' X => S'.join (S2.join X)).mono fun f h4 q => ?_
    have nx : (∃ m', Ses h0 h2 D env m' (J (i + 1) m') h4) → ∃ m, Ses h0 hs D env m (J (i + 1) m) h4 ∧ IsRangeIter h4 I (a + ((i + 1 : Nat) : Int)) ((n : Int) - ((i + 1 : Nat) : Int)) 1 := by
      rintro ⟨m', X⟩
      refine ⟨m', S'.join (S2.join X), ?_⟩
      have k4 := X.ext.get I _ (.inr (notmut_iter (by decide))) k2
      have e1 : a + ((i + 1 : Nat) : Int) = a + (i : Int) + 1 := by omega
      have e2 : (n : Int) - ((i + 1 : Nat) : Int) = (n : Int) - (i : Int) - 1 := by omega
      rw [e1, e2]; exact k4
    cases f with
    | next => exact nx q
    | cont => exact nx q
    | brk => exact q
    | ret v => exact q
  · obtain ⟨m, S, hI⟩ := hI
    refine (Tr.size (Q := fun r h1 => r = none ∧ (h1.objs.size = h1.objs.size → ∀ b o, b ≠ I → h.get? b = some o → h1.get? b = some o)) fun s e => ?_).mono fun r h1 q => ⟨q.2.1, ?_⟩
    · subst e
      exact wpAny_pyNext_range_end hh hI (by omega) fun h' hx => ⟨⟨rfl, rfl, rfl⟩, rfl, fun _ => hx⟩
    · exact fin m h1 (S.moved hI (notmut_iter (by decide)) (by intro _ _ e; cases e) hnew q.1 (q.2.2 rfl))
end
end Mine
namespace Mine
/-- the def f of the text stands at the address f -/
structure FnIs (h0 : Heap) (f : Addr) (cd : Value) (name : Str) (params : Arguments) (body : List Stmt) (scope : Scope) : Prop where
  at' : ∃ o kV doc pm an ct, h0.get? f = some o ∧ o.data = .func (fnOf name name params body scope .none kV doc pm an cd ct)
  code : h0.CodeRec cd name
noncomputable def envF (name : Str) (scope : Scope) (L f : Addr) (cd : Value) : Env :=
  { scope := scope, locals := L, globals := mainGlobals, cells := cellsFrom (L + 1) scope.names [], qual := name ++ ".<locals>.", func := some f, code := cd, frame := some L, builtins := builtinsNs }
theorem lookup_snoc {α : Type} [BEq α] {β : Type} (l : List (α × β)) (n : α) (v : β) (x : α) : (l ++ [(n, v)]).lookup x = (l.lookup x).or (if x == n then some v else none) := by
  induction l with
  | nil => simp [List.lookup_cons]; cases x == n <;> rfl
  | cons p l ih =>
    obtain ⟨k, u⟩ := p
    simp only [List.cons_append, List.lookup_cons]
    cases x == k <;> simp [ih]
theorem bindL_eq (kindOf : Str → Option NameKind) (x : Str) (hx : kindOf x = some .local) : ∀ (binds : List (Str × Value)) (m : Str → Option Value), bindL kindOf binds m x = (binds.reverse.lookup x).or (m x)
  | [], m => rfl
  | (n, v) :: r, m => by
    show bindL kindOf r (if kindOf n = some .local then fun y => if y = n then some v else m y else m) x = _
    rw [bindL_eq kindOf x hx r, List.reverse_cons, lookup_snoc]
    cases hr : r.reverse.lookup x with
    | some u => rfl
    | none =>
      show (if kindOf n = some .local then fun y => if y = n then some v else m y else m) x = ((if x == n then some v else none) : Option Value).or (m x)
      by_cases hn : x = n
      · subst hn; rw [if_pos hx]; simp
      · rw [show (x == n) = false from by simpa using hn]
        by_cases hk : kindOf n = some .local
        · rw [if_pos hk]; simp [hn]
        · rw [if_neg hk]; rfl
theorem bindC_eq (kindOf : Str → Option NameKind) (x : Str) (hx : kindOf x ≠ some .local) : ∀ (binds : List (Str × Value)) (m : Str → Option Value), bindC kindOf binds m x = (binds.reverse.lookup x).or (m x)
  | [], m => rfl
  | (n, v) :: r, m => by
    show bindC kindOf r (if kindOf n = some .local then m else fun y => if y = n then some v else m y) x = _
    rw [bindC_eq kindOf x hx r, List.reverse_cons, lookup_snoc]
    cases hr : r.reverse.lookup x with
    | some u => rfl
    | none =>
      show (if kindOf n = some .local then m else fun y => if y = n then some v else m y) x = ((if x == n then some v else none) : Option Value).or (m x)
      by_cases hn : x = n
      · subst hn; rw [if_neg hx]; simp
      · rw [show (x == n) = false from by simpa using hn]
        by_cases hk : kindOf n = some .local
        · rw [if_pos hk]; rfl
        · rw [if_neg hk]; simp [hn]
theorem apart_lookup : ∀ {cs : List (Str × Addr)} (_ : cs.Pairwise fun x y => x.2 ≠ y.2) (x y : Str) (c : Addr), (x, c) ∈ cs → (y, c) ∈ cs → x = y
  | [], _, _, _, _, h, _ => nomatch h
  | p :: r, hp, x, y, c, h1, h2 => by
    obtain ⟨hp1, hp2⟩ := List.pairwise_cons.mp hp
    rcases List.mem_cons.mp h1 with e1 | e1 <;> rcases List.mem_cons.mp h2 with e2 | e2
    · rw [← e1] at e2; exact (congrArg Prod.fst e2).symm
    · exact absurd (by rw [← e1]) (hp1 _ e2)
    · exact absurd (by rw [← e2]) (hp1 _ e1)
    · exact apart_lookup hp2 x y c e1 e2
theorem cellsFrom_mem : ∀ (names : List (Str × NameKind)) (n : Nat) (acc : List (Str × Addr)) (y : Str) (c : Addr), (y, c) ∈ cellsFrom n names acc → (y, c) ∈ acc ∨ (y, NameKind.cell) ∈ names
  | [], _, _, _, _, h => .inl h
  | (x, k) :: r, n, acc, y, c, h => by
    unfold cellsFrom at h
    split at h
    · rename_i hk
      rcases cellsFrom_mem r _ _ y c h with q | q
      · rcases List.mem_cons.mp q with q | q
        · refine .inr ?_
          have : k = .cell := by simpa using hk
          subst this
          rw [show y = x from congrArg Prod.fst q]
          exact .head _
        · exact .inl q
      · exact .inr (.tail _ q)
    · rcases cellsFrom_mem r _ _ y c h with q | q
      · exact .inl q
      · exact .inr (.tail _ q)
/-- what a flow hands back -/
noncomputable def retOf : Flow → Value
  | .ret v => v
  | _ => .none
/-- the names of a call begun at h: the lists of Dc, and what is new -/
noncomputable def Dn (Dc : Addr → Prop) (h : Heap) : Addr → Prop := fun b => Dc b ∨ h.objs.size ≤ b
section
variable {prog : Program} {w : World} {A : Around} {h0 h : Heap} {P : Heap → Prop}
theorem T_fn {f : Addr} {cd : Value} {name : Str} {params : Arguments} {body : List Stmt} {scope : Scope} {k : Nat} {vals : List Value} {binds : List (Str × Value)} {Q : Value → Heap → Prop}
    (F : FnIs h0 f cd name params body scope) (hb : ∀ b o, h0.get? b = some o → h.get? b = some o) (hsz : h0.objs.size ≤ h.objs.size) (hl : h0.NoLimit) (R : Rm A (k + 1)) (Dc : Addr → Prop) (hDc : ∀ b, Dc b → h0.objs.size ≤ b) (st : Stable P) (p : P h)
    (hbind : ∀ kV doc pm an ct, bindArgs (fnOf name name params body scope .none kV doc pm an cd ct) ⟨vals, []⟩ = pure binds)
    (hkind : (binds.all fun y => scope.names.lookup y.1 == some .local || (scope.names.lookup y.1 == some .cell && ((cellsFrom 0 scope.names []).lookup y.1).isSome)) = true)
    (q : ∀ L h1, L = h.objs.size → Ses h0 h (Dn Dc h) (envF name scope L f cd) (fun x => binds.reverse.lookup x) P h1 → Rm (A.deeper (envF name scope L f cd)) k →
      Tr prog w (A.deeper (envF name scope L f cd)) (execs body (envF name scope L f cd)) h1 (fun fl h2 => Q (retOf fl) h2))
    (hcl : (scope.names.all fun x => x.2 != .cell || scope.names.lookup x.1 == some .cell) = true := by rfl)
    (hco : scope.isCoroutine = false := by rfl) (hgen : scope.isGenerator = false := by rfl) (hk : scope.kind = .function := by rfl) :
    Tr prog w A (call (.ref f) vals) h Q := fun s e => by
  subst e
  obtain ⟨o, kV, doc, pm, an, ct, ho, hd⟩ := F.at'
  refine wpAny_call (codeAny_call_cells (fd := fnOf name name params body scope .none kV doc pm an cd ct) (by have := R.depth; have e : recursionLimit = 1000 := rfl; omega) (hb _ _ ho) hd (hl.keeps hb) (F.code.keeps hb) rfl (hbind ..) rfl (fun x hx => ?_) (fun s₁ x => ?_) hco hgen hk)
  · have := List.all_eq_true.mp hkind x hx
    rcases Bool.or_eq_true_iff.mp this with q | q
    · exact .inl (by simpa using q)
    · obtain ⟨q1, q2⟩ := Bool.and_eq_true_iff.mp q
      have q1' : scope.names.lookup x.1 = some .cell := by simpa using q1
      exact .inr ⟨q1', cellsFrom_some _ _ _ (.inl q1')⟩
  · have henv : callEnvC (fnOf name name params body scope .none kV doc pm an cd ct) s.heap.objs.size f = envF name scope s.heap.objs.size f cd := rfl
    rw [henv] at x ⊢
    obtain ⟨h1, tk, rfl⟩ := x.toInCall.same
    have S : Ses h0 s.heap (Dn Dc s.heap) (envF name scope s.heap.objs.size f cd) (fun x => binds.reverse.lookup x) P h1 :=
      { fr := { kind := hk, loc := ⟨_, x.toInCall.ns, fun y hy => by rw [bindL_eq _ _ hy]; simp⟩,
                cel := fun y c hy => by
                  have := x.cell y c hy
                  rw [bindC_eq _ _ (fun q => by
                    rcases cellsFrom_mem _ _ _ _ _ (mem_of_lookup hy) with e | e
                    · cases e
                    · have hz := List.all_eq_true.mp hcl _ e
                      have hz' : scope.names.lookup y = some .cell := by simpa using hz
                      have q' : scope.names.lookup y = some .local := q
                      rw [hz'] at q'; cases q')] at this
                  simpa using this
                apart := fun y z c h1 h2 => apart_lookup x.apart y z c (mem_of_lookup h1) (mem_of_lookup h2) }
        ext := ⟨fun b o _ e => x.toInCall.keep b o e, Nat.le_of_lt x.toInCall.ns.lt⟩, nw := fun b hb => .inr hb, gnd := hb,
        out := fun b hb' => hb'.elim (hDc b) fun q => Nat.le_trans hsz q, st := st, dat := st _ _ p (KD.of_all x.toInCall.keep), gl := rfl, bu := rfl }
    refine wpAny_mono (q _ h1 rfl S (R.deeper hgen hco rfl rfl) _ rfl) (fun fl s' r => ?_) fun _ _ f => f.elim
    cases fl <;> exact ⟨⟨r.1.1, r.1.2.1, r.1.2.2⟩, r.2⟩
end
theorem Ses.back {h0 h h' : Heap} {Dc : Addr → Prop} {env : Env} {m : Str → Option Value} {P : Heap → Prop} (S : Ses h0 h (Dn Dc h) env m P h') : Ext Dc h h' :=
  S.ext.mono fun d hd hlt => hd.elim id fun x => absurd hlt (Nat.not_lt.mpr x)
end Mine
namespace Mine
section
noncomputable abbrev KAo (prog : Program) (w : World) (A : Around) (ts : List (Value → Sem Unit)) (xs : List Value) (Q : Unit → Heap → Prop) : Unit → Heap → Prop := fun _ h1 => Tr prog w A (assignInOrder ts xs) h1 Q
variable {prog : Program} {w : World} {A : Around} {h0 hs h : Heap} {D : Addr → Prop} {env : Env} {m : Str → Option Value} {P : Heap → Prop}
theorem T_ao0 {Q : Unit → Heap → Prop} (q : Q () h) : Tr prog w A (assignInOrder [] []) h Q := fun s e => wpAny_assignInOrder_none ⟨Same.refl s, e ▸ q⟩
theorem T_ao {t : Value → Sem Unit} {ts : List (Value → Sem Unit)} {x : Value} {xs : List Value} {Q : Unit → Heap → Prop} (q : Tr prog w A (t x) h (KAo prog w A ts xs Q)) :
    Tr prog w A (assignInOrder (t :: ts) (x :: xs)) h Q :=
  fun s e => wpAny_assignInOrder_more (wpAny_mono (q s e) (fun _ s' q => wpAny_mono (q.2 s' rfl) (fun _ _ r => ⟨q.1.trans r.1, r.2⟩) fun _ _ r => r) fun _ _ q => q)
theorem T_bindName {x : Str} {v : Value} {Q : Unit → Heap → Prop} (q : Tr prog w A (storeName env x v) h Q) : Tr prog w A (bindName env x v) h Q := fun s e => wpAny_bindName (q s e)
theorem T_unpackItems {t : Addr} {vs : Array Value} {n : Nat} {Q : List Value → Heap → Prop} (hh : A.handled = none) (S : Ses h0 hs D env m P h) (ht : h.IsTuple t vs) (hn : vs.size = n)
    (q : ∀ h', Ses h0 hs D env m P h' → (∀ b o, h.get? b = some o → h'.get? b = some o) → Q vs.toList h') : Tr prog w A (unpackItems (.ref t) n none) h Q := by
  subst hn
  refine (Tr.size (Q := fun l h' => l = vs.toList ∧ ∀ b o, h.get? b = some o → h'.get? b = some o) fun s e => ?_).mono fun l h' q' => ?_
  · subst e
    exact wpAny_unpackItems_tuple hh ht fun h' hx => ⟨⟨rfl, rfl, rfl⟩, rfl, fun b o eb => hx b o (Nat.ne_of_lt (Heap.lt_size eb)) eb⟩
  · obtain ⟨hz, rfl, k⟩ := q'
    exact q h' (S.on S.st (S.st _ _ S.dat (KD.of_all k)) hz k) k
theorem T_toTuple {elts : List Expr} {k : Nat} {pos : Pos} {t : Addr} {vs : Array Value} {Q : Unit → Heap → Prop} (hh : A.handled = none) (S : Ses h0 hs D env m P h) (ht : h.IsTuple t vs)
    (hn : (assignEach elts env).length = vs.size) (hstar : (assignEach elts env).findIdx? (·.1) = none)
    (q : ∀ h', Ses h0 hs D env m P h' → (∀ b o, h.get? b = some o → h'.get? b = some o) → Tr prog w A (assignInOrder ((assignEach elts env).map (·.2)) vs.toList) h' Q) : Tr prog w A (assign (.Tuple elts k pos) env (.ref t)) h Q := by
  intro s e
  subst e
  show wpAny _ A (do standAt pos; unpack (.ref t) (assignEach elts env)) _ _ s
  refine wpAny_bind (wpAny_standAt ?_)
  unfold unpack
  rw [hn, hstar]
  refine wpAny_bind (wpAny_holding (wpAny_mono (T_unpackItems (prog := prog) (w := w) (Q := fun l h' => Ses h0 hs D env m P h' ∧ l = vs.toList ∧ ∀ b o, s.heap.get? b = some o → h'.get? b = some o) hh S ht rfl (fun h' S' k => ⟨S', rfl, k⟩) s rfl) (fun l s' r => ?_) fun _ _ f => f))
  obtain ⟨e1, S', rfl, k⟩ := r
  exact wpAny_mono (q s'.heap S' k s' rfl) (fun _ _ r => ⟨e1.trans r.1, r.2⟩) fun _ _ f => f
/-- two or three local names at once: the stores go from the last to the first -/
theorem T_asSwap {elts : List Expr} {k : Nat} {tpos : Pos} {value : Expr} {pos : Pos} {names : List Str} {Q : Flow → Heap → Prop}
    (q : Tr prog w A (eval value env) h (fun v h1 => Tr prog w A (unpackItems v names.length none) h1 (fun items h2 => Tr prog w A (assignInOrder (names.reverse.map fun n => bindName env n) items.reverse) h2 (fun _ h3 => Q .next h3))))
    (hs : swapsWithSole [.Tuple elts k tpos] value pos.line env = pure false := by rfl)
    (hw : swappedStores [.Tuple elts k tpos] value env = pure (some names) := by rfl) : Tr prog w A (exec (.Assign [.Tuple elts k tpos] value pos) env) h Q :=
  fun s e => Assign_Tuple_swapped (wpAny_mono (q s e) (fun _ s1 q1 => wpAny_mono (q1.2 s1 rfl) (fun _ s2 q2 => wpAny_mono (q2.2 s2 rfl) (fun _ _ r => ⟨(q1.1.trans q2.1).trans r.1, r.2⟩) fun _ _ r => r) fun _ _ r => r) fun _ _ q => q) hs hw
end
end Mine
namespace Mine
/-- an iterator as a loop of the frame env sees it: n items; St: where it stands; U: what a turn's start does to the names; K: what must stand for it -/
structure Draw (prog : Program) (w : World) (A : Around) (h0 hs : Heap) (D : Addr → Prop) (env : Env) (it : Value) (target : Expr) (n : Nat) (St : Nat → Heap → Prop)
    (U : Nat → (Str → Option Value) → (Str → Option Value) → Prop) (K : Heap → Prop) : Prop where
  item : ∀ i m P h, i < n → (∀ h, P h → K h) → Ses h0 hs D env m P h → St i h →
    Tr prog w A (pyNext it) h (fun r h1 => ∃ v, r = some v ∧ Tr prog w A (letOwnedTupleGo target it v) h1 (fun _ h2 => Tr prog w A (assign target env v) h2 (fun _ h3 => ∃ m', Ses h0 hs D env m' P h3 ∧ St (i + 1) h3 ∧ U i m m')))
  done : ∀ m P h, (∀ h, P h → K h) → Ses h0 hs D env m P h → St n h → Tr prog w A (pyNext it) h (fun r h1 => r = none ∧ Ses h0 hs D env m P h1)
  keep : ∀ i h h', St i h → (∀ b o, ¬ Mut o → h.get? b = some o → h'.get? b = some o) → St i h'
  self : ∀ i h Q, St i h → Q it h → Tr prog w A (pyIter it) h Q
section
variable {prog : Program} {w : World} {A : Around} {h0 hs h : Heap} {D : Addr → Prop} {env : Env} {m : Str → Option Value} {P : Heap → Prop}
theorem letGo_name {x : Str} {px : Pos} {it v : Value} : letOwnedTupleGo (.Name x px) it v = pure () := rfl
theorem drawRange {x : Str} {px : Pos} {I : Addr} {a : Int} {n : Nat} (hh : A.handled = none) (ha : Asg env D x) (hnew : hs.get? I = none) :
    Draw prog w A h0 hs D env (.ref I) (.Name x px) n (fun i h => IsRangeIter h I (a + (i : Int)) ((n : Int) - (i : Int)) 1) (fun i m m' => ∃ t, m' = upd m x (.int (a + (i : Int)) t)) (fun _ => True) where
  item := fun i m P h hi _ S hI s e => by
    subst e
    refine wpAny_pyNext_range_item hI (by omega) fun h' hI' hs' => ⟨⟨rfl, rfl, rfl⟩, _, rfl, ?_⟩
    have S' := S.moved hI (notmut_iter (by decide)) (by intro _ _ e; cases e) hnew (Nat.le_of_eq hs'.1.symm) fun b o hb e => (hs'.2 b hb).trans e
    refine T_pure (T_toName (T_st S'.anew ha fun h2 S2 => ⟨_, S'.join S2, ?_, _, rfl⟩))
    have k2 := S2.ext.get I _ (.inr (notmut_iter (by decide))) hI'
    have e1 : a + ((i + 1 : Nat) : Int) = a + (i : Int) + 1 := by omega
    have e2 : (n : Int) - ((i + 1 : Nat) : Int) = (n : Int) - (i : Int) - 1 := by omega
    rw [e1, e2]; exact k2
  done := fun m P h _ S hI => by
    refine (Tr.size (Q := fun r h1 => r = none ∧ ∀ b o, b ≠ I → h.get? b = some o → h1.get? b = some o) fun s e => ?_).mono fun r h1 q => ⟨q.2.1, S.moved hI (notmut_iter (by decide)) (by intro _ _ e; cases e) hnew q.1 q.2.2⟩
    subst e
    exact wpAny_pyNext_range_end hh hI (by omega) fun h' hx => ⟨⟨rfl, rfl, rfl⟩, rfl, hx⟩
  keep := fun i h h' hI k => k _ _ (notmut_iter (by decide)) hI
  self := fun i h Q hI q s e => by subst e; exact wpAny_pyIter_rangeiter hI ⟨Same.refl s, q⟩
theorem notmut_li {o : Obj} {v : Array Value} (hc : o.cls = .type "list_iterator") (hd : o.data = .fields v) : ¬ Mut o := by
  rintro (h | ⟨_, _, h⟩ | ⟨_, h⟩)
  · rw [hc] at h; exact absurd h (by decide)
  · rw [hd] at h; cases h
  · rw [hd] at h; cases h
theorem notmut_ti {o : Obj} {v : Array Value} (hc : o.cls = .type "tuple_iterator") (hd : o.data = .fields v) : ¬ Mut o := by
  rintro (h | ⟨_, _, h⟩ | ⟨_, h⟩)
  · rw [hc] at h; exact absurd h (by decide)
  · rw [hd] at h; cases h
  · rw [hd] at h; cases h
theorem drawList {x : Str} {px : Pos} {I l : Addr} {vs : Array Value} (hh : A.handled = none) (ha : Asg env D x) (hnew : hs.get? I = none) :
    Draw prog w A h0 hs D env (.ref I) (.Name x px) vs.size (fun i h => h.IsListIter I l i) (fun i m m' => ∃ v, vs[i]? = some v ∧ m' = upd m x v) (fun h => h.IsList l vs) where
  item := fun i m P h hi hK S hI s e => by
    subst e
    obtain ⟨o, ho, hc, hd⟩ := id hI
    have hv : vs[i]? = some vs[i] := by simp [hi]
    refine wpAny_pyNext_list_item hI (hK _ S.dat) hv fun h' hI' hs' => ⟨⟨rfl, rfl, rfl⟩, _, rfl, ?_⟩
    have S' := S.moved ho (notmut_li hc hd) (by intro _ _ e; rw [hd] at e; cases e) hnew (Nat.le_of_eq hs'.1.symm) fun b o hb e => (hs'.2 b hb).trans e
    refine T_pure (T_toName (T_st S'.anew ha fun h2 S2 => ⟨_, S'.join S2, ?_, _, hv, rfl⟩))
    obtain ⟨o', ho', hc', hd'⟩ := hI'
    exact ⟨o', S2.ext.get I _ (.inr (notmut_li hc' hd')) ho', hc', hd'⟩
  done := fun m P h hK S hI => by
    obtain ⟨o, ho, hc, hd⟩ := id hI
    refine (Tr.size (Q := fun r h1 => r = none ∧ ∀ b o, b ≠ I → h.get? b = some o → h1.get? b = some o) fun s e => ?_).mono fun r h1 q => ⟨q.2.1, S.moved ho (notmut_li hc hd) (by intro _ _ e; rw [hd] at e; cases e) hnew q.1 q.2.2⟩
    subst e
    exact wpAny_pyNext_list_end hh hI (hK _ S.dat) (by simp) fun h' hx => ⟨⟨rfl, rfl, rfl⟩, rfl, hx⟩
  keep := fun i h h' hI k => by
    obtain ⟨o, ho, hc, hd⟩ := hI
    exact ⟨o, k _ _ (notmut_li hc hd) ho, hc, hd⟩
  self := fun i h Q hI q s e => by subst e; exact wpAny_pyIter_listiter hI ⟨Same.refl s, q⟩
theorem drawTup {x : Str} {px : Pos} {I l : Addr} {vs : Array Value} (hh : A.handled = none) (ha : Asg env D x) (hnew : hs.get? I = none) :
    Draw prog w A h0 hs D env (.ref I) (.Name x px) vs.size (fun i h => h.IsTupleIter I l i) (fun i m m' => ∃ v, vs[i]? = some v ∧ m' = upd m x v) (fun h => h.IsTuple l vs) where
  item := fun i m P h hi hK S hI s e => by
    subst e
    obtain ⟨o, ho, hc, hd⟩ := id hI
    have hv : vs[i]? = some vs[i] := by simp [hi]
    refine wpAny_pyNext_tuple_item hI (hK _ S.dat) hv fun h' hI' hs' => ⟨⟨rfl, rfl, rfl⟩, _, rfl, ?_⟩
    have S' := S.moved ho (notmut_ti hc hd) (by intro _ _ e; rw [hd] at e; cases e) hnew (Nat.le_of_eq hs'.1.symm) fun b o hb e => (hs'.2 b hb).trans e
    refine T_pure (T_toName (T_st S'.anew ha fun h2 S2 => ⟨_, S'.join S2, ?_, _, hv, rfl⟩))
    obtain ⟨o', ho', hc', hd'⟩ := hI'
    exact ⟨o', S2.ext.get I _ (.inr (notmut_ti hc' hd')) ho', hc', hd'⟩
  done := fun m P h hK S hI => by
    obtain ⟨o, ho, hc, hd⟩ := id hI
    refine (Tr.size (Q := fun r h1 => r = none ∧ ∀ b o, b ≠ I → h.get? b = some o → h1.get? b = some o) fun s e => ?_).mono fun r h1 q => ⟨q.2.1, S.moved ho (notmut_ti hc hd) (by intro _ _ e; rw [hd] at e; cases e) hnew q.1 q.2.2⟩
    subst e
    exact wpAny_pyNext_tuple_end hh hI (hK _ S.dat) (by simp) fun h' hx => ⟨⟨rfl, rfl, rfl⟩, rfl, hx⟩
  keep := fun i h h' hI k => by
    obtain ⟨o, ho, hc, hd⟩ := hI
    exact ⟨o, k _ _ (notmut_ti hc hd) ho, hc, hd⟩
  self := fun i h Q hI q s e => by subst e; exact wpAny_pyIter_tupleiter hI ⟨Same.refl s, q⟩
/-- for a, b in enumerate(l) -/
theorem drawEnum {x y : Str} {px py pt : Pos} {kk : Nat} {I e l : Addr} {vs : Array Value} (hh : A.handled = none) (hx : Asg env D x) (hy : Asg env D y) (hnew : hs.get? I = none) (hnewe : hs.get? e = none) (hne : e ≠ I) :
    Draw prog w A h0 hs D env (.ref e) (.Tuple [.Name x px, .Name y py] kk pt) vs.size (fun i h => (∃ old, IsEnum h e I (i : Int) old) ∧ h.IsListIter I l i)
      (fun i m m' => ∃ t v, vs[i]? = some v ∧ m' = upd (upd m x (.int (i : Int) t)) y v) (fun h => h.IsList l vs) where
  item := fun i m P h hi hK S hI s es => by
    subst es
    obtain ⟨⟨old, hE⟩, hI⟩ := hI
    obtain ⟨o, ho, hc, hd⟩ := id hI
    have hv : vs[i]? = some vs[i] := by simp [hi]
    refine wpAny_pyNext_enum_item hE hI (hK _ S.dat) hv hne fun h1 hE1 hI1 ht1 hz1 hk1 => ⟨⟨rfl, rfl, rfl⟩, _, rfl, ?_⟩
    -- the two iterators have moved: S at h1
    have eH : e < s.heap.objs.size := Heap.lt_size hE
    have iH : I < s.heap.objs.size := Heap.lt_size ho
    have S1 : Ses h0 hs D env m P h1 :=
      { fr := S.fr.keeps fun b ob eb q => hk1 b ob (by rintro rfl; rw [hE] at eb; cases eb; exact notmut_iter (by decide) (.inr q)) (by rintro rfl; rw [ho] at eb; cases eb; exact notmut_li hc hd (.inr q)) eb
        ext := ⟨fun b ob q eb => hk1 b ob (by rintro rfl; rw [hnewe] at eb; cases eb) (by rintro rfl; rw [hnew] at eb; cases eb) (S.ext.get b ob q eb), Nat.le_trans S.ext.size (by rw [hz1]; exact Nat.le_succ _)⟩
        nw := S.nw, gnd := S.gnd, out := S.out, st := S.st
        dat := S.st _ _ S.dat fun b ob eb q => hk1 b ob (by rintro rfl; rw [hE] at eb; cases eb; obtain ⟨_, _, q⟩ := q; cases q) (by rintro rfl; rw [ho] at eb; cases eb; obtain ⟨_, _, q⟩ := q; rw [hd] at q; cases q) eb
        gl := S.gl, bu := S.bu }
    intro s2 e2
    subst e2
    refine wpAny_letOwnedTupleGo_enum hE1 fun h2 hE2 hs2 => ⟨⟨rfl, rfl, rfl⟩, ?_⟩
    have S2 := S1.moved hE1 (notmut_iter (by decide)) (by intro _ _ e; cases e) hnewe (Nat.le_of_eq hs2.1.symm) fun b o hb e => (hs2.2 b hb).trans e
    have ht2 : h2.IsTuple s.heap.objs.size #[.int (i : Int) s.toks, vs[i]] := ⟨_, (hs2.2 _ (Nat.ne_of_gt eH)).trans ht1, rfl, _, rfl⟩
    obtain ⟨o1, ho1, hc1, hd1⟩ := id hI1
    have hI2 : h2.get? I = some o1 := (hs2.2 _ (Ne.symm hne)).trans ho1
    show Tr prog w A _ h2 _
    refine T_toTuple hh S2.anew ht2 rfl rfl fun h3 S3 k3 => ?_
    refine T_ao (T_toName (T_st S3 hx fun h4 S4 => ?_))
    refine T_ao (T_toName (T_st S4 hy fun h5 S5 => T_ao0 ⟨_, S2.join S5, ⟨⟨vs[i], ?_⟩, ?_⟩, _, _, hv, rfl⟩))
    · have : ((i + 1 : Nat) : Int) = (i : Int) + 1 := by omega
      rw [this]
      exact S5.ext.get e _ (.inr (notmut_iter (by decide))) hE2
    · exact ⟨o1, S5.ext.get I _ (.inr (notmut_li hc1 hd1)) hI2, hc1, hd1⟩
  done := fun m P h hK S hI => by
    obtain ⟨⟨old, hE⟩, hI⟩ := hI
    obtain ⟨o, ho, hc, hd⟩ := id hI
    refine (Tr.size (Q := fun r h1 => r = none ∧ ∀ b o, b ≠ I → h.get? b = some o → h1.get? b = some o) fun s e => ?_).mono fun r h1 q => ⟨q.2.1, S.moved ho (notmut_li hc hd) (by intro _ _ e; rw [hd] at e; cases e) hnew q.1 q.2.2⟩
    subst e
    exact wpAny_pyNext_enum_end hh hE hI (hK _ S.dat) (by simp) fun h' hx => ⟨⟨rfl, rfl, rfl⟩, rfl, hx⟩
  keep := fun i h h' hI k => by
    obtain ⟨⟨old, hE⟩, o, ho, hc, hd⟩ := hI
    exact ⟨⟨old, k _ _ (notmut_iter (by decide)) hE⟩, o, k _ _ (notmut_li hc hd) ho, hc, hd⟩
  self := fun i h Q hI q s es => by
    obtain ⟨⟨old, hE⟩, _⟩ := hI
    subst es
    exact wpAny_pyIter_enum hE ⟨Same.refl s, q⟩
end
end Mine
namespace Mine
section
variable {prog : Program} {w : World} {A : Around} {h0 hs h : Heap} {D : Addr → Prop} {env : Env} {m : Str → Option Value} {P : Heap → Prop}
/-- a for over an iterator -/
theorem T_forD {target : Expr} {it : Value} {body : List Stmt} {n : Nat} {St : Nat → Heap → Prop} {U : Nat → (Str → Option Value) → (Str → Option Value) → Prop} {K : Heap → Prop} {Q : Flow → Heap → Prop}
    (Dr : Draw prog w A h0 hs D env it target n St U K) (S : Ses h0 hs D env m P h) (hSt : St 0 h)
    (J : Nat → (Str → Option Value) → Heap → Prop) (hJ : ∀ i m, Stable (J i m)) (hK : ∀ i m h, J i m h → K h) (start : J 0 m h)
    (step : ∀ i m m' h, i < n → U i m m' → Ses h0 h D env m' (J i m) h → (∀ m' P' h', Ses h0 h D env m' P' h' → Ses h0 hs D env m' P' h') →
      Tr prog w A (execs body env) h (KBd (fun h' => ∃ m', Ses h0 h D env m' (J (i + 1) m') h') Q))
    (fin : ∀ m h, Ses h0 hs D env m (J n m) h → Q .next h) : TrC prog w A (.forLoop target it body [] env) h Q := by
  refine T_forLoop n (fun i h => ∃ m, Ses h0 hs D env m (J i m) h ∧ St i h) (fun i h hi hI => ?_) (fun h hI => ?_) ⟨m, S.with (hJ 0 m) start, hSt⟩
  · obtain ⟨m, S, hI⟩ := hI
    refine (Dr.item i m _ h hi (fun h => hK i m h) S hI).mono fun r h1 q => ?_
    obtain ⟨v, rfl, q⟩ := q
    refine ⟨v, rfl, q.mono fun _ h2 q => q.mono fun _ h3 q => ?_⟩
    obtain ⟨m', S', hI', hU⟩ := q
    refine (step i m m' h3 hi hU S'.anew fun m' P' h'' X => S'.join X).mono fun f h4 q => ?_
    have nx : (∃ m'', Ses h0 h3 D env m'' (J (i + 1) m'') h4) → ∃ m, Ses h0 hs D env m (J (i + 1) m) h4 ∧ St (i + 1) h4 := by
      rintro ⟨m'', X⟩
      exact ⟨m'', S'.join X, Dr.keep _ _ _ hI' fun b o nm e => X.ext.get b o (.inr nm) e⟩
    cases f with
    | next => exact nx q
    | cont => exact nx q
    | brk => exact q
    | ret v => exact q
  · obtain ⟨m, S, hI⟩ := hI
    exact (Dr.done m _ h (fun h => hK n m h) S hI).mono fun r h1 q => ⟨q.1, fin m h1 q.2⟩
/-- the addresses of a frame -/
noncomputable def FrameOf (env : Env) (b : Addr) : Prop := b = env.locals ∨ ∃ x, env.cells.lookup x = some b
noncomputable def clOf (cells : List (Str × Addr)) : List (Str × NameKind) → List (Str × Addr) → List (Str × Addr)
  | [], acc => acc
  | (n, k) :: r, acc => clOf cells r (if k == .free then (n, (cells.lookup n).getD 0) :: acc else acc)
theorem closureFor_go (env : Env) : ∀ (names : List (Str × NameKind)) (acc : List (Str × Addr)), (∀ x ∈ names, x.2 = .free → (env.cells.lookup x.1).isSome = true) →
    (forIn names acc (fun (x : Str × NameKind) r => match x with
      | (name, kind) => (if (kind == .free) = true then do let a ← cellOf env name; pure (ForInStep.yield ((name, a) :: r)) else pure (ForInStep.yield r) : Sem (ForInStep (List (Str × Addr)))))) = (pure (clOf env.cells names acc) : Sem (List (Str × Addr)))
  | [], acc, _ => rfl
  | (n, k) :: r, acc, hf => by
    rw [List.forIn_cons]
    unfold clOf
    by_cases hk : (k == .free) = true
    · obtain ⟨c, hc⟩ := Option.isSome_iff_exists.mp (hf (n, k) (.head _) (by simpa using hk))
      simp only [hk, if_true]
      have e : cellOf env n = pure c := by unfold cellOf; rw [hc]
      rw [e, hc]
      exact closureFor_go env r ((n, c) :: acc) fun x hx => hf x (.tail _ hx)
    · simp only [hk]
      exact closureFor_go env r acc fun x hx => hf x (.tail _ hx)
theorem closureFor_eq {scope : Scope} {env : Env} (hf : (scope.names.all fun x => x.2 != .free || (env.cells.lookup x.1).isSome) = true) : closureFor scope env = pure (clOf env.cells scope.names []) := by
  have hf' : ∀ x ∈ scope.names, x.2 = .free → (env.cells.lookup x.1).isSome = true := fun x hx e => by
    have := List.all_eq_true.mp hf x hx
    simpa [e] using this
  have := closureFor_go env scope.names [] hf'
  show (forIn scope.names [] (fun (x : Str × NameKind) r => match x with
      | (name, kind) => (if (kind == NameKind.free) = true then do let a ← cellOf env name; pure (ForInStep.yield ((name, a) :: r)) else pure (ForInStep.yield r) : Sem (ForInStep (List (Str × Addr))))) >>= fun r => pure r) = _
  rw [this]; rfl
theorem clOf_mem (cells : List (Str × Addr)) : ∀ (names : List (Str × NameKind)) (acc : List (Str × Addr)) (x : Str) (c : Addr), (x, c) ∈ clOf cells names acc →
    (x, c) ∈ acc ∨ ((x, NameKind.free) ∈ names ∧ c = (cells.lookup x).getD 0)
  | [], acc, _, _, h => .inl h
  | (n, k) :: r, acc, x, c, h => by
    unfold clOf at h
    rcases clOf_mem cells r _ x c h with q | ⟨q, e⟩
    · split at q
      · rename_i hk
        rcases List.mem_cons.mp q with q | q
        · refine .inr ?_
          obtain ⟨rfl, rfl⟩ := Prod.mk.inj q
          have : k = .free := by simpa using hk
          subst this
          exact ⟨.head _, rfl⟩
        · exact .inl q
      · exact .inl q
    · exact .inr ⟨.tail _ q, e⟩
/-- the frame of a comprehension -/
noncomputable def cenvOf (scope : Scope) (env : Env) (C : Addr) : Env :=
  { scope := relabel scope env, locals := C, globals := env.globals, cells := cellsFrom (C + 1) scope.names (clOf env.cells scope.names []), qual := env.qual, func := none, code := env.code, frame := env.frame, builtins := env.builtins }
theorem newEnv_comp {M : Model} {A : Around} {E : Value → Shared → Prop} {s : Shared} {scope : Scope} {globals : Addr} {cl : List (Str × Addr)} {qual : Str} {env : Env} {Q : Env → Shared → Prop}
    (q : Q { scope := scope, locals := s.heap.objs.size, globals := globals, cells := cellsFrom (s.heap.objs.size + 1) scope.names cl, qual := qual, func := none, code := env.code, frame := env.frame, builtins := env.builtins }
      { s with heap := pushCells (s.heap.push { cls := .type "dict", data := .dict #[] }) scope.names }) :
    wpAny M A (newFunctionEnv scope globals cl [] qual none .none (some env)) Q E s := by
  simp only [newFunctionEnv, Option.isSome_some, if_true]
  refine wpAny_bind (wpAny_alloc ?_)
  refine wpAny_bind (wpAny_layCells _ (fun name kind cells => by cases hkc : kind == NameKind.cell <;> simp [hkc]) _ _ _ _ ?_)
  simp only [List.forIn_nil]
  refine wpAny_bind (wpAny_pure (wpAny_pure ?_))
  rw [show ({ s with heap := s.heap.push { cls := .type "dict", data := .dict #[] } } : Shared).heap.objs.size = s.heap.objs.size + 1 from Heap.size_push ..]
  exact q
theorem pushCells_size : ∀ (names : List (Str × NameKind)) (h : Heap), h.objs.size ≤ (pushCells h names).objs.size
  | [], h => Nat.le_refl _
  | (_, k) :: r, h => by
    unfold pushCells
    split
    · exact Nat.le_trans (by rw [Heap.size_push]; exact Nat.le_succ _) (pushCells_size r _)
    · exact pushCells_size r h
end
end Mine
namespace Mine
section
variable {prog : Program} {w : World} {A : Around} {h0 hs h h2 : Heap} {D : Addr → Prop} {env : Env} {m : Str → Option Value} {P P0 : Heap → Prop}
/-- a comprehension's tests -/
noncomputable abbrev testsOf (ifs : List Expr) (env : Env) : Sem Bool :=
  forIn ifs true fun c r => if r = true then do let ok ← isTrue c env (eval c env); pure (ForInStep.yield ok) else pure (ForInStep.yield r)
theorem T_tests0 {Q : Bool → Heap → Prop} (q : Q true h) : Tr prog w A (testsOf [] env) h Q := T_pure q
theorem T_tests1 {c : Expr} {Q : Bool → Heap → Prop} (q : Tr prog w A (isTrue c env (eval c env)) h Q) : Tr prog w A (testsOf [c] env) h Q := by
  show Tr prog w A (forIn [c] true _) h Q
  rw [List.forIn_cons]
  simp only [if_true, List.forIn_nil]
  exact T_bind (T_bind (q.mono fun b h' q => T_pure (T_pure q)))
/-- a comprehension's turns -/
theorem T_compLoop {elt target iter : Expr} {ifs : List Expr} {scope : Scope} {pos : Pos} {it acc : Value} {Q : Heap → Prop} (n : Nat) (I : Nat → Heap → Prop)
    (turn : ∀ i h, i < n → I i h → Tr prog w A (pyNext it) h (fun r h1 => ∃ v, r = some v ∧ Tr prog w A (letOwnedTupleGo target it v) h1 (fun _ h2 => Tr prog w A (assign target env v) h2 (fun _ h3 =>
      Tr prog w A (testsOf ifs env) h3 (fun ok h4 => if ok = true then Tr prog w A (eval elt env) h4 (fun x h5 => Tr prog w A (call (.builtin "list.append") [acc, x]) h5 (fun _ h6 => I (i + 1) h6)) else I (i + 1) h4)))))
    (fin : ∀ h, I n h → Tr prog w A (pyNext it) h (fun r h1 => r = none ∧ Q h1)) (h0 : I 0 h) :
    TrC prog w A (.compLoop (.ListComp elt [⟨target, iter, ifs, 0⟩] scope pos) 0 it acc env) h (fun _ h' => Q h') := fun s₀ e₀ => by
  refine codeAny_loop rfl (fun k s => ∃ i, i ≤ n ∧ k = n - i ∧ Same s₀ s ∧ I i s.heap) (fun k s hI => ?_) n ⟨0, Nat.zero_le _, rfl, Same.refl _, e₀ ▸ h0⟩
  obtain ⟨i, hi, rfl, hsame, hI⟩ := hI
  show wpAny _ A ((compTurn (.ListComp elt [⟨target, iter, ifs, 0⟩] scope pos) 0 it acc env).onRaise (fun x => do noteFrame x env; theTreesLotGoes x)) _ _ s
  refine wpAny_onRaise (wpAny_mono (E := fun _ _ => False) ?_ (fun _ _ q => q) fun _ _ f => f.elim)
  rw [compTurn_list]
  refine wpAny_bind (wpAny_standAt (wpAny_bind ?_))
  by_cases hlt : i < n
  · refine wpAny_mono (turn i s.heap hlt hI s rfl) (fun r s1 h1 => ?_) fun _ _ f => f.elim
    obtain ⟨e1, v, rfl, h1⟩ := h1
    refine wpAny_bind (wpAny_mono (h1 s1 rfl) (fun _ s2 h2 => ?_) fun _ _ f => f.elim)
    refine wpAny_bind (wpAny_mono (h2.2 s2 rfl) (fun _ s3 h3 => ?_) fun _ _ f => f.elim)
    refine wpAny_bind (wpAny_mono (h3.2 s3 rfl) (fun ok s4 h4 => ?_) fun _ _ f => f.elim)
    have hss := (((hsame.trans e1).trans h2.1).trans h3.1).trans h4.1
    cases ok with
    | false => exact wpAny_pure ⟨rfl, n - (i + 1), by omega, i + 1, hlt, rfl, hss, by simpa using h4.2⟩
    | true =>
      have h4' := h4.2
      simp only [if_true] at h4'
      refine wpAny_bind (wpAny_bind (wpAny_mono (h4' s4 rfl) (fun x s5 h5 => ?_) fun _ _ f => f.elim))
      refine wpAny_bind (wpAny_mono (h5.2 s5 rfl) (fun _ s6 h6 => ?_) fun _ _ f => f.elim)
      exact wpAny_pure (wpAny_pure ⟨rfl, n - (i + 1), by omega, i + 1, hlt, rfl, (hss.trans h5.1).trans h6.1, h6.2⟩)
  · have hin : i = n := by omega
    subst hin
    refine wpAny_mono (fin s.heap hI s rfl) (fun r s1 h1 => ?_) fun _ _ f => f.elim
    obtain ⟨e1, rfl, h1⟩ := h1
    exact wpAny_pure ⟨hsame.trans e1, h1⟩
/-- what is left of a comprehension when its source's iterator stands -/
noncomputable def CompGo (prog : Program) (w : World) (A : Around) (elt target iter : Expr) (ifs : List Expr) (scope : Scope) (pos : Pos) (env : Env) (it : Value) (h : Heap) (Post : Addr → Addr → Heap → Prop) : Prop :=
  ∀ acc C h3, acc = h.objs.size → C = acc + 1 → h3 = pushCells ((h.push { cls := .type "list", data := .seq #[] }).push { cls := .type "dict", data := .dict #[] }) scope.names →
    TrC prog w A (.compStart (.ListComp elt [⟨target, iter, ifs, 0⟩] scope pos) 0 it (.ref acc) (cenvOf scope env C)) h3 (fun _ h4 => Post acc C h4)
theorem T_compE {elt target iter : Expr} {ifs : List Expr} {scope : Scope} {pos : Pos} {Q : Value → Heap → Prop}
    (q : Tr prog w A (eval iter env) h (fun x h1 => Tr prog w A (pyIter x) h1 (fun it h2 => CompGo prog w A elt target iter ifs scope pos env it h2 (fun acc C h4 => ∃ mC, h4.Ns C mC ∧ ∀ h', Heap.SameBut C h4 h' → Q (.ref acc) h'))))
    (hf : (scope.names.all fun x => x.2 != .free || (env.cells.lookup x.1).isSome) = true := by rfl) (hn : (scope.names.all fun x => x.2 != .local || scope.names.lookup x.1 == some .local) = true := by rfl)
    (hk : scope.kind = .function := by rfl) (hs : ∀ x, foldedSetIterable iter env x = pure x := by intro _; rfl) :
    Tr prog w A (eval (.ListComp elt [⟨target, iter, ifs, 0⟩] scope pos) env) h Q := fun s e => by
  rw [eval_ListComp]
  refine wpAny_comprehension_free (cl := clOf env.cells scope.names []) rfl hs (closureFor_eq hf) hk (fun x hx e => by have := List.all_eq_true.mp hn x hx; simpa [e] using this) ?_
  refine wpAny_mono (q s e) (fun x s1 q1 => wpAny_mono (q1.2 s1 rfl) (fun it s2 q2 => ?_) fun _ _ f => f) fun _ _ f => f
  refine wpAny_newList (newEnv_comp ?_)
  have hC : (s2.heap.push { cls := .type "list", data := .seq ([] : List Value).toArray }).objs.size = s2.heap.objs.size + 1 := Heap.size_push ..
  have key := q2.2 s2.heap.objs.size (s2.heap.objs.size + 1) _ rfl rfl rfl { s2 with heap := pushCells ((s2.heap.push { cls := .type "list", data := .seq #[] }).push { cls := .type "dict", data := .dict #[] }) scope.names } rfl
  dsimp only at hC ⊢
  rw [hC]
  refine codeAny_mono key fun r s' q' => ?_
  cases r with
  | error x => exact q'.elim
  | ok f =>
    obtain ⟨e', mC, hN, k⟩ := q'
    have eS : Same s s' := (q1.1.trans q2.1).trans ⟨e'.1, e'.2.1, e'.2.2⟩
    exact ⟨mC, hN, fun h' hs' => ⟨⟨eS.1, eS.2.1, eS.2.2⟩, k h' hs'⟩⟩
/-- «name = [..]» where the stores are exchanged -/
theorem T_asComp {x : Str} {px : Pos} {elt target iter : Expr} {ifs : List Expr} {scope : Scope} {pos spos : Pos} {Q : Flow → Heap → Prop}
    (q : Tr prog w A (eval iter env) h (fun y h1 => Tr prog w A (pyIter y) h1 (fun it h2 => CompGo prog w A elt target iter ifs scope pos env it h2 (fun acc C h4 => Tr prog w A (storeName env x (.ref acc)) h4 (fun _ h5 => ∃ mC, h5.Ns C mC ∧ ∀ h', Heap.SameBut C h5 h' → Q .next h')))))
    (hsw : swapsWith (.ListComp elt [⟨target, iter, ifs, 0⟩] scope pos) (some (.Name x px)) spos.line env = pure true := by rfl)
    (hf : (scope.names.all fun x => x.2 != .free || (env.cells.lookup x.1).isSome) = true := by rfl) (hn : (scope.names.all fun x => x.2 != .local || scope.names.lookup x.1 == some .local) = true := by rfl)
    (hk : scope.kind = .function := by rfl) (hs : ∀ x, foldedSetIterable iter env x = pure x := by intro _; rfl) :
    Tr prog w A (exec (.Assign [.Name x px] (.ListComp elt [⟨target, iter, ifs, 0⟩] scope pos) spos) env) h Q := fun s e => by
  rw [exec_Assign_Name_used _ _ _ _ hsw]
  refine wpAny_bind (wpAny_standAt (wpAny_bind ?_))
  show wpAny _ A (do let _ ← comprehension (.ListComp elt [⟨target, iter, ifs, 0⟩] scope pos) scope env _ (newList []) false (eval iter env) (some (assign (.Name x px) env))) _ _ s
  refine wpAny_bind (wpAny_mono (wpAny_comprehension_free (Q := fun _ s' => Same s s' ∧ Q .next s'.heap) (E := fun _ _ => False) (cl := clOf env.cells scope.names []) rfl hs (closureFor_eq hf) hk (fun x hx e => by have := List.all_eq_true.mp hn x hx; simpa [e] using this) ?_)
    (fun _ s' hq => wpAny_pure (wpAny_pure hq)) fun _ _ f => f)
  refine wpAny_mono (q s e) (fun y s1 q1 => wpAny_mono (q1.2 s1 rfl) (fun it s2 q2 => ?_) fun _ _ f => f) fun _ _ f => f
  refine wpAny_newList (newEnv_comp ?_)
  have hC : (s2.heap.push { cls := .type "list", data := .seq ([] : List Value).toArray }).objs.size = s2.heap.objs.size + 1 := Heap.size_push ..
  have key := q2.2 s2.heap.objs.size (s2.heap.objs.size + 1) _ rfl rfl rfl { s2 with heap := pushCells ((s2.heap.push { cls := .type "list", data := .seq #[] }).push { cls := .type "dict", data := .dict #[] }) scope.names } rfl
  dsimp only at hC ⊢
  rw [hC]
  refine codeAny_mono key fun r s' q' => ?_
  cases r with
  | error x => exact q'.elim
  | ok f =>
    obtain ⟨e', k⟩ := q'
    refine wpAny_assign_Name (wpAny_mono (k s' rfl) (fun _ s'' q'' => ?_) fun _ _ f => f.elim)
    obtain ⟨e'', mC, hN, k'⟩ := q''
    have eS : Same s s'' := ((q1.1.trans q2.1).trans ⟨e'.1, e'.2.1, e'.2.2⟩).trans e''
    exact ⟨mC, hN, fun h' hs' => ⟨⟨eS.1, eS.2.1, eS.2.2⟩, k' h' hs'⟩⟩
end
end Mine
namespace Mine
section
variable {prog : Program} {w : World} {A : Around} {h0 hs h h2 : Heap} {D : Addr → Prop} {env : Env} {m : Str → Option Value} {P P0 : Heap → Prop}
/-- what a comprehension may turn: what the frame around it may, but its names -/
noncomputable def Dc (D : Addr → Prop) (env : Env) : Addr → Prop := fun b => D b ∧ ¬ FrameOf env b
theorem Ses.frame_lt (S : Ses h0 hs D env m P h) {b : Addr} (hb : FrameOf env b) : b < h.objs.size := by
  rcases hb with rfl | ⟨x, hx⟩
  · obtain ⟨ml, hn, _⟩ := S.fr.loc; exact hn.lt
  · exact (S.fr.cel x b hx).lt
/-- the session in which a comprehension's parts run -/
theorem Ses.inner (S : Ses h0 hs D env m P h) : Ses h0 h (Dc D env) env m P h :=
  { fr := S.fr, ext := Ext.refl _ _, nw := fun b hb => ⟨S.nw b (Nat.le_trans S.ext.size hb), fun q => Nat.lt_irrefl _ (Nat.lt_of_lt_of_le (S.frame_lt q) hb)⟩,
    gnd := S.base, out := fun b hb => S.out b hb.1, st := S.st, dat := S.dat, gl := S.gl, bu := S.bu }
theorem Ses.outer (S : Ses h0 hs D env m P h) {env' : Env} {m' : Str → Option Value} {P' : Heap → Prop} {h' : Heap} (S' : Ses h0 h (Dc D env) env' m' P' h') : Ses h0 hs D env m P' h' :=
  { fr := { kind := S.fr.kind
            loc := by
              obtain ⟨ml, hn, hm⟩ := S.fr.loc
              exact ⟨ml, hn.at' fun o e => S'.ext.get _ o (.inl fun d => d.2 (.inl rfl)) e, hm⟩
            cel := fun x c hx => by
              obtain ⟨o, ho, hd⟩ := S.fr.cel x c hx
              exact ⟨o, S'.ext.get c o (.inl fun d => d.2 (.inr ⟨x, hx⟩)) ho, hd⟩
            apart := S.fr.apart }
    ext := S.ext.trans (S'.ext.mono fun b d _ => d.1), nw := S.nw, gnd := S.gnd, out := S.out, st := S'.st, dat := S'.dat, gl := S.gl, bu := S.bu }
/-- a namespace beside the frame's has turned -/
theorem Ses.sameButC (S : Ses h0 hs D env m P h) {C : Addr} {mC : Str → Option Value} {h' : Heap} (hN : h.Ns C mC) (hs' : Heap.SameBut C h h') (hD : D C) (hF : ¬ FrameOf env C) : Ses h0 hs D env m P h' := by
  obtain ⟨oC, es, ep, hC, hCd, _⟩ := id hN
  exact { fr := { kind := S.fr.kind
                  loc := by
                    obtain ⟨ml, hn, hm⟩ := S.fr.loc
                    exact ⟨ml, hn.sameBut hs' fun e => hF (.inl e.symm), hm⟩
                  cel := fun x c hx => by
                    obtain ⟨o, ho, hd⟩ := S.fr.cel x c hx
                    exact ⟨o, (hs'.2 c fun e => hF (.inr ⟨x, e ▸ hx⟩)).trans ho, hd⟩
                  apart := S.fr.apart }
          ext := S.ext.trans ⟨fun b o k e => (hs'.2 b (by rintro rfl; rw [hC] at e; cases e; exact k.elim (fun n => n hD) fun n => n (.inr (.inl ⟨_, _, hCd⟩)))).trans e, Nat.le_of_eq hs'.1.symm⟩
          nw := S.nw, gnd := S.gnd, out := S.out, st := S.st
          dat := S.st _ _ S.dat fun b o e k => (hs'.2 b (by rintro rfl; rw [hC] at e; cases e; obtain ⟨_, _, k⟩ := k; rw [hCd] at k; cases k)).trans e
          gl := S.gl, bu := S.bu }
theorem pushCells_list {h : Heap} {names : List (Str × NameKind)} {b : Addr} {o : Obj} (e : h.get? b = some o) : (pushCells h names).get? b = some o := pushCells_keeps names h b o e
theorem cellsFrom_uniq (n0 : Nat) : ∀ (names : List (Str × NameKind)) (n : Nat) (acc : List (Str × Addr)), (∀ x y c, (x, c) ∈ acc → (y, c) ∈ acc → n0 ≤ c → x = y) → (∀ x c, (x, c) ∈ acc → c < n) →
    ∀ x y c, (x, c) ∈ cellsFrom n names acc → (y, c) ∈ cellsFrom n names acc → n0 ≤ c → x = y
  | [], n, acc, hu, hl, x, y, c, h1, h2, h3 => hu x y c h1 h2 h3
  | (nm, k) :: r, n, acc, hu, hl, x, y, c, h1, h2, h3 => by
    unfold cellsFrom at h1 h2
    split at h1
    · rename_i hk
      rw [if_pos hk] at h2
      refine cellsFrom_uniq n0 r (n + 1) ((nm, n) :: acc) (fun x y c a b hc => ?_) (fun x c hm => ?_) x y c h1 h2 h3
      · rcases List.mem_cons.mp a with a | a <;> rcases List.mem_cons.mp b with b | b
        · rw [← b] at a; exact (Prod.mk.inj a).1
        · have hb := hl _ _ b; rw [(Prod.mk.inj a).2] at hb; exact absurd hb (Nat.lt_irrefl _)
        · have ha := hl _ _ a; rw [(Prod.mk.inj b).2] at ha; exact absurd ha (Nat.lt_irrefl _)
        · exact hu x y c a b hc
      · rcases List.mem_cons.mp hm with e | hm
        · obtain ⟨_, rfl⟩ := Prod.mk.inj e; exact Nat.lt_succ_self _
        · exact Nat.lt_succ_of_lt (hl x c hm)
    · rename_i hk
      rw [if_neg hk] at h2
      exact cellsFrom_uniq n0 r n acc hu hl x y c h1 h2 h3
theorem cellsFrom_own : ∀ (names : List (Str × NameKind)) (h : Heap) (acc : List (Str × Addr)) (x : Str) (c : Addr), (x, c) ∈ cellsFrom h.objs.size names acc →
    (x, c) ∈ acc ∨ ((x, NameKind.cell) ∈ names ∧ (pushCells h names).IsCell c none ∧ h.objs.size ≤ c)
  | [], h, acc, x, c, hm => .inl hm
  | (nm, k) :: r, h, acc, x, c, hm => by
    unfold cellsFrom at hm
    unfold pushCells
    split at hm
    · rename_i hk
      rw [if_pos hk]
      have hz : (h.push { cls := .type "cell", data := .cell none }).objs.size = h.objs.size + 1 := Heap.size_push ..
      rw [← hz] at hm
      rcases cellsFrom_own r _ _ x c hm with q | ⟨q1, q2, q3⟩
      · rcases List.mem_cons.mp q with q | q
        · obtain ⟨rfl, rfl⟩ := Prod.mk.inj q
          have : k = .cell := by simpa using hk
          subst this
          have hcell : (h.push { cls := .type "cell", data := .cell none }).IsCell h.objs.size none := ⟨_, Heap.get?_push_size _ rfl, rfl⟩
          exact .inr ⟨.head _, hcell.keeps fun b o e => pushCells_keeps r _ b o e, Nat.le_refl _⟩
        · exact .inl q
      · exact .inr ⟨.tail _ q1, q2, Nat.le_trans (by rw [hz]; exact Nat.le_succ _) q3⟩
    · rename_i hk
      rw [if_neg hk]
      rcases cellsFrom_own r h acc x c hm with q | ⟨q1, q2, q3⟩
      · exact .inl q
      · exact .inr ⟨.tail _ q1, q2, q3⟩
/-- the frame of a comprehension at its birth -/
theorem cenv_start {scope : Scope} (S : Ses h0 hs D env m P h) (hk : scope.kind = .function) (hf : (scope.names.all fun x => x.2 != .free || (env.cells.lookup x.1).isSome) = true)
    (hc : (scope.names.all fun x => scope.names.lookup x.1 == some x.2) = true) :
    Fz (cenvOf scope env h.objs.size) (fun x => if scope.names.lookup x = some .free then m x else none) (pushCells (h.push { cls := .type "dict", data := .dict #[] }) scope.names) := by
  have klook : ∀ x k, (x, k) ∈ scope.names → scope.names.lookup x = some k := fun x k hm => by
    have := List.all_eq_true.mp hc _ hm
    simpa using this
  have kcl : ∀ x c, (x, c) ∈ clOf env.cells scope.names [] → env.cells.lookup x = some c ∧ scope.names.lookup x = some .free := fun x c hm => by
    rcases clOf_mem _ _ _ _ _ hm with q | ⟨q, e⟩
    · cases q
    · have := List.all_eq_true.mp hf _ q
      have : (env.cells.lookup x).isSome = true := by simpa using this
      obtain ⟨c', hc'⟩ := Option.isSome_iff_exists.mp this
      rw [hc'] at e
      exact ⟨by rw [hc', e]; rfl, klook _ _ q⟩
  have hz : (h.push { cls := .type "dict", data := .dict #[] }).objs.size = h.objs.size + 1 := Heap.size_push ..
  have kmem : ∀ x c, (x, c) ∈ cellsFrom (h.objs.size + 1) scope.names (clOf env.cells scope.names []) →
      (x, c) ∈ clOf env.cells scope.names [] ∨ ((x, NameKind.cell) ∈ scope.names ∧ (pushCells (h.push { cls := .type "dict", data := .dict #[] }) scope.names).IsCell c none ∧ h.objs.size + 1 ≤ c) := fun x c hm => by
    rw [← hz] at hm
    have := cellsFrom_own scope.names _ _ x c hm
    rwa [hz] at this
  have klt : ∀ x c, (x, c) ∈ clOf env.cells scope.names [] → c < h.objs.size + 1 := fun x c hm => Nat.lt_succ_of_lt (S.fr.cel x c (kcl x c hm).1).lt
  refine { kind := hk, loc := ⟨_, (Heap.Ns.new h (.type "dict")).keeps fun b o e => pushCells_keeps _ _ b o e, fun x hx => ?_⟩, cel := fun x c hx => ?_, apart := fun x y c hx hy => ?_ }
  · show none = if scope.names.lookup x = some .free then m x else none
    rw [if_neg]
    intro q
    have hx' : (relabel scope env).names.lookup x = some .local := hx
    have hm := mem_of_lookup hx'
    obtain ⟨p, hp, hpe⟩ := List.mem_map.mp hm
    obtain ⟨n, k⟩ := p
    have e1 := klook n k hp
    dsimp only at hpe
    split at hpe
    · cases hpe
    · obtain ⟨rfl, rfl⟩ := Prod.mk.inj hpe
      rw [e1] at q; cases q
  · have hx' : (cellsFrom (h.objs.size + 1) scope.names (clOf env.cells scope.names [])).lookup x = some c := hx
    show Heap.IsCell _ c (if scope.names.lookup x = some .free then m x else none)
    rcases kmem x c (mem_of_lookup hx') with q | ⟨q1, q2, q3⟩
    · obtain ⟨k1, k2⟩ := kcl x c q
      rw [if_pos k2]
      exact (S.fr.cel x c k1).keeps fun b o e => pushCells_keeps _ _ b o (Heap.get?_push_of_some _ e)
    · rw [if_neg (by rw [klook _ _ q1]; intro e; cases e)]
      exact q2
  · have hx' : (cellsFrom (h.objs.size + 1) scope.names (clOf env.cells scope.names [])).lookup x = some c := hx
    have hy' : (cellsFrom (h.objs.size + 1) scope.names (clOf env.cells scope.names [])).lookup y = some c := hy
    have mx := mem_of_lookup hx'
    have my := mem_of_lookup hy'
    rcases kmem x c mx with q | ⟨q1, q2, q3⟩
    · rcases kmem y c my with r | ⟨r1, r2, r3⟩
      · exact S.fr.apart x y c (kcl x c q).1 (kcl y c r).1
      · exact absurd (klt x c q) (Nat.not_lt.mpr r3)
    · exact cellsFrom_uniq (h.objs.size + 1) scope.names (h.objs.size + 1) _ (fun x y c a b hcc => absurd (klt x c a) (Nat.not_lt.mpr hcc)) (fun x c hm => klt x c hm) x y c mx my q3
/-- as Stable, and the list at acc may turn too -/
noncomputable def StableX (acc : Addr) (P : Heap → Prop) : Prop := ∀ h h', P h → (∀ b o, b ≠ acc → h.get? b = some o → (∃ vs n, o.data = .seq vs n) → h'.get? b = some o) → P h'
theorem StableX.stable {acc : Addr} {P : Heap → Prop} (x : StableX acc P) : Stable P := fun h h' p k => x h h' p fun b o _ e q => k b o e q
theorem StableX.kd {h2 : Heap} : StableX h2.objs.size (fun h => KD h2 h) := fun h h' p k b o e q => k b o (Nat.ne_of_lt (Heap.lt_size e)) (p b o e q) q
theorem StableX.and {acc : Addr} {P Q : Heap → Prop} (x : StableX acc P) (y : StableX acc Q) : StableX acc (fun h => P h ∧ Q h) := fun h h' p k => ⟨x h h' p.1 k, y h h' p.2 k⟩
theorem StableX.const {acc : Addr} {p : Prop} : StableX acc (fun _ => p) := fun _ _ x _ => x
/-- a comprehension over an iterator -/
theorem compGo {elt target iter : Expr} {ifs : List Expr} {scope : Scope} {pos : Pos} {it : Value} {n : Nat} {St : Nat → Heap → Prop} {U : Nat → (Str → Option Value) → (Str → Option Value) → Prop} {K : Heap → Prop} {Post : Addr → Addr → Heap → Prop}
    (S : Ses h0 hs D env m P0 h) (S2 : Ses h0 h (Dc D env) env m P h2) (hSt : St 0 h2)
    (Dr : ∀ C, C = h2.objs.size + 1 → Draw prog w A h0 h (Dc D env) (cenvOf scope env C) it target n St U K)
    (hU : ∀ i m m', U i m m' → ∀ x, scope.names.lookup x = some .free → m' x = m x)
    (J : Nat → List Value → Heap → Prop) (hJ : ∀ i ys, StableX h2.objs.size (J i ys)) (hK : ∀ i ys h, J i ys h → K h) (start : J 0 [] h2) (hn : n ≤ sizeLine)
    (step : ∀ acc C i ys m' hi, acc = h2.objs.size → C = acc + 1 → i < n → ys.length ≤ i → (∀ x, scope.names.lookup x = some .free → m' x = m x) → (∃ mi, U i mi m') → Ses h0 hi (Dc D env) (cenvOf scope env C) m' (fun h => J i ys h ∧ h.IsList acc ys.toArray) hi →
      Tr prog w A (testsOf ifs (cenvOf scope env C)) hi (fun ok h' => if ok = true
        then Tr prog w A (eval elt (cenvOf scope env C)) h' (fun v h'' => Ses h0 hi (Dc D env) (cenvOf scope env C) m' (fun h => J (i + 1) (ys ++ [v]) h ∧ h.IsList acc ys.toArray) h'')
        else Ses h0 hi (Dc D env) (cenvOf scope env C) m' (fun h => J (i + 1) ys h ∧ h.IsList acc ys.toArray) h'))
    (fin : ∀ acc C ys mC h', acc = h2.objs.size → C = acc + 1 → ys.length ≤ n → Ses h0 hs D env m (fun h => J n ys h ∧ h.IsList acc ys.toArray) h' → h'.Ns C mC → Post acc C h')
    (hf : (scope.names.all fun x => x.2 != .free || (env.cells.lookup x.1).isSome) = true := by rfl)
    (hc : (scope.names.all fun x => scope.names.lookup x.1 == some x.2) = true := by rfl) (hk : scope.kind = .function := by rfl) :
    CompGo prog w A elt target iter ifs scope pos env it h2 Post := by
  rintro acc C h3 rfl rfl rfl
  have hz : (h2.push { cls := .type "list", data := .seq #[] }).objs.size = h2.objs.size + 1 := Heap.size_push ..
  -- behind the new list
  have SL : Ses h0 h (Dc D env) env m (fun h => J 0 [] h ∧ h.IsList h2.objs.size ([] : List Value).toArray) (h2.push { cls := .type "list", data := .seq #[] }) :=
    S2.on ((hJ 0 []).stable.and (Stable.list _ _)) ⟨(hJ 0 []).stable _ _ start (KD.push _ _), _, Heap.get?_push_size _ rfl, rfl, _, rfl⟩ (by rw [hz]; exact Nat.le_succ _) fun _ _ e => Heap.get?_push_of_some _ e
  have F3 := cenv_start SL hk hf hc
  rw [hz] at F3
  generalize hh3 : pushCells ((h2.push { cls := .type "list", data := .seq #[] }).push { cls := .type "dict", data := .dict #[] }) scope.names = h3 at F3 ⊢
  have up3 : ∀ b o, (h2.push { cls := .type "list", data := .seq #[] }).get? b = some o → h3.get? b = some o := fun b o e => hh3 ▸ pushCells_keeps _ _ b o (Heap.get?_push_of_some _ e)
  have sz3 : h2.objs.size + 1 ≤ h3.objs.size := by
    rw [← hh3]; exact Nat.le_trans (by rw [Heap.size_push, hz]; exact Nat.le_succ _) (pushCells_size _ _)
  have S3 : Ses h0 h (Dc D env) (cenvOf scope env (h2.objs.size + 1)) (fun x => if scope.names.lookup x = some .free then m x else none) (fun h => J 0 [] h ∧ h.IsList h2.objs.size ([] : List Value).toArray) h3 :=
    { fr := F3, ext := SL.ext.trans ⟨fun b o _ e => up3 b o e, by rw [hz]; exact sz3⟩, nw := SL.nw, gnd := SL.gnd, out := SL.out, st := SL.st, dat := SL.st _ _ SL.dat (KD.of_all up3), gl := S.gl, bu := S.bu }
  have St3 : St 0 h3 := (Dr _ rfl).keep _ _ _ hSt fun b o _ e => up3 b o (Heap.get?_push_of_some _ e)
  have loop : TrC prog w A (.compLoop (.ListComp elt [⟨target, iter, ifs, 0⟩] scope pos) 0 it (.ref h2.objs.size) (cenvOf scope env (h2.objs.size + 1))) h3 (fun _ h4 => Post h2.objs.size (h2.objs.size + 1) h4) := by
    refine T_compLoop n (fun i hi => ∃ m' ys, ys.length ≤ i ∧ (∀ x, scope.names.lookup x = some .free → m' x = m x) ∧
      Ses h0 h (Dc D env) (cenvOf scope env (h2.objs.size + 1)) m' (fun h => J i ys h ∧ h.IsList h2.objs.size ys.toArray) hi ∧ St i hi) (fun i hi hlt hI => ?_) (fun hi hI => ?_)
      ⟨_, [], Nat.le_refl _, fun x hx => if_pos hx, S3, St3⟩
    · obtain ⟨m', ys, hlen, hm, Si, hSti⟩ := hI
      refine ((Dr _ rfl).item i m' _ hi hlt (fun h q => hK i ys h q.1) Si hSti).mono fun r h1 q => ?_
      obtain ⟨v, rfl, q⟩ := q
      refine ⟨v, rfl, q.mono fun _ h2' q => q.mono fun _ h3' q => ?_⟩
      obtain ⟨m'', S', hSt', hu⟩ := q
      have hm' : ∀ x, scope.names.lookup x = some .free → m'' x = m x := fun x hx => (hU i m' m'' hu x hx).trans (hm x hx)
      refine (step _ _ i ys m'' h3' rfl rfl hlt hlen hm' ⟨m', hu⟩ S'.anew).mono fun ok h4 q => ?_
      cases ok with
      | false =>
        simp only [Bool.false_eq_true, if_false] at q ⊢
        exact ⟨m'', ys, Nat.le_succ_of_le hlen, hm', S'.join q, (Dr _ rfl).keep _ _ _ hSt' fun b o nm e => q.ext.get b o (.inr nm) e⟩
      | true =>
        simp only [if_true] at q ⊢
        refine q.mono fun v h5 X => ?_
        intro s5 e5
        subst e5
        refine wpAny_list_append X.dat.2 (fun h6 hl6 hs6 => ⟨⟨rfl, rfl, rfl⟩, ?_⟩) (by rw [List.size_toArray]; omega)
        have SX := S'.join X
        obtain ⟨oA, hoA, hcA, nA, hdA⟩ := id X.dat.2
        have hl6' : h6.IsList h2.objs.size (ys ++ [v]).toArray := by simpa using hl6
        have S6 : Ses h0 h (Dc D env) (cenvOf scope env (h2.objs.size + 1)) m'' (fun h => J (i + 1) (ys ++ [v]) h ∧ h.IsList h2.objs.size (ys ++ [v]).toArray) h6 :=
          { fr := SX.fr.keeps fun b o e q => (hs6.2 b (by rintro rfl; rw [hoA] at e; cases e; rcases q with ⟨_, _, q⟩ | ⟨_, q⟩ <;> (rw [hdA] at q; cases q))).trans e
            ext := SX.ext.trans ⟨fun b o q e => (hs6.2 b (by rintro rfl; rw [hoA] at e; cases e; exact q.elim (fun nd => nd ⟨(S2.nw _ S2.ext.size).1, (S2.nw _ S2.ext.size).2⟩) fun nm => nm (.inl hcA))).trans e, Nat.le_of_eq hs6.1.symm⟩
            nw := SX.nw, gnd := SX.gnd, out := SX.out, st := (hJ _ _).stable.and (Stable.list _ _), dat := ⟨hJ _ _ _ _ SX.dat.1 fun b o hb e q => (hs6.2 b hb).trans e, hl6'⟩, gl := SX.gl, bu := SX.bu }
        refine ⟨m'', ys ++ [v], by rw [List.length_append, List.length_singleton]; omega, hm', S6, (Dr _ rfl).keep _ _ _ hSt' fun b o nm e => ?_⟩
        have e5' := X.ext.get b o (.inr nm) e
        exact (hs6.2 b (by rintro rfl; rw [hoA] at e5'; cases e5'; exact nm (.inl hcA))).trans e5'
    · obtain ⟨m', ys, hlen, hm, Si, hSti⟩ := hI
      refine ((Dr _ rfl).done m' _ hi (fun h q => hK n ys h q.1) Si hSti).mono fun r h1 q => ⟨q.1, ?_⟩
      obtain ⟨ml, hnC, _⟩ := q.2.fr.loc
      exact fin _ _ ys ml h1 rfl rfl hlen (S.outer q.2) hnC
  intro s e
  refine codeAny_compStart_list (loop s e) ?_
  exact wpAny_mono ((Dr _ rfl).self 0 h3 (fun it' h' => it' = it ∧ h' = h3) St3 ⟨rfl, rfl⟩ s e) (fun it' s' q => by
    obtain ⟨e1, rfl, e2⟩ := q
    exact codeAny_mono (loop s' e2) fun r s'' q => by
      cases r with
      | ok f => exact ⟨e1.trans q.1, q.2⟩
      | error x => exact q) fun _ _ f => f.elim
end
end Mine
namespace Mine
section
variable {prog : Program} {w : World} {A : Around} {h0 hs h h2 : Heap} {D : Addr → Prop} {env : Env} {m : Str → Option Value} {P P0 : Heap → Prop}
theorem compGoE {elt target iter : Expr} {ifs : List Expr} {scope : Scope} {pos : Pos} {it : Value} {n : Nat} {St : Nat → Heap → Prop} {U : Nat → (Str → Option Value) → (Str → Option Value) → Prop} {K : Heap → Prop} {Q : Value → Heap → Prop}
    (S : Ses h0 hs D env m P0 h) (S2 : Ses h0 h (Dc D env) env m P h2) (hSt : St 0 h2)
    (Dr : ∀ C, C = h2.objs.size + 1 → Draw prog w A h0 h (Dc D env) (cenvOf scope env C) it target n St U K)
    (hU : ∀ i m m', U i m m' → ∀ x, scope.names.lookup x = some .free → m' x = m x)
    (J : Nat → List Value → Heap → Prop) (hJ : ∀ i ys, StableX h2.objs.size (J i ys)) (hK : ∀ i ys h, J i ys h → K h) (start : J 0 [] h2) (hn : n ≤ sizeLine)
    (step : ∀ acc C i ys m' hi, acc = h2.objs.size → C = acc + 1 → i < n → ys.length ≤ i → (∀ x, scope.names.lookup x = some .free → m' x = m x) → (∃ mi, U i mi m') → Ses h0 hi (Dc D env) (cenvOf scope env C) m' (fun h => J i ys h ∧ h.IsList acc ys.toArray) hi →
      Tr prog w A (testsOf ifs (cenvOf scope env C)) hi (fun ok h' => if ok = true
        then Tr prog w A (eval elt (cenvOf scope env C)) h' (fun v h'' => Ses h0 hi (Dc D env) (cenvOf scope env C) m' (fun h => J (i + 1) (ys ++ [v]) h ∧ h.IsList acc ys.toArray) h'')
        else Ses h0 hi (Dc D env) (cenvOf scope env C) m' (fun h => J (i + 1) ys h ∧ h.IsList acc ys.toArray) h'))
    (fin : ∀ acc ys h', acc = h2.objs.size → ys.length ≤ n → Ses h0 hs D env m (fun h => J n ys h ∧ h.IsList acc ys.toArray) h' → Q (.ref acc) h')
    (hf : (scope.names.all fun x => x.2 != .free || (env.cells.lookup x.1).isSome) = true := by rfl)
    (hc : (scope.names.all fun x => scope.names.lookup x.1 == some x.2) = true := by rfl) (hk : scope.kind = .function := by rfl) :
    CompGo prog w A elt target iter ifs scope pos env it h2 (fun acc C h4 => ∃ mC, h4.Ns C mC ∧ ∀ h', Heap.SameBut C h4 h' → Q (.ref acc) h') := by
  refine compGo S S2 hSt Dr hU J hJ hK start hn step (fun acc C ys mC h' e1 e2 e3 X hN => ⟨mC, hN, fun h'' hs' => ?_⟩) hf hc hk
  have hCsz : h.objs.size ≤ C := by have := S2.ext.size; omega
  exact fin acc ys h'' e1 e3 (X.sameButC hN hs' (S.nw C (Nat.le_trans S.ext.size hCsz)) fun q => Nat.lt_irrefl _ (Nat.lt_of_lt_of_le (S.frame_lt q) hCsz))
theorem compGoA {x : Str} {elt target iter : Expr} {ifs : List Expr} {scope : Scope} {pos : Pos} {it : Value} {n : Nat} {St : Nat → Heap → Prop} {U : Nat → (Str → Option Value) → (Str → Option Value) → Prop} {K : Heap → Prop} {Q : Flow → Heap → Prop}
    (S : Ses h0 hs D env m P0 h) (S2 : Ses h0 h (Dc D env) env m P h2) (hSt : St 0 h2)
    (Dr : ∀ C, C = h2.objs.size + 1 → Draw prog w A h0 h (Dc D env) (cenvOf scope env C) it target n St U K)
    (hU : ∀ i m m', U i m m' → ∀ x, scope.names.lookup x = some .free → m' x = m x)
    (J : Nat → List Value → Heap → Prop) (hJ : ∀ i ys, StableX h2.objs.size (J i ys)) (hK : ∀ i ys h, J i ys h → K h) (start : J 0 [] h2) (hn : n ≤ sizeLine)
    (step : ∀ acc C i ys m' hi, acc = h2.objs.size → C = acc + 1 → i < n → ys.length ≤ i → (∀ x, scope.names.lookup x = some .free → m' x = m x) → (∃ mi, U i mi m') → Ses h0 hi (Dc D env) (cenvOf scope env C) m' (fun h => J i ys h ∧ h.IsList acc ys.toArray) hi →
      Tr prog w A (testsOf ifs (cenvOf scope env C)) hi (fun ok h' => if ok = true
        then Tr prog w A (eval elt (cenvOf scope env C)) h' (fun v h'' => Ses h0 hi (Dc D env) (cenvOf scope env C) m' (fun h => J (i + 1) (ys ++ [v]) h ∧ h.IsList acc ys.toArray) h'')
        else Ses h0 hi (Dc D env) (cenvOf scope env C) m' (fun h => J (i + 1) ys h ∧ h.IsList acc ys.toArray) h'))
    (ha : Asg env D x)
    (fin : ∀ acc ys h', acc = h2.objs.size → ys.length ≤ n → Ses h0 hs D env (upd m x (.ref acc)) (fun h => J n ys h ∧ h.IsList acc ys.toArray) h' → Q .next h')
    (hf : (scope.names.all fun x => x.2 != .free || (env.cells.lookup x.1).isSome) = true := by rfl)
    (hc : (scope.names.all fun x => scope.names.lookup x.1 == some x.2) = true := by rfl) (hk : scope.kind = .function := by rfl) :
    CompGo prog w A elt target iter ifs scope pos env it h2 (fun acc C h4 => Tr prog w A (storeName env x (.ref acc)) h4 (fun _ h5 => ∃ mC, h5.Ns C mC ∧ ∀ h', Heap.SameBut C h5 h' → Q .next h')) := by
  refine compGo S S2 hSt Dr hU J hJ hK start hn step (fun acc C ys mC h' e1 e2 e3 X hN => ?_) hf hc hk
  have hCsz : h.objs.size ≤ C := by have := S2.ext.size; omega
  have hCF : ¬ FrameOf env C := fun q => Nat.lt_irrefl _ (Nat.lt_of_lt_of_le (S.frame_lt q) hCsz)
  -- the store turns the frame alone: C's names stand
  have keyN : ∀ h5, Ses h0 h' (fun b => D b ∧ b ≠ C) env (upd m x (.ref acc)) (fun h => J n ys h ∧ h.IsList acc ys.toArray) h5 → h5.Ns C mC := fun h5 X5 => hN.at' fun o e => X5.ext.get C o (.inl fun d => d.2 rfl) e
  have X' : Ses h0 h' (fun b => D b ∧ b ≠ C) env m (fun h => J n ys h ∧ h.IsList acc ys.toArray) h' :=
    { fr := X.fr, ext := Ext.refl _ _, nw := fun b hb => ⟨X.nw b (Nat.le_trans X.ext.size hb), fun e => Nat.lt_irrefl _ (Nat.lt_of_lt_of_le hN.lt (e ▸ hb))⟩, gnd := X.base, out := fun b hb => X.out b hb.1, st := X.st, dat := X.dat, gl := X.gl, bu := X.bu }
  refine T_st X' ?_ fun h5 X5 => ⟨mC, keyN h5 X5, fun h'' hs' => ?_⟩
  · rcases ha with ⟨a, b, c⟩ | ⟨a, c, b, d⟩
    · exact .inl ⟨a, b, c, fun e => hCF (.inl e.symm)⟩
    · exact .inr ⟨a, c, b, d, fun e => hCF (.inr ⟨x, e ▸ b⟩)⟩
  · have XX : Ses h0 hs D env (upd m x (.ref acc)) (fun h => J n ys h ∧ h.IsList acc ys.toArray) h5 :=
      { fr := X5.fr, ext := X.ext.trans (X5.ext.mono fun b d _ => d.1), nw := X.nw, gnd := X.gnd, out := X.out, st := X5.st, dat := X5.dat, gl := X.gl, bu := X.bu }
    exact fin acc ys h'' e1 e3 (XX.sameButC (keyN h5 X5) hs' (S.nw C (Nat.le_trans S.ext.size hCsz)) hCF)
/-- the sources' iterators -/
theorem T_iterList {l : Addr} {vs : Array Value} {Q : Value → Heap → Prop} (S : Ses h0 hs D env m P h) (hl : h.IsList l vs)
    (q : ∀ I h', Ses h0 hs D env m P h' → h.objs.size ≤ I → h'.IsListIter I l 0 → h'.IsList l vs → Q (.ref I) h') : Tr prog w A (pyIter (.ref l)) h Q := fun s e => by
  subst e
  exact wpAny_pyIter_list hl ⟨⟨rfl, rfl, rfl⟩, q _ _ (S.push _) (Nat.le_refl _) ⟨_, Heap.get?_push_size _ rfl, rfl, rfl⟩ (hl.push _)⟩
theorem T_iterTup {l : Addr} {vs : Array Value} {Q : Value → Heap → Prop} (S : Ses h0 hs D env m P h) (hl : h.IsTuple l vs)
    (q : ∀ I h', Ses h0 hs D env m P h' → h.objs.size ≤ I → h'.IsTupleIter I l 0 → h'.IsTuple l vs → Q (.ref I) h') : Tr prog w A (pyIter (.ref l)) h Q := fun s e => by
  subst e
  exact wpAny_pyIter_tuple hl ⟨⟨rfl, rfl, rfl⟩, q _ _ (S.push _) (Nat.le_refl _) ⟨_, Heap.get?_push_size _ rfl, rfl, rfl⟩ (hl.push _)⟩
theorem T_enum {l : Addr} {vs : Array Value} {Q : Value → Heap → Prop} (S : Ses h0 hs D env m P h) (hl : h.IsList l vs)
    (q : ∀ e I h', Ses h0 hs D env m P h' → h.objs.size ≤ I → I < e → IsEnum h' e I 0 .none → h'.IsListIter I l 0 → h'.IsList l vs → Q (.ref e) h') : Tr prog w A (call (.type "enumerate") [.ref l]) h Q := fun s e => by
  subst e
  refine call_enumerate_list hl fun h' hE hI hz hk => ⟨⟨rfl, rfl, rfl⟩, q _ _ h' (S.on S.st (S.st _ _ S.dat (KD.of_all hk)) (by rw [hz]; exact Nat.le_add_right _ _) hk) (Nat.le_refl _) (Nat.lt_succ_self _) hE hI ?_⟩
  obtain ⟨o, ho, r⟩ := hl
  exact ⟨o, hk _ _ ho, r⟩
theorem T_iterEnum {e I : Addr} {i : Int} {old : Value} {Q : Value → Heap → Prop} (hE : IsEnum h e I i old) (q : Q (.ref e) h) : Tr prog w A (pyIter (.ref e)) h Q := fun s es => by
  subst es
  exact wpAny_pyIter_enum hE ⟨Same.refl s, q⟩
theorem new_none (S : Ses h0 hs D env m P h) {I : Addr} (hI : h.objs.size ≤ I) : hs.get? I = none := none_above (Nat.le_trans S.ext.size hI)
end
end Mine
namespace Mine
/-- a list of n ints -/
noncomputable def IntRow (h : Heap) (r : Addr) (n : Nat) (f : Nat → Int) : Prop := ∃ vs : Array Value, h.IsList r vs ∧ vs.size = n ∧ ∀ j, j < n → ∃ t, vs[j]? = some (.int (f j) t)
/-- a list of m refs -/
noncomputable def RefRow (h : Heap) (a : Addr) (m : Nat) (rows : Nat → Addr) : Prop := ∃ vs : Array Value, h.IsList a vs ∧ vs.size = m ∧ ∀ i, i < m → vs[i]? = some (.ref (rows i))
theorem IntRow.lt {h : Heap} {r n f} (x : IntRow h r n f) : r < h.objs.size := let ⟨_, ⟨_, ho, _⟩, _⟩ := x; Heap.lt_size ho
theorem RefRow.lt {h : Heap} {r n f} (x : RefRow h r n f) : r < h.objs.size := let ⟨_, ⟨_, ho, _⟩, _⟩ := x; Heap.lt_size ho
theorem Stable.intRow (r : Addr) (n : Nat) (f : Nat → Int) : Stable (fun h => IntRow h r n f) := fun h h' ⟨vs, hl, x⟩ k => ⟨vs, Stable.list r vs h h' hl k, x⟩
theorem Stable.refRow (r : Addr) (n : Nat) (f : Nat → Addr) : Stable (fun h => RefRow h r n f) := fun h h' ⟨vs, hl, x⟩ k => ⟨vs, Stable.list r vs h h' hl k, x⟩
theorem IntRow.congr {h : Heap} {r n f g} (x : IntRow h r n f) (e : ∀ j, j < n → f j = g j) : IntRow h r n g := let ⟨vs, a, b, c⟩ := x; ⟨vs, a, b, fun j hj => e j hj ▸ c j hj⟩
theorem IsList.but {h h' : Heap} {r a : Addr} {vs : Array Value} (x : h.IsList r vs) (k : ∀ b, b ≠ a → h'.get? b = h.get? b) (hne : r ≠ a) : h'.IsList r vs := let ⟨o, ho, z⟩ := x; ⟨o, (k r hne).trans ho, z⟩
theorem IntRow.but {h h' : Heap} {r a n f} (x : IntRow h r n f) (k : ∀ b, b ≠ a → h'.get? b = h.get? b) (hne : r ≠ a) : IntRow h' r n f := let ⟨vs, hl, z⟩ := x; ⟨vs, IsList.but hl k hne, z⟩
theorem RefRow.but {h h' : Heap} {r a n f} (x : RefRow h r n f) (k : ∀ b, b ≠ a → h'.get? b = h.get? b) (hne : r ≠ a) : RefRow h' r n f := let ⟨vs, hl, z⟩ := x; ⟨vs, IsList.but hl k hne, z⟩
theorem IsList.ext {h h' : Heap} {D : Addr → Prop} {r : Addr} {vs : Array Value} (x : h.IsList r vs) (k : Ext D h h') (hne : ¬ D r) : h'.IsList r vs := let ⟨o, ho, z⟩ := x; ⟨o, k.get r o (.inl hne) ho, z⟩
theorem IntRow.ext {h h' : Heap} {D : Addr → Prop} {r n f} (x : IntRow h r n f) (k : Ext D h h') (hne : ¬ D r) : IntRow h' r n f := let ⟨vs, hl, z⟩ := x; ⟨vs, IsList.ext hl k hne, z⟩
theorem RefRow.ext {h h' : Heap} {D : Addr → Prop} {r n f} (x : RefRow h r n f) (k : Ext D h h') (hne : ¬ D r) : RefRow h' r n f := let ⟨vs, hl, z⟩ := x; ⟨vs, IsList.ext hl k hne, z⟩
/-- a list of ints and a list of refs are two, where they have items -/
theorem IntRow.ne_ref {h : Heap} {r a n m f rows} (x : IntRow h r n f) (y : RefRow h a m rows) (hn : 0 < n) (hm : 0 < m) : r ≠ a := by
  rintro rfl
  obtain ⟨vs, ⟨o, ho, _, k, hd⟩, _, hv⟩ := x
  obtain ⟨ws, ⟨o', ho', _, k', hd'⟩, _, hw⟩ := y
  rw [ho] at ho'; cases ho'
  rw [hd] at hd'; cases hd'
  obtain ⟨t, e⟩ := hv 0 hn
  rw [hw 0 hm] at e; cases e
structure Mat (N : Nat) (h : Heap) (a : Addr) (rows : Nat → Addr) (m n : Nat) (A : Nat → Nat → Int) : Prop where
  outer : RefRow h a m rows
  row : ∀ i, i < m → IntRow h (rows i) n (A i)
  ne : ∀ i, i < m → rows i ≠ a
  inj : ∀ i j, i < m → j < m → rows i = rows j → i = j
  lo : N ≤ a
  lor : ∀ i, i < m → N ≤ rows i
theorem Stable.mat (N : Nat) (a : Addr) (rows : Nat → Addr) (m n : Nat) (A : Nat → Nat → Int) : Stable (fun h => Mat N h a rows m n A) := fun h h' x k =>
  ⟨Stable.refRow _ _ _ h h' x.outer k, fun i hi => Stable.intRow _ _ _ h h' (x.row i hi) k, x.ne, x.inj, x.lo, x.lor⟩
noncomputable def Foot (a : Addr) (rows : Nat → Addr) (m : Nat) (b : Addr) : Prop := b = a ∨ ∃ i, i < m ∧ b = rows i
theorem Mat.foot_lt {N h a rows m n A} (x : Mat N h a rows m n A) {b : Addr} (hb : Foot a rows m b) : b < h.objs.size := by
  rcases hb with rfl | ⟨i, hi, rfl⟩
  · exact x.outer.lt
  · exact (x.row i hi).lt
theorem Mat.ext {N h h' a rows m n A} {D : Addr → Prop} (x : Mat N h a rows m n A) (k : Ext D h h') (hne : ∀ b, Foot a rows m b → ¬ D b) : Mat N h' a rows m n A :=
  ⟨x.outer.ext k (hne _ (.inl rfl)), fun i hi => (x.row i hi).ext k (hne _ (.inr ⟨i, hi, rfl⟩)), x.ne, x.inj, x.lo, x.lor⟩
theorem Mat.but {N h h' a rows m n A c} (x : Mat N h a rows m n A) (k : ∀ b, b ≠ c → h'.get? b = h.get? b) (hne : ¬ Foot a rows m c) : Mat N h' a rows m n A :=
  ⟨x.outer.but k fun e => hne (.inl e.symm), fun i hi => (x.row i hi).but k fun e => hne (.inr ⟨i, hi, e.symm⟩), x.ne, x.inj, x.lo, x.lor⟩
theorem Mat.congr {N h a rows m n A B} (x : Mat N h a rows m n A) (e : ∀ i j, i < m → j < n → A i j = B i j) : Mat N h a rows m n B :=
  ⟨x.outer, fun i hi => (x.row i hi).congr fun j hj => e i j hi hj, x.ne, x.inj, x.lo, x.lor⟩
section
variable {prog : Program} {w : World} {A : Around} {h0 hs h h2 : Heap} {D : Addr → Prop} {env : Env} {m : Str → Option Value} {P P0 : Heap → Prop}
theorem T_itemR {value slice : Expr} {a : Addr} {mm : Nat} {rows : Nat → Addr} {k : Int} {t : Tok} {i : Nat} {Q : Value → Heap → Prop} (x : RefRow h a mm rows) (hk : k = (i : Int)) (hi : i < mm) (hsm : mm ≤ 1000) (q : Q (.ref (rows i)) h)
    (hs : subscripted slice false (.ref a) (.int k t) = operate [.ref a, .int k t] (getItem (.ref a) (.int k t)) := by with_unfolding_all rfl) :
    Tr prog w A (subscriptTail value slice (.ref a) (.int k t)) h Q := by
  subst hk
  obtain ⟨vs, hl, hz, hv⟩ := x
  exact T_itemL hl (by exact Int.natCast_nonneg _) (by lia) (by simpa using hv i hi) q hs
theorem T_itemI {value slice : Expr} {a : Addr} {n : Nat} {f : Nat → Int} {k : Int} {t : Tok} {j : Nat} {Q : Value → Heap → Prop} (x : IntRow h a n f) (hk : k = (j : Int)) (hj : j < n) (hsm : n ≤ 1000) (q : ∀ t, Q (.int (f j) t) h)
    (hs : subscripted slice false (.ref a) (.int k t) = operate [.ref a, .int k t] (getItem (.ref a) (.int k t)) := by with_unfolding_all rfl) :
    Tr prog w A (subscriptTail value slice (.ref a) (.int k t)) h Q := by
  subst hk
  obtain ⟨vs, hl, hz, hv⟩ := x
  obtain ⟨u, hu⟩ := hv j hj
  exact T_itemL hl (by exact Int.natCast_nonneg _) (by omega) (by simpa using hu) (q _) hs
theorem T_lenR {a : Addr} {mm : Nat} {rows : Nat → Addr} {Q : Value → Heap → Prop} (x : RefRow h a mm rows) (hsm : mm ≤ 1000) (q : ∀ t, Q (.int (mm : Int) t) h) : Tr prog w A (call (.builtin "len") [.ref a]) h Q := by
  obtain ⟨vs, hl, hz, hv⟩ := x
  exact T_len hl (by lia) fun t => hz ▸ q t
theorem T_lenI {a : Addr} {n : Nat} {f : Nat → Int} {Q : Value → Heap → Prop} (x : IntRow h a n f) (hsm : n ≤ 1000) (q : ∀ t, Q (.int (n : Int) t) h) : Tr prog w A (call (.builtin "len") [.ref a]) h Q := by
  obtain ⟨vs, hl, hz, hv⟩ := x
  exact T_len hl (by omega) fun t => hz ▸ q t
/-- a row put into a matrix -/
theorem T_putRow {N : Nat} {a : Addr} {rows : Nat → Addr} {mm n : Nat} {B : Nat → Nat → Int} {k : Int} {t : Tok} {i : Nat} {r : Addr} {f : Nat → Int} {Q : Unit → Heap → Prop} (S : Ses h0 hs D env m P h) (M : Mat N h a rows mm n B) (X : IntRow h r n f)
    (hk : k = (i : Int)) (hi : i < mm) (hsm : mm ≤ 1000) (hD : D a) (hra : r ≠ a) (hrr : ∀ j, j < mm → j ≠ i → r ≠ rows j) (hrN : N ≤ r)
    {P' : Heap → Prop} (st : Stable P') (p : ∀ h', (∀ b, b ≠ a → h'.get? b = h.get? b) → Mat N h' a (fun j => if j = i then r else rows j) mm n (fun j c => if j = i then f c else B j c) → P' h')
    (q : ∀ h', Ses h0 hs D env m P' h' → Q () h') : Tr prog w A (setItem (.ref a) (.int k t) (.ref r)) h Q := by
  subst hk
  obtain ⟨vs, hl, hz, hv⟩ := id M.outer
  refine T_setItem S hl hD (by exact Int.natCast_nonneg _) (by lia) (by lia) st (fun h' hl' k => p h' k ?_) q
  refine { outer := ⟨_, hl', by simp [hz], fun j hj => ?_⟩, row := fun j hj => ?_, ne := fun j hj => ?_, inj := fun j j' hj hj' e => ?_, lo := M.lo, lor := fun j hj => ?_ }
  · by_cases e : j = i
    · subst e; simp [hz, hi]
    · simp only [if_neg e]
      rw [Array.getElem?_setIfInBounds, if_neg (by simp; lia)]
      exact hv j hj
  · by_cases e : j = i
    · subst e; simp only [if_true]; exact X.but k hra
    · simp only [if_neg e]; exact (M.row j hj).but k (M.ne j hj)
  · by_cases e : j = i
    · simp only [if_pos e]; exact hra
    · simp only [if_neg e]; exact M.ne j hj
  · by_cases e1 : j = i <;> by_cases e2 : j' = i
    · rw [e1, e2]
    · simp only [if_pos e1, if_neg e2] at e; exact absurd e (hrr j' hj' e2)
    · simp only [if_neg e1, if_pos e2] at e; exact absurd e.symm (hrr j hj e1)
    · simp only [if_neg e1, if_neg e2] at e; exact M.inj j j' hj hj' e
  · by_cases e : j = i
    · simp only [if_pos e]; exact hrN
    · simp only [if_neg e]; exact M.lor j hj
/-- an int put into a row of ints -/
theorem T_putInt {a : Addr} {n : Nat} {f : Nat → Int} {k v : Int} {t u : Tok} {j : Nat} {Q : Unit → Heap → Prop} (S : Ses h0 hs D env m P h) (X : IntRow h a n f) (hk : k = (j : Int)) (hj : j < n) (hsm : n ≤ 1000) (hD : D a)
    {P' : Heap → Prop} (st : Stable P') (p : ∀ h', (∀ b, b ≠ a → h'.get? b = h.get? b) → IntRow h' a n (fun c => if c = j then v else f c) → P' h')
    (q : ∀ h', Ses h0 hs D env m P' h' → Q () h') : Tr prog w A (setItem (.ref a) (.int k t) (.int v u)) h Q := by
  subst hk
  obtain ⟨vs, hl, hz, hv⟩ := id X
  refine T_setItem S hl hD (by exact Int.natCast_nonneg _) (by omega) (by lia) st (fun h' hl' k => p h' k ⟨_, hl', by simp [hz], fun c hc => ?_⟩) q
  by_cases e : c = j
  · subst e; exact ⟨u, by simp [hz, hj]⟩
  · obtain ⟨t', ht'⟩ := hv c hc
    refine ⟨t', ?_⟩
    simp only [if_neg e]
    rw [Array.getElem?_setIfInBounds, if_neg (by simp; lia)]
    exact ht'
end
end Mine
namespace Mine
section
variable {prog : Program} {w : World} {A : Around} {h0 hs h h2 : Heap} {D : Addr → Prop} {env : Env} {m : Str → Option Value} {P P0 : Heap → Prop}
noncomputable def IntsUp (ys : List Value) (i : Nat) (f : Nat → Int) : Prop := ys.length = i ∧ ∀ j, j < i → ∃ t, ys[j]? = some (.int (f j) t)
theorem IntsUp.snoc {ys i f v t} (x : IntsUp ys i f) (e : v = .int (f i) t) : IntsUp (ys ++ [v]) (i + 1) f := by
  refine ⟨by rw [List.length_append, List.length_singleton, x.1], fun j hj => ?_⟩
  by_cases h : j < i
  · obtain ⟨t, ht⟩ := x.2 j h
    exact ⟨t, by rw [List.getElem?_append_left (by rw [x.1]; exact h)]; exact ht⟩
  · have : j = i := by lia
    subst this
    exact ⟨t, by rw [List.getElem?_append_right (by rw [x.1]; exact Nat.le_refl _), x.1, Nat.sub_self, e]; rfl⟩
/-- [elt for .. in ..]: ints, nothing turns -/
theorem compInts {elt target iter : Expr} {scope : Scope} {pos : Pos} {it : Value} {n : Nat} {St : Nat → Heap → Prop} {U : Nat → (Str → Option Value) → (Str → Option Value) → Prop} {K : Heap → Prop} {Q : Value → Heap → Prop}
    (f : Nat → Int) (S : Ses h0 hs D env m P0 h) (S2 : Ses h0 h (Dc D env) env m P h2) (hSt : St 0 h2)
    (Dr : ∀ C, C = h2.objs.size + 1 → Draw prog w A h0 h (Dc D env) (cenvOf scope env C) it target n St U K)
    (hU : ∀ i m m', U i m m' → ∀ x, scope.names.lookup x = some .free → m' x = m x)
    (hK : ∀ h, P h → K h) (hn : n ≤ sizeLine)
    (step : ∀ C i m' hi, i < n → (∀ x, scope.names.lookup x = some .free → m' x = m x) → (∃ mi, U i mi m') → Ses h0 hi (Dc D env) (cenvOf scope env C) m' P hi →
      Tr prog w A (eval elt (cenvOf scope env C)) hi (fun v h' => h' = hi ∧ ∃ t, v = .int (f i) t))
    (fin : ∀ acc h', acc = h2.objs.size → Ses h0 hs D env m (fun h => P h ∧ IntRow h acc n f) h' → Q (.ref acc) h')
    (hf : (scope.names.all fun x => x.2 != .free || (env.cells.lookup x.1).isSome) = true := by rfl)
    (hc : (scope.names.all fun x => scope.names.lookup x.1 == some x.2) = true := by rfl) (hk : scope.kind = .function := by rfl) :
    CompGo prog w A elt target iter [] scope pos env it h2 (fun acc C h4 => ∃ mC, h4.Ns C mC ∧ ∀ h', Heap.SameBut C h4 h' → Q (.ref acc) h') := by
  refine compGoE S S2 hSt Dr hU (fun i ys h => KD h2 h ∧ IntsUp ys i f) (fun i ys => StableX.kd.and .const) (fun i ys h q => hK h (S2.st _ _ S2.dat q.1)) ⟨KD.refl _, rfl, fun j hj => absurd hj (Nat.not_lt_zero _)⟩ hn
    (fun acc C i ys m' hi e1 e2 hlt hlen hm hu X => T_tests0 ?_) (fun acc ys h' e1 e2 X => fin acc h' e1 (X.with (S2.st.and (Stable.intRow _ _ _)) ⟨S2.st _ _ S2.dat X.dat.1.1, _, X.dat.2, by simp [X.dat.1.2.1], fun j hj => by simpa using X.dat.1.2.2 j hj⟩)) hf hc hk
  rw [if_pos rfl]
  refine (step C i m' hi hlt hm hu (X.with S2.st (S2.st _ _ S2.dat X.dat.1.1))).mono fun v h' q => ?_
  obtain ⟨rfl, t, e⟩ := q
  exact X.with ((StableX.kd.stable.and .const).and (Stable.list _ _)) ⟨⟨X.dat.1.1, X.dat.1.2.snoc e⟩, X.dat.2⟩
theorem compIntsA {x : Str} {elt target iter : Expr} {scope : Scope} {pos : Pos} {it : Value} {n : Nat} {St : Nat → Heap → Prop} {U : Nat → (Str → Option Value) → (Str → Option Value) → Prop} {K : Heap → Prop} {Q : Flow → Heap → Prop}
    (f : Nat → Int) (S : Ses h0 hs D env m P0 h) (S2 : Ses h0 h (Dc D env) env m P h2) (hSt : St 0 h2)
    (Dr : ∀ C, C = h2.objs.size + 1 → Draw prog w A h0 h (Dc D env) (cenvOf scope env C) it target n St U K)
    (hU : ∀ i m m', U i m m' → ∀ x, scope.names.lookup x = some .free → m' x = m x)
    (hK : ∀ h, P h → K h) (hn : n ≤ sizeLine)
    (step : ∀ C i m' hi, i < n → (∀ x, scope.names.lookup x = some .free → m' x = m x) → (∃ mi, U i mi m') → Ses h0 hi (Dc D env) (cenvOf scope env C) m' P hi →
      Tr prog w A (eval elt (cenvOf scope env C)) hi (fun v h' => h' = hi ∧ ∃ t, v = .int (f i) t))
    (ha : Asg env D x)
    (fin : ∀ acc h', acc = h2.objs.size → Ses h0 hs D env (upd m x (.ref acc)) (fun h => P h ∧ IntRow h acc n f) h' → Q .next h')
    (hf : (scope.names.all fun x => x.2 != .free || (env.cells.lookup x.1).isSome) = true := by rfl)
    (hc : (scope.names.all fun x => scope.names.lookup x.1 == some x.2) = true := by rfl) (hk : scope.kind = .function := by rfl) :
    CompGo prog w A elt target iter [] scope pos env it h2 (fun acc C h4 => Tr prog w A (storeName env x (.ref acc)) h4 (fun _ h5 => ∃ mC, h5.Ns C mC ∧ ∀ h', Heap.SameBut C h5 h' → Q .next h')) := by
  refine compGoA S S2 hSt Dr hU (fun i ys h => KD h2 h ∧ IntsUp ys i f) (fun i ys => StableX.kd.and .const) (fun i ys h q => hK h (S2.st _ _ S2.dat q.1)) ⟨KD.refl _, rfl, fun j hj => absurd hj (Nat.not_lt_zero _)⟩ hn
    (fun acc C i ys m' hi e1 e2 hlt hlen hm hu X => T_tests0 ?_) ha (fun acc ys h' e1 e2 X => fin acc h' e1 (X.with (S2.st.and (Stable.intRow _ _ _)) ⟨S2.st _ _ S2.dat X.dat.1.1, _, X.dat.2, by simp [X.dat.1.2.1], fun j hj => by simpa using X.dat.1.2.2 j hj⟩)) hf hc hk
  rw [if_pos rfl]
  refine (step C i m' hi hlt hm hu (X.with S2.st (S2.st _ _ S2.dat X.dat.1.1))).mono fun v h' q => ?_
  obtain ⟨rfl, t, e⟩ := q
  exact X.with ((StableX.kd.stable.and .const).and (Stable.list _ _)) ⟨⟨X.dat.1.1, X.dat.1.2.snoc e⟩, X.dat.2⟩
/-- rows that a comprehension at acc has made so far -/
noncomputable def RowsUp (acc : Addr) (ys : List Value) (i n : Nat) (B : Nat → Nat → Int) (h : Heap) : Prop :=
  ∃ rows : Nat → Addr, ys.length = i ∧ (∀ j, j < i → ys[j]? = some (.ref (rows j)) ∧ IntRow h (rows j) n (B j) ∧ acc < rows j) ∧ ∀ j k, j < i → k < i → rows j = rows k → j = k
theorem RowsUp.stable (acc : Addr) (ys : List Value) (i n : Nat) (B : Nat → Nat → Int) : StableX acc (RowsUp acc ys i n B) := fun h h' ⟨rows, a, b, c⟩ k =>
  ⟨rows, a, fun j hj => by
    obtain ⟨b1, ⟨vs, ⟨o, ho, hcl, nn, hd⟩, z⟩, b3⟩ := b j hj
    exact ⟨b1, ⟨vs, ⟨o, k _ o (Nat.ne_of_gt b3) ho ⟨vs, nn, hd⟩, hcl, nn, hd⟩, z⟩, b3⟩, c⟩
/-- a new row of ints comes out -/
noncomputable def RowOut (h0 hi : Heap) (D : Addr → Prop) (env : Env) (m : Str → Option Value) (P : Heap → Prop) (n : Nat) (f : Nat → Int) (v : Value) (h' : Heap) : Prop :=
  ∃ r, v = .ref r ∧ hi.objs.size ≤ r ∧ Ses h0 hi D env m (fun h => P h ∧ IntRow h r n f) h'
theorem compRows {elt target iter : Expr} {scope : Scope} {pos : Pos} {it : Value} {mm n : Nat} {St : Nat → Heap → Prop} {U : Nat → (Str → Option Value) → (Str → Option Value) → Prop} {K : Heap → Prop} {Post : Addr → Addr → Heap → Prop}
    (B : Nat → Nat → Int) (S : Ses h0 hs D env m P0 h) (S2 : Ses h0 h (Dc D env) env m P h2) (hSt : St 0 h2)
    (Dr : ∀ C, C = h2.objs.size + 1 → Draw prog w A h0 h (Dc D env) (cenvOf scope env C) it target mm St U K)
    (hU : ∀ i m m', U i m m' → ∀ x, scope.names.lookup x = some .free → m' x = m x)
    (hK : ∀ h, P h → K h) (hn : mm ≤ sizeLine)
    (step : ∀ C i m' hi (P' : Heap → Prop), C = h2.objs.size + 1 → i < mm → (∀ x, scope.names.lookup x = some .free → m' x = m x) → (∃ mi, U i mi m') → (∀ h, P' h → P h) → Ses h0 hi (Dc D env) (cenvOf scope env C) m' P' hi →
      Tr prog w A (eval elt (cenvOf scope env C)) hi (RowOut h0 hi (Dc D env) (cenvOf scope env C) m' P' n (B i)))
    (fin : ∀ acc C mC rows h', acc = h2.objs.size → C = acc + 1 → Ses h0 hs D env m (fun h => P h ∧ Mat h0.objs.size h acc rows mm n B) h' → (∀ i, i < mm → acc < rows i) → h'.Ns C mC → Post acc C h')
    (hf : (scope.names.all fun x => x.2 != .free || (env.cells.lookup x.1).isSome) = true := by rfl)
    (hc : (scope.names.all fun x => scope.names.lookup x.1 == some x.2) = true := by rfl) (hk : scope.kind = .function := by rfl) :
    CompGo prog w A elt target iter [] scope pos env it h2 Post := by
  refine compGo S S2 hSt Dr hU (fun i ys h => KD h2 h ∧ RowsUp h2.objs.size ys i n B h) (fun i ys => StableX.kd.and (RowsUp.stable _ _ _ _ _)) (fun i ys h q => hK h (S2.st _ _ S2.dat q.1))
    ⟨KD.refl _, fun _ => 0, rfl, fun j hj => absurd hj (Nat.not_lt_zero _), fun j k hj => absurd hj (Nat.not_lt_zero _)⟩ hn
    (fun acc C i ys m' hi e1 e2 hlt hlen hm hu X => T_tests0 ?_) (fun acc C ys mC h' e1 e2 e3 X hN => ?_) hf hc hk
  · rw [if_pos rfl]
    subst e1
    refine (step C i m' hi _ (by omega) hlt hm hu (fun h q => S2.st _ _ S2.dat q.1.1) X).mono fun v h' q => ?_
    obtain ⟨r, rfl, hr, Y⟩ := q
    refine Y.with ((StableX.kd.and (RowsUp.stable _ _ _ _ _)).stable.and (Stable.list _ _)) ⟨⟨Y.dat.1.1.1, ?_⟩, Y.dat.1.2⟩
    -- the older rows stand at hi already: they lie below r
    obtain ⟨rows, a, b, c⟩ := X.dat.1.2
    have kd : ∀ j, j < i → IntRow h' (rows j) n (B j) := fun j hj => by
      obtain ⟨b1, b2, b3⟩ := b j hj
      obtain ⟨rows', a', b', c'⟩ := Y.dat.1.1.2
      obtain ⟨b1', b2', _⟩ := b' j hj
      rw [b1] at b1'
      have : rows j = rows' j := by injection b1' with q; injection q
      rw [this]; exact b2'
    have blt : ∀ j, j < i → rows j < r := fun j hj => Nat.lt_of_lt_of_le (b j hj).2.1.lt hr
    have hacc : h2.objs.size < r := by
      have := X.dat.2
      obtain ⟨o, ho, _⟩ := this
      exact Nat.lt_of_lt_of_le (Heap.lt_size ho) hr
    refine ⟨fun j => if j = i then r else rows j, by rw [List.length_append, List.length_singleton, a], fun j hj => ?_, fun j k hj hk' e => ?_⟩
    · by_cases e : j = i
      · subst e
        simp only [if_true]
        refine ⟨?_, Y.dat.2, hacc⟩
        rw [List.getElem?_append_right (by rw [a]; exact Nat.le_refl _), a, Nat.sub_self]; rfl
      · simp only [if_neg e]
        have hj' : j < i := by lia
        refine ⟨?_, kd j hj', (b j hj').2.2⟩
        rw [List.getElem?_append_left (by rw [a]; exact hj')]
        exact (b j hj').1
    · by_cases e1 : j = i <;> by_cases e2 : k = i
      · (simp +arith only [*])
      · simp only [if_pos e1, if_neg e2] at e
        exact absurd e (Nat.ne_of_gt (blt k (by lia)))
      · simp only [if_neg e1, if_pos e2] at e
        exact absurd e (Nat.ne_of_lt (blt j (by lia)))
      · simp only [if_neg e1, if_neg e2] at e
        exact c j k (by lia) (by lia) e
  · obtain ⟨⟨kd, rows, a, b, c⟩, hl⟩ := X.dat
    have hz0 : h0.objs.size ≤ h2.objs.size := by
      have := S2.out _ (S2.nw h2.objs.size S2.ext.size)
      exact this
    refine fin acc C mC rows h' e1 e2 (X.with (S2.st.and (Stable.mat _ _ _ _ _ _)) ⟨S2.st _ _ S2.dat kd, ⟨_, hl, by simp [a], fun j hj => by simpa using (b j hj).1⟩, fun j hj => (b j hj).2.1, fun j hj => Nat.ne_of_gt (e1 ▸ (b j hj).2.2), c, e1 ▸ hz0, fun j hj => ?_⟩) (fun j hj => e1 ▸ (b j hj).2.2) hN
    exact Nat.le_trans hz0 (Nat.le_of_lt (b j hj).2.2)
end
end Mine
namespace Mine
/-- the parts of the text's defs -/
noncomputable def fnAt (i : Nat) : List Stmt := PySem.Challenge.pw_oj0002_01.main.body.drop i
noncomputable def bodyN (i : Nat) : List Stmt := match fnAt i with | .FunctionDef _ _ b _ _ _ _ _ _ _ :: _ => b | _ => []
noncomputable def argsN (i : Nat) : Arguments := match fnAt i with | .FunctionDef _ a _ _ _ _ _ _ _ _ :: _ => a | _ => ⟨[], [], none, [], [], none, []⟩
noncomputable def scopeN (i : Nat) : Scope := match fnAt i with | .FunctionDef _ _ _ _ _ _ s _ _ _ :: _ => s | _ => { kind := .module, names := [], isGenerator := false, isCoroutine := false, more := [] }
/-- what the walk takes of the ground -/
structure Gd (prog : Program) (h0 : Heap) : Prop where
  nolimit : h0.NoLimit
  noseer : h0.NoSeer
  tree : prog.given.tree = none
theorem natAbs_bits {x : Int} {k : Nat} (h : x.natAbs ≤ 2 ^ k) : Builtin.Int.intBits x ≤ k + 1 := by
  unfold Builtin.Int.intBits
  split
  · omega
  · rename_i h0
    have hx : x.natAbs ≠ 0 := by simpa using h0
    have : x.natAbs.log2 < k + 1 := (Nat.log2_lt hx).mpr (by rw [Nat.pow_succ]; have := Nat.two_pow_pos k; omega)
    omega
theorem mulOk {a b : Int} {k l : Nat} (ha : a.natAbs ≤ 2 ^ k) (hb : b.natAbs ≤ 2 ^ l) (h : k + l ≤ 134217726) : IntMulOk a b :=
  mulOk_of_bits (natAbs_bits ha) (natAbs_bits hb) (by omega)
end Mine
namespace Mine
theorem upd_same {m : Str → Option Value} {x : Str} {v : Value} : upd m x v x = some v := by simp [upd]
theorem upd_ne {m : Str → Option Value} {x y : Str} {v : Value} {u : Option Value} (h : y ≠ x) (e : m y = u) : upd m x v y = u := by simp [upd, h, e]
theorem un {m : Str → Option Value} {x y : Str} {v : Value} {u : Option Value} (e : m y = u) (h : y ≠ x := by decide) : upd m x v y = u := upd_ne h e
theorem hU1 {scope : Scope} {x : Str} {a : Int} (hx : scope.names.lookup x ≠ some .free) : ∀ (i : Nat) (m m' : Str → Option Value), (∃ t, m' = upd m x (.int (a + (i : Int)) t)) → ∀ y, scope.names.lookup y = some .free → m' y = m y := by
  rintro i m m' ⟨t, rfl⟩ y hy
  exact upd_ne (fun e => hx (e ▸ hy)) rfl
theorem hUv {scope : Scope} {x : Str} {vs : Array Value} (hx : scope.names.lookup x ≠ some .free) : ∀ (i : Nat) (m m' : Str → Option Value), (∃ v, vs[i]? = some v ∧ m' = upd m x v) → ∀ y, scope.names.lookup y = some .free → m' y = m y := by
  rintro i m m' ⟨v, _, rfl⟩ y hy
  exact upd_ne (fun e => hx (e ▸ hy)) rfl
theorem hUe {scope : Scope} {x z : Str} {vs : Array Value} (hx : scope.names.lookup x ≠ some .free) (hz : scope.names.lookup z ≠ some .free) : ∀ (i : Nat) (m m' : Str → Option Value), (∃ t v, vs[i]? = some v ∧ m' = upd (upd m x (.int (i : Int) t)) z v) →
    ∀ y, scope.names.lookup y = some .free → m' y = m y := by
  rintro i m m' ⟨t, v, _, rfl⟩ y hy
  exact upd_ne (fun e => hz (e ▸ hy)) (upd_ne (fun e => hx (e ▸ hy)) rfl)
theorem cellsFrom_ge (n0 : Nat) : ∀ (names : List (Str × NameKind)) (n : Nat) (acc : List (Str × Addr)), (∀ x c, (x, c) ∈ acc → n0 ≤ c) → n0 ≤ n → ∀ x c, (x, c) ∈ cellsFrom n names acc → n0 ≤ c
  | [], n, acc, ha, hn, x, c, hm => ha x c hm
  | (nm, k) :: r, n, acc, ha, hn, x, c, hm => by
    unfold cellsFrom at hm
    split at hm
    · refine cellsFrom_ge n0 r (n + 1) _ (fun x c h => ?_) (by omega) x c hm
      rcases List.mem_cons.mp h with h | h
      · rw [(Prod.mk.inj h).2]; exact hn
      · exact ha x c h
    · exact cellsFrom_ge n0 r n acc ha hn x c hm
theorem asgL {Dc : Addr → Prop} {h : Heap} {name : Str} {scope : Scope} {f : Addr} {cd : Value} {x : Str} (hk : (envF name scope h.objs.size f cd).kindOf x = some .local := by rfl) (hc : (envF name scope h.objs.size f cd).cells.lookup x = none := by rfl) :
    Asg (envF name scope h.objs.size f cd) (Dn Dc h) x := .inl ⟨hk, hc, .inr (Nat.le_refl _)⟩
theorem asgC {Dc : Addr → Prop} {h : Heap} {name : Str} {scope : Scope} {f : Addr} {cd : Value} {x : Str} (hk : (envF name scope h.objs.size f cd).kindOf x = some .cell := by rfl) (hc : ((envF name scope h.objs.size f cd).cells.lookup x).isSome = true := by rfl) :
    Asg (envF name scope h.objs.size f cd) (Dn Dc h) x := by
  obtain ⟨c, hc'⟩ := Option.isSome_iff_exists.mp hc
  exact .inr ⟨hk, c, hc', .inr (cellsFrom_ge h.objs.size _ _ [] (fun _ _ h => nomatch h) (Nat.le_succ _) x c (mem_of_lookup hc'))⟩
/-- the names of the module and of the built-ins -/
structure Nm (h0 : Heap) (fa : Nat → Addr) : Prop where
  range : NameIs h0 "range" (.type "range")
  len : NameIs h0 "len" (.builtin "len")
  enumerate : NameIs h0 "enumerate" (.type "enumerate")
  list : NameIs h0 "list" (.type "list")
  abs : NameIs h0 "abs" (.builtin "abs")
  min : NameIs h0 "min" (.builtin "min")
  extended : NameIs h0 "extended" (.ref (fa 1))
  unit_rows : NameIs h0 "unit_rows" (.ref (fa 3))
  combine : NameIs h0 "combine" (.ref (fa 4))
  clear_below : NameIs h0 "clear_below" (.ref (fa 5))
  reduce_above : NameIs h0 "reduce_above" (.ref (fa 6))
  hermite_form : NameIs h0 "hermite_form" (.ref (fa 7))
  least_spot : NameIs h0 "least_spot" (.ref (fa 8))
  swap_columns : NameIs h0 "swap_columns" (.ref (fa 9))
  bring : NameIs h0 "bring" (.ref (fa 10))
  clear_cross : NameIs h0 "clear_cross" (.ref (fa 11))
  undivided_row : NameIs h0 "undivided_row" (.ref (fa 12))
  smith_form : NameIs h0 "smith_form" (.ref (fa 13))
  diagonal : NameIs h0 "diagonal" (.ref (fa 14))
  law_take : NameIs h0 "_law_take" (.ref (fa 16))
  law_matrix : NameIs h0 "_law_matrix" (.ref (fa 17))
  law_deed : NameIs h0 "_law_deed" (.ref (fa 18))
  law_flipped : NameIs h0 "_law_flipped" (.ref (fa 19))
  law_hanging : NameIs h0 "_law_hanging" (.ref (fa 20))
/-- the ground: the text's defs stand -/
structure Gr (prog : Program) (h0 : Heap) (fa : Nat → Addr) (cd : Nat → Value) : Prop extends Gd prog h0 where
  nm : Nm h0 fa
  extended : FnIs h0 (fa 1) (cd 1) "extended" (argsN 1) (bodyN 1) (scopeN 1)
  unit_rows : FnIs h0 (fa 3) (cd 3) "unit_rows" (argsN 3) (bodyN 3) (scopeN 3)
  combine : FnIs h0 (fa 4) (cd 4) "combine" (argsN 4) (bodyN 4) (scopeN 4)
  clear_below : FnIs h0 (fa 5) (cd 5) "clear_below" (argsN 5) (bodyN 5) (scopeN 5)
  reduce_above : FnIs h0 (fa 6) (cd 6) "reduce_above" (argsN 6) (bodyN 6) (scopeN 6)
  hermite_form : FnIs h0 (fa 7) (cd 7) "hermite_form" (argsN 7) (bodyN 7) (scopeN 7)
  least_spot : FnIs h0 (fa 8) (cd 8) "least_spot" (argsN 8) (bodyN 8) (scopeN 8)
  swap_columns : FnIs h0 (fa 9) (cd 9) "swap_columns" (argsN 9) (bodyN 9) (scopeN 9)
  bring : FnIs h0 (fa 10) (cd 10) "bring" (argsN 10) (bodyN 10) (scopeN 10)
  clear_cross : FnIs h0 (fa 11) (cd 11) "clear_cross" (argsN 11) (bodyN 11) (scopeN 11)
  undivided_row : FnIs h0 (fa 12) (cd 12) "undivided_row" (argsN 12) (bodyN 12) (scopeN 12)
  smith_form : FnIs h0 (fa 13) (cd 13) "smith_form" (argsN 13) (bodyN 13) (scopeN 13)
  diagonal : FnIs h0 (fa 14) (cd 14) "diagonal" (argsN 14) (bodyN 14) (scopeN 14)
  law_take : FnIs h0 (fa 16) (cd 16) "_law_take" (argsN 16) (bodyN 16) (scopeN 16)
  law_matrix : FnIs h0 (fa 17) (cd 17) "_law_matrix" (argsN 17) (bodyN 17) (scopeN 17)
  law_deed : FnIs h0 (fa 18) (cd 18) "_law_deed" (argsN 18) (bodyN 18) (scopeN 18)
  law_flipped : FnIs h0 (fa 19) (cd 19) "_law_flipped" (argsN 19) (bodyN 19) (scopeN 19)
  law_hanging : FnIs h0 (fa 20) (cd 20) "_law_hanging" (argsN 20) (bodyN 20) (scopeN 20)
end Mine
namespace Mine
section
variable {prog : Program} {w : World} {A : Around} {h0 hs h : Heap} {D : Addr → Prop} {env : Env} {m : Str → Option Value} {P : Heap → Prop} {fa : Nat → Addr}
/-- [elt for x, y in enumerate(E)], E a list of ints -/
theorem T_enumComp {elt E : Expr} {x y : Str} {px py pt ep ec pos : Pos} {kk : Nat} {scope : Scope} {r : Addr} {n : Nat} {g : Nat → Int} {Q : Value → Heap → Prop} (f : Nat → Int)
    (S : Ses h0 hs D env m P h) (hh : A.handled = none) (N : Nm h0 fa) (hr : ∀ h, P h → IntRow h r n g) (hn : n ≤ 1000)
    (ev : ∀ (D' : Addr → Prop) (Q' : Value → Heap → Prop), Ses h0 h D' env m P h → Q' (.ref r) h → Tr prog w A (eval E env) h Q')
    (step : ∀ C j mi t t' hi, j < n → (∀ z, scope.names.lookup z = some .free → upd (upd mi x (.int (j : Int) t)) y (.int (g j) t') z = m z) → Ses h0 hi (Dc D env) (cenvOf scope env C) (upd (upd mi x (.int (j : Int) t)) y (.int (g j) t')) P hi →
      Tr prog w A (eval elt (cenvOf scope env C)) hi (fun v h' => h' = hi ∧ ∃ t, v = .int (f j) t))
    (fin : ∀ acc h', h.objs.size ≤ acc → Ses h0 hs D env m (fun h => P h ∧ IntRow h acc n f) h' → Q (.ref acc) h')
    (hx : (relabel scope env).names.lookup x = some .local := by rfl) (hy : (relabel scope env).names.lookup y = some .local := by rfl)
    (hxc : ∀ C, (cenvOf scope env C).cells.lookup x = none := by intro _; rfl) (hyc : ∀ C, (cenvOf scope env C).cells.lookup y = none := by intro _; rfl)
    (hxf : scope.names.lookup x ≠ some .free := by decide) (hyf : scope.names.lookup y ≠ some .free := by decide)
    (hg : env.kindOf "enumerate" = some .globalImplicit := by rfl)
    (he : starEach [E] env = (false, eval E env) :: starEach [] env := by rfl)
    (hf : (scope.names.all fun x => x.2 != .free || (env.cells.lookup x.1).isSome) = true := by rfl)
    (hc : (scope.names.all fun x => scope.names.lookup x.1 == some x.2) = true := by rfl) (hk : scope.kind = .function := by rfl)
    (hs' : ∀ z, foldedSetIterable (.Call (.Name "enumerate" ep) [E] [] ec) env z = pure z := by intro _; rfl) :
    Tr prog w A (eval (.ListComp elt [⟨.Tuple [.Name x px, .Name y py] kk pt, .Call (.Name "enumerate" ep) [E] [] ec, [], 0⟩] scope pos) env) h Q := by
  have Si := S.inner
  refine T_compE (T_call <| T_glo Si N.enumerate (T_cwT (T_sp (ev _ _ Si (T_sp0 ?_)) he) he) hg) hf (List.all_eq_true.mpr fun z hz => ?_) hk hs'
  · obtain ⟨vs, hl, hz, hv⟩ := hr h S.dat
    refine T_enum Si hl fun e I h2 S2 hge hlt hE hI hl2 => T_iterEnum hE ?_
    have S2' := S2.with (S2.st.and (Stable.list r vs)) ⟨S2.dat, hl2⟩
    have hgeI : hs.objs.size ≤ I := Nat.le_trans S.ext.size hge
    subst hz
    refine compInts f S S2' (St := fun i h => (∃ old, IsEnum h e I (i : Int) old) ∧ h.IsListIter I r i) ⟨⟨_, hE⟩, hI⟩
      (fun C hC => drawEnum hh (.inl ⟨hx, hxc C, S2'.nw C (by have := S2'.ext.size; lia)⟩) (.inl ⟨hy, hyc C, S2'.nw C (by have := S2'.ext.size; lia)⟩)
        (none_above hge) (none_above (Nat.le_trans hge (Nat.le_of_lt hlt))) (Nat.ne_of_gt hlt))
      (hUe hxf hyf) (fun _ q => q.2) (by rw [sizeLine_eq]; (exact Nat.le_trans (by assumption) (by decide))) (fun C j m' hi hj hm hu X => ?_) (fun acc h' e1 X => fin acc h' (by have := S2'.ext.size; (simp +arith only [*])) (X.with (S.st.and (Stable.intRow _ _ _)) ⟨X.dat.1.1, X.dat.2⟩)) hf hc hk
    obtain ⟨mi, t, v, hvj, rfl⟩ := hu
    obtain ⟨t', ht'⟩ := hv j hj
    rw [ht'] at hvj
    obtain rfl := Option.some.inj hvj
    exact step C j mi t t' hi hj hm (X.with S.st X.dat.1)
  · have := List.all_eq_true.mp hc z hz
    have e : scope.names.lookup z.1 = some z.2 := by simpa using this
    cases hk : z.2 <;> simp_all
/-- [elt for x in E], E a list of ints -/
theorem T_intComp {elt E : Expr} {x : Str} {px pos : Pos} {scope : Scope} {r : Addr} {n : Nat} {g : Nat → Int} {Q : Value → Heap → Prop} (f : Nat → Int)
    (S : Ses h0 hs D env m P h) (hh : A.handled = none) (hr : ∀ h, P h → IntRow h r n g) (hn : n ≤ 1000)
    (ev : ∀ (D' : Addr → Prop) (Q' : Value → Heap → Prop), Ses h0 h D' env m P h → Q' (.ref r) h → Tr prog w A (eval E env) h Q')
    (step : ∀ C j mi t' hi, j < n → (∀ z, scope.names.lookup z = some .free → upd mi x (.int (g j) t') z = m z) → Ses h0 hi (Dc D env) (cenvOf scope env C) (upd mi x (.int (g j) t')) P hi →
      Tr prog w A (eval elt (cenvOf scope env C)) hi (fun v h' => h' = hi ∧ ∃ t, v = .int (f j) t))
    (fin : ∀ acc h', h.objs.size ≤ acc → Ses h0 hs D env m (fun h => P h ∧ IntRow h acc n f) h' → Q (.ref acc) h')
    (hx : (relabel scope env).names.lookup x = some .local := by rfl)
    (hxc : ∀ C, (cenvOf scope env C).cells.lookup x = none := by intro _; rfl)
    (hxf : scope.names.lookup x ≠ some .free := by decide)
    (hf : (scope.names.all fun x => x.2 != .free || (env.cells.lookup x.1).isSome) = true := by rfl)
    (hc : (scope.names.all fun x => scope.names.lookup x.1 == some x.2) = true := by rfl) (hk : scope.kind = .function := by rfl)
    (hs' : ∀ z, foldedSetIterable E env z = pure z := by intro _; rfl) :
    Tr prog w A (eval (.ListComp elt [⟨.Name x px, E, [], 0⟩] scope pos) env) h Q := by
  have Si := S.inner
  refine T_compE (ev _ _ Si ?_) hf (List.all_eq_true.mpr fun z hz => ?_) hk hs'
  · obtain ⟨vs, hl, hz, hv⟩ := hr h S.dat
    refine T_iterList Si hl fun I h2 S2 hge hI hl2 => ?_
    have S2' := S2.with (S2.st.and (Stable.list r vs)) ⟨S2.dat, hl2⟩
    subst hz
    refine compInts f S S2' (St := fun i h => h.IsListIter I r i) hI
      (fun C hC => drawList hh (.inl ⟨hx, hxc C, S2'.nw C (by have := S2'.ext.size; lia)⟩) (none_above hge))
      (hUv hxf) (fun _ q => q.2) (by rw [sizeLine_eq]; (exact Nat.le_trans (by assumption) (by decide))) (fun C j m' hi hj hm hu X => ?_) (fun acc h' e1 X => fin acc h' (by have := S2'.ext.size; (simp +arith only [*])) (X.with (S.st.and (Stable.intRow _ _ _)) ⟨X.dat.1.1, X.dat.2⟩)) hf hc hk
    obtain ⟨mi, v, hvj, rfl⟩ := hu
    obtain ⟨t', ht'⟩ := hv j hj
    rw [ht'] at hvj
    obtain rfl := Option.some.inj hvj
    exact step C j mi t' hi hj hm (X.with S.st X.dat.1)
  · have := List.all_eq_true.mp hc z hz
    have e : scope.names.lookup z.1 = some z.2 := by simpa using this
    cases hk : z.2 <;> simp_all
end
end Mine
namespace Mine
section
variable {prog : Program} {w : World} {A : Around} {h0 hs h : Heap} {D : Addr → Prop} {env : Env} {m : Str → Option Value} {P : Heap → Prop} {fa : Nat → Addr}
theorem Ses.also (S : Ses h0 hs D env m P h) {P' : Heap → Prop} (st : Stable P') (p : P' h) : Ses h0 hs D env m (fun h => P h ∧ P' h) h := S.with (S.st.and st) ⟨S.dat, p⟩
/-- for x in (v1, v2): two turns -/
theorem T_forPair {x : Str} {px pt pos : Pos} {e1 e2 : Expr} {kk : Nat} {body : List Stmt} {v1 v2 : Value} {Q : Flow → Heap → Prop} (hh : A.handled = none) (S : Ses h0 hs D env m P h) (ha : Asg env D x)
    (ev1 : ∀ Q' : Value → Heap → Prop, Q' v1 h → Tr prog w A (eval e1 env) h Q') (ev2 : ∀ Q' : Value → Heap → Prop, Q' v2 h → Tr prog w A (eval e2 env) h Q')
    (P1 P2 : (Str → Option Value) → Heap → Prop) (st1 : ∀ m, Stable (P1 m)) (st2 : ∀ m, Stable (P2 m))
    (step1 : ∀ h1, h.objs.size ≤ h1.objs.size → Ses h0 h1 D env (upd m x v1) P h1 → Tr prog w A (execs body env) h1 (fun f h' => f = .next ∧ ∃ m', Ses h0 h1 D env m' (P1 m') h'))
    (step2 : ∀ m1 h1, h.objs.size ≤ h1.objs.size → Ses h0 h1 D env (upd m1 x v2) (P1 m1) h1 → Tr prog w A (execs body env) h1 (fun f h' => f = .next ∧ ∃ m', Ses h0 h1 D env m' (P2 m') h'))
    (fin : ∀ m' h', Ses h0 hs D env m' (P2 m') h' → Q .next h')
    (he1 : starEach [e1, e2] env = (false, eval e1 env) :: starEach [e2] env := by rfl) (he2 : starEach [e2] env = (false, eval e2 env) :: starEach [] env := by rfl)
    (hs' : ∀ z, foldedSetIterable (.Tuple [e1, e2] kk pt) env z = pure z := by intro _; rfl) :
    Tr prog w A (exec (.For (.Name x px) (.Tuple [e1, e2] kk pt) body [] pos) env) h Q := by
  refine T_for (T_tup <| T_sp (ev1 _ <| T_sp (ev2 _ <| T_sp0 <| T_newTuple S.anew fun p h1 _ S1 => T_iterTup S1 S1.dat.2 fun I h2 S2 hge hI ht => ?_) he2) he1) hs'
  refine T_forD (n := 2) (drawTup (l := p) (vs := #[v1, v2]) hh ha (new_none S1 hge)) S2 hI
    (fun i m' h => (match i with | 0 => m' = m ∧ P h | 1 => P1 m' h | _ => P2 m' h) ∧ h.IsTuple p #[v1, v2]) (fun i m' => Stable.and ?_ (Stable.tuple _ _)) (fun _ _ _ q => q.2) ⟨⟨rfl, S2.dat.1⟩, ht⟩
    (fun i m1 m' h3 hi hu Si jn => ?_) (fun m' h' Sf => fin m' h' (S.join (Sf.with (st2 m') Sf.dat.1)))
  · match i with
    | 0 => exact Stable.const.and S.st
    | 1 => exact st1 _
    | (i + 2) => exact st2 _
  · obtain ⟨v, hv, rfl⟩ := hu
    have kt : ∀ h', Ext D h3 h' → h'.IsTuple p #[v1, v2] := fun h' X => by
      obtain ⟨o, ho, hc, r⟩ := Si.dat.2
      obtain ⟨n, hd⟩ := id r
      exact ⟨o, X.get p o (.inr (by
        rintro (q | ⟨_, _, q⟩ | ⟨_, q⟩)
        · rw [hc] at q; exact absurd q (by decide)
        · rw [hd] at q; cases q
        · rw [hd] at q; cases q)) ho, hc, r⟩
    match i, hi with
    | 0, _ =>
      obtain ⟨⟨rfl, p0⟩, _⟩ := Si.dat
      obtain rfl : v1 = v := by simpa using hv
      refine (step1 h3 (jn _ _ _ Si).ext.size (Si.with S.st p0)).mono fun f h' q => ?_
      obtain ⟨rfl, m'', X⟩ := q
      exact ⟨m'', X.with ((st1 _).and (Stable.tuple _ _)) ⟨X.dat, kt _ X.ext⟩⟩
    | 1, _ =>
      obtain rfl : v2 = v := by simpa using hv
      refine (step2 m1 h3 (jn _ _ _ Si).ext.size (Si.with (st1 _) Si.dat.1)).mono fun f h' q => ?_
      obtain ⟨rfl, m'', X⟩ := q
      exact ⟨m'', X.with ((st2 _).and (Stable.tuple _ _)) ⟨X.dat, kt _ X.ext⟩⟩
theorem Ses.gsz (S : Ses h0 hs D env m P h) : h0.objs.size ≤ h.objs.size := Nat.le_trans (S.out _ (S.nw _ (Nat.le_refl _))) S.ext.size
/-- the same, where the body stores no name -/
theorem T_forPairC {x : Str} {px pt pos : Pos} {e1 e2 : Expr} {kk : Nat} {body : List Stmt} {v1 v2 : Value} {Q : Flow → Heap → Prop} (hh : A.handled = none) (S : Ses h0 hs D env m P h) (ha : Asg env D x)
    (ev1 : ∀ Q' : Value → Heap → Prop, Q' v1 h → Tr prog w A (eval e1 env) h Q') (ev2 : ∀ Q' : Value → Heap → Prop, Q' v2 h → Tr prog w A (eval e2 env) h Q')
    (P1 P2 : Heap → Prop) (st1 : Stable P1) (st2 : Stable P2)
    (step1 : ∀ h1, h.objs.size ≤ h1.objs.size → Ses h0 h1 D env (upd m x v1) P h1 → Tr prog w A (execs body env) h1 (fun f h' => f = .next ∧ Ses h0 h1 D env (upd m x v1) P1 h'))
    (step2 : ∀ h1, h.objs.size ≤ h1.objs.size → Ses h0 h1 D env (upd m x v2) P1 h1 → Tr prog w A (execs body env) h1 (fun f h' => f = .next ∧ Ses h0 h1 D env (upd m x v2) P2 h'))
    (fin : ∀ h', Ses h0 hs D env (upd m x v2) P2 h' → Q .next h')
    (he1 : starEach [e1, e2] env = (false, eval e1 env) :: starEach [e2] env := by rfl) (he2 : starEach [e2] env = (false, eval e2 env) :: starEach [] env := by rfl)
    (hs' : ∀ z, foldedSetIterable (.Tuple [e1, e2] kk pt) env z = pure z := by intro _; rfl) :
    Tr prog w A (exec (.For (.Name x px) (.Tuple [e1, e2] kk pt) body [] pos) env) h Q := by
  have uu : upd (upd m x v1) x v2 = upd m x v2 := by funext y; unfold upd; split <;> rfl
  refine T_forPair hh S ha ev1 ev2 (fun m' h => m' = upd m x v1 ∧ P1 h) (fun m' h => m' = upd m x v2 ∧ P2 h) (fun _ => Stable.const.and st1) (fun _ => Stable.const.and st2)
    (fun h1 hz S1 => (step1 h1 hz S1).mono fun f h' q => ⟨q.1, _, q.2.with (Stable.const.and st1) ⟨rfl, q.2.dat⟩⟩) (fun m1 h1 hz S1 => ?_) (fun m' h' Sf => ?_) he1 he2 hs'
  · obtain ⟨rfl, p⟩ := S1.dat
    rw [uu] at S1
    exact (step2 h1 hz (S1.with st1 p)).mono fun f h' q => ⟨q.1, _, q.2.with (Stable.const.and st2) ⟨rfl, q.2.dat⟩⟩
  · obtain ⟨rfl, p⟩ := Sf.dat
    exact fin h' (Sf.with st2 p)
end
end Mine
namespace Mine
/-- two matrices without a list in common -/
noncomputable def Disj (a : Addr) (ra : Nat → Addr) (ma : Nat) (b : Addr) (rb : Nat → Addr) (mb : Nat) : Prop := ∀ x, Foot a ra ma x → Foot b rb mb x → False
theorem Disj.symm {a ra ma b rb mb} (x : Disj a ra ma b rb mb) : Disj b rb mb a ra ma := fun c h1 h2 => x c h2 h1
theorem Disj.no {a ra ma b rb mb} (x : Disj a ra ma b rb mb) : ¬ Foot b rb mb a := fun q => x a (.inl rfl) q
theorem Disj.no' {a ra ma b rb mb} (x : Disj a ra ma b rb mb) : ¬ Foot a ra ma b := fun q => x b q (.inl rfl)
theorem RefRow.isList {h : Heap} {a m r} (x : RefRow h a m r) : ∃ vs, h.IsList a vs := let ⟨vs, a, _⟩ := x; ⟨vs, a⟩
theorem IntRow.isList {h : Heap} {a m r} (x : IntRow h a m r) : ∃ vs, h.IsList a vs := let ⟨vs, a, _⟩ := x; ⟨vs, a⟩
theorem Disj.set {a ra ma b rb mb r i} (x : Disj a ra ma b rb mb) (hr : ¬ Foot b rb mb r) : Disj a (fun j => if j = i then r else ra j) ma b rb mb := by
  rintro c (rfl | ⟨j, hj, rfl⟩) h2
  · exact x _ (.inl rfl) h2
  · dsimp only at h2
    split at h2
    · exact hr h2
    · exact x _ (.inr ⟨j, hj, rfl⟩) h2
structure Two (N : Nat) (a b : Addr) (ra rb : Nat → Addr) (ma na mb nb : Nat) (A B : Nat → Nat → Int) (h : Heap) : Prop where
  x : Mat N h a ra ma na A
  y : Mat N h b rb mb nb B
  dj : Disj a ra ma b rb mb
theorem Stable.two {N a b ra rb ma na mb nb A B} : Stable (fun h => Two N a b ra rb ma na mb nb A B h) := fun h h' t k => { t with x := Stable.mat _ _ _ _ _ _ h h' t.x k, y := Stable.mat _ _ _ _ _ _ h h' t.y k }
theorem Two.swap {N a b ra rb ma na mb nb A B h} (t : Two N a b ra rb ma na mb nb A B h) : Two N b a rb ra mb nb ma na B A h := ⟨t.y, t.x, t.dj.symm⟩
theorem Two.lt {N a b ra rb ma na mb nb A B h} (t : Two N a b ra rb ma na mb nb A B h) : N ≤ h.objs.size := Nat.le_trans t.x.lo (Nat.le_of_lt t.x.outer.lt)
section
variable {prog : Program} {w : World} {A : Around} {h0 hs h : Heap} {D : Addr → Prop} {env : Env} {m : Str → Option Value} {P : Heap → Prop} {fa : Nat → Addr}
/-- a new row is put into the first of two matrices -/
theorem T_putTwo {N : Nat} {a b : Addr} {ra rb : Nat → Addr} {ma na mb nb : Nat} {X Y : Nat → Nat → Int} {k : Int} {t : Tok} {i : Nat} {r : Addr} {f : Nat → Int} {h5 : Heap} {Q : Unit → Heap → Prop} (S : Ses h0 hs D env m P h)
    (T : Two N a b ra rb ma na mb nb X Y h) (hX : IntRow h r na f) (T5 : Two N a b ra rb ma na mb nb X Y h5) (hr : h5.objs.size ≤ r) (hk : k = (i : Int)) (hi : i < ma) (hsm : ma ≤ 1000) (hD : D a)
    (q : ∀ ra' h', (∀ x, Foot a ra' ma x → Foot a ra ma x ∨ h5.objs.size ≤ x) → Ses h0 hs D env m (fun h => Two N a b ra' rb ma na mb nb (setRow X i f) Y h) h' → Q () h') : Tr prog w A (setItem (.ref a) (.int k t) (.ref r)) h Q := by
  have nf : ∀ x, (Foot a ra ma x ∨ Foot b rb mb x) → x ≠ r := fun x hx => Nat.ne_of_lt (Nat.lt_of_lt_of_le (hx.elim (fun q => T5.x.foot_lt q) fun q => T5.y.foot_lt q) hr)
  refine T_putRow S T.x hX hk hi hsm hD (nf _ (.inl (.inl rfl))).symm (fun j hj _ => (nf _ (.inl (.inr ⟨j, hj, rfl⟩))).symm) (Nat.le_trans T5.lt hr) (P' := fun h => Two N a b (fun j => if j = i then r else ra j) rb ma na mb nb (setRow X i f) Y h) Stable.two
    (fun h' kb M => ⟨M, T.y.but kb T.dj.no, T.dj.set fun q => nf _ (.inr q) rfl⟩) fun h' S' => q _ h' ?_ S'
  rintro x (rfl | ⟨j, hj, rfl⟩)
  · exact .inl (.inl rfl)
  · dsimp only
    split
    · exact .inr hr
    · exact .inl (.inr ⟨j, hj, rfl⟩)
end
end Mine
namespace Mine
section
variable {prog : Program} {w : World} {A : Around} {h0 hs h : Heap} {D : Addr → Prop} {env : Env} {m : Str → Option Value} {P : Heap → Prop} {fa : Nat → Addr}
theorem rows_ok {scope : Scope} (hc : (scope.names.all fun x => scope.names.lookup x.1 == some x.2) = true) : (scope.names.all fun x => x.2 != .local || scope.names.lookup x.1 == some .local) = true := by
  refine List.all_eq_true.mpr fun z hz => ?_
  have := List.all_eq_true.mp hc z hz
  have e : scope.names.lookup z.1 = some z.2 := by simpa using this
  cases hk : z.2 <;> simp_all
/-- [list(x) for x in E], E a matrix: the general end -/
theorem compCopy {elt E : Expr} {x : Str} {px p1 p2 p3 pos : Pos} {scope : Scope} {a : Addr} {rows : Nat → Addr} {mm n : Nat} {B : Nat → Nat → Int} {Q : Addr → Addr → Heap → Prop}
    (S : Ses h0 hs D env m P h) (hh : A.handled = none) (N : Nm h0 fa) (hP : ∀ h, P h → RefRow h a mm rows ∧ ∀ i, i < mm → IntRow h (rows i) n (B i)) (hm : mm ≤ 1000) (hn : n ≤ 1000)
    (ev : ∀ (D' : Addr → Prop) (Q' : Value → Heap → Prop), Ses h0 h D' env m P h → Q' (.ref a) h → Tr prog w A (eval E env) h Q')
    (fin : ∀ acc C mC rows' h', h.objs.size ≤ acc → C = acc + 1 → Ses h0 hs D env m (fun h => P h ∧ Mat h0.objs.size h acc rows' mm n B) h' → (∀ i, i < mm → acc < rows' i) → h'.Ns C mC → Q acc C h')
    (hx : (relabel scope env).names.lookup x = some .local)
    (hxc : ∀ C, (cenvOf scope env C).cells.lookup x = none)
    (hxf : scope.names.lookup x ≠ some .free)
    (hg : (relabel scope env).names.lookup ("list" : Str) = some .globalImplicit)
    (hdb : (x == ("__debug__" : Str)) = false)
    (hf : (scope.names.all fun x => x.2 != .free || (env.cells.lookup x.1).isSome) = true)
    (hc : (scope.names.all fun x => scope.names.lookup x.1 == some x.2) = true) (hk : scope.kind = .function) :
    Tr prog w A (eval E env) h (fun y h1 => Tr prog w A (pyIter y) h1 (fun it h2 => CompGo prog w A (.Call (.Name "list" p1) [.Name x p2] [] p3) (.Name x px) E [] scope pos env it h2 Q)) := by
  have Si := S.inner
  refine ev _ _ Si ?_
  obtain ⟨vs, hl, hz, hv⟩ := (hP h S.dat).1
  refine T_iterList Si hl fun I h2 S2 hge hI hl2 => ?_
  have S2' := S2.with (S2.st.and (Stable.list a vs)) ⟨S2.dat, hl2⟩
  subst hz
  refine compRows (n := n) B S S2' (St := fun i h => h.IsListIter I a i) hI
    (fun C hC => drawList hh (.inl ⟨hx, hxc C, S2'.nw C (by have := S2'.ext.size; lia)⟩) (none_above hge))
    (hUv hxf) (fun _ q => q.2) (by rw [sizeLine_eq]; (exact Nat.le_trans (by assumption) (by decide))) (fun C i m' hi P' hC hlt hmm hu hP' X => ?_) (fun acc C mC rows' h' e1 e2 X hr hN => ?_) hf hc hk
  · obtain ⟨mi, v, hvj, rfl⟩ := hu
    rw [hv i hlt] at hvj
    obtain rfl := Option.some.inj hvj
    obtain ⟨ws, hlw, hzw, hw⟩ := (hP hi (hP' hi X.dat).1).2 i hlt
    refine T_call <| T_glo X N.list (T_cwT <| T_sp (T_loc X upd_same (T_sp0 <| T_copy X hlw (by rw [sizeLine_eq]; lia) fun r h' e X' => ?_) hx hdb)) hg
    exact ⟨r, rfl, Nat.le_of_eq e.symm, X'.with (X.st.and (Stable.intRow _ _ _)) ⟨X'.dat.1, ws, X'.dat.2, hzw, hw⟩⟩
  · exact fin acc C mC rows' h' (by have := S2'.ext.size; (simp +arith only [*])) e2 (X.with (S.st.and (Stable.mat _ _ _ _ _ _)) ⟨X.dat.1.1, X.dat.2⟩) hr hN
/-- [list(x) for x in E], E a matrix -/
theorem T_copyComp {E : Expr} {x : Str} {px p1 p2 p3 pos : Pos} {scope : Scope} {a : Addr} {rows : Nat → Addr} {mm n : Nat} {B : Nat → Nat → Int} {Q : Value → Heap → Prop}
    (S : Ses h0 hs D env m P h) (hh : A.handled = none) (N : Nm h0 fa) (hP : ∀ h, P h → RefRow h a mm rows ∧ ∀ i, i < mm → IntRow h (rows i) n (B i)) (hm : mm ≤ 1000) (hn : n ≤ 1000)
    (ev : ∀ (D' : Addr → Prop) (Q' : Value → Heap → Prop), Ses h0 h D' env m P h → Q' (.ref a) h → Tr prog w A (eval E env) h Q')
    (fin : ∀ acc rows' h', h.objs.size ≤ acc → (∀ i, i < mm → acc < rows' i) → Ses h0 hs D env m (fun h => P h ∧ Mat h0.objs.size h acc rows' mm n B) h' → Q (.ref acc) h')
    (hx : (relabel scope env).names.lookup x = some .local := by rfl)
    (hxc : ∀ C, (cenvOf scope env C).cells.lookup x = none := by intro _; rfl)
    (hxf : scope.names.lookup x ≠ some .free := by decide)
    (hg : (relabel scope env).names.lookup ("list" : Str) = some .globalImplicit := by rfl)
    (hdb : (x == ("__debug__" : Str)) = false := by decide)
    (hf : (scope.names.all fun x => x.2 != .free || (env.cells.lookup x.1).isSome) = true := by rfl)
    (hc : (scope.names.all fun x => scope.names.lookup x.1 == some x.2) = true := by rfl) (hk : scope.kind = .function := by rfl)
    (hs' : ∀ z, foldedSetIterable E env z = pure z := by intro _; rfl) :
    Tr prog w A (eval (.ListComp (.Call (.Name "list" p1) [.Name x p2] [] p3) [⟨.Name x px, E, [], 0⟩] scope pos) env) h Q := by
  refine T_compE (compCopy (elt := E) S hh N hP hm hn ev (fun acc C mC rows' h' e1 e2 X hr hN => ⟨mC, hN, fun h'' hs'' => ?_⟩) hx hxc hxf hg hdb hf hc hk) hf (rows_ok hc) hk hs'
  have hC : h.objs.size ≤ C := by lia
  exact fin acc rows' h'' e1 hr (X.sameButC hN hs'' (S.nw C (Nat.le_trans S.ext.size hC)) fun q => Nat.lt_irrefl _ (Nat.lt_of_lt_of_le (S.frame_lt q) hC))
/-- the end of a comprehension that is stored by the exchanged stores -/
theorem asComp_end {y : Str} {acc C : Addr} {mC : Str → Option Value} {h' : Heap} {P' : Heap → Prop} {Q : Flow → Heap → Prop} (S : Ses h0 hs D env m P h) (hC : h.objs.size ≤ C) (X : Ses h0 hs D env m P' h') (hN : h'.Ns C mC) (ha : Asg env D y)
    (fin : ∀ h'', Ses h0 hs D env (upd m y (.ref acc)) P' h'' → Q .next h'') :
    Tr prog w A (storeName env y (.ref acc)) h' (fun _ h5 => ∃ mC, h5.Ns C mC ∧ ∀ h', Heap.SameBut C h5 h' → Q .next h') := by
  have hCF : ¬ FrameOf env C := fun q => Nat.lt_irrefl _ (Nat.lt_of_lt_of_le (S.frame_lt q) hC)
  have keyN : ∀ h5, Ses h0 h' (fun b => D b ∧ b ≠ C) env (upd m y (.ref acc)) P' h5 → h5.Ns C mC := fun h5 X5 => hN.at' fun o e => X5.ext.get C o (.inl fun d => d.2 rfl) e
  have X' : Ses h0 h' (fun b => D b ∧ b ≠ C) env m P' h' :=
    { fr := X.fr, ext := Ext.refl _ _, nw := fun b hb => ⟨X.nw b (Nat.le_trans X.ext.size hb), fun e => Nat.lt_irrefl _ (Nat.lt_of_lt_of_le hN.lt (e ▸ hb))⟩, gnd := X.base, out := fun b hb => X.out b hb.1, st := X.st, dat := X.dat, gl := X.gl, bu := X.bu }
  refine T_st X' ?_ fun h5 X5 => ⟨mC, keyN h5 X5, fun h'' hs' => ?_⟩
  · rcases ha with ⟨a, b, c⟩ | ⟨a, c, b, d⟩
    · exact .inl ⟨a, b, c, fun e => hCF (.inl e.symm)⟩
    · exact .inr ⟨a, c, b, d, fun e => hCF (.inr ⟨y, e ▸ b⟩)⟩
  · have XX : Ses h0 hs D env (upd m y (.ref acc)) P' h5 :=
      { fr := X5.fr, ext := X.ext.trans (X5.ext.mono fun b d _ => d.1), nw := X.nw, gnd := X.gnd, out := X.out, st := X5.st, dat := X5.dat, gl := X.gl, bu := X.bu }
    exact fin h'' (XX.sameButC (keyN h5 X5) hs' (S.nw C (Nat.le_trans S.ext.size hC)) hCF)
/-- y = [list(x) for x in E], E a matrix -/
theorem T_copyCompA {E : Expr} {x y : Str} {px py p1 p2 p3 pos spos : Pos} {scope : Scope} {a : Addr} {rows : Nat → Addr} {mm n : Nat} {B : Nat → Nat → Int} {Q : Flow → Heap → Prop}
    (S : Ses h0 hs D env m P h) (hh : A.handled = none) (N : Nm h0 fa) (hP : ∀ h, P h → RefRow h a mm rows ∧ ∀ i, i < mm → IntRow h (rows i) n (B i)) (hm : mm ≤ 1000) (hn : n ≤ 1000)
    (ev : ∀ (D' : Addr → Prop) (Q' : Value → Heap → Prop), Ses h0 h D' env m P h → Q' (.ref a) h → Tr prog w A (eval E env) h Q')
    (ha : Asg env D y)
    (fin : ∀ acc rows' h', h.objs.size ≤ acc → (∀ i, i < mm → acc < rows' i) → Ses h0 hs D env (upd m y (.ref acc)) (fun h => P h ∧ Mat h0.objs.size h acc rows' mm n B) h' → Q .next h')
    (hsw : swapsWith (.ListComp (.Call (.Name "list" p1) [.Name x p2] [] p3) [⟨.Name x px, E, [], 0⟩] scope pos) (some (.Name y py)) spos.line env = pure true := by rfl)
    (hx : (relabel scope env).names.lookup x = some .local := by rfl)
    (hxc : ∀ C, (cenvOf scope env C).cells.lookup x = none := by intro _; rfl)
    (hxf : scope.names.lookup x ≠ some .free := by decide)
    (hg : (relabel scope env).names.lookup ("list" : Str) = some .globalImplicit := by rfl)
    (hdb : (x == ("__debug__" : Str)) = false := by decide)
    (hf : (scope.names.all fun x => x.2 != .free || (env.cells.lookup x.1).isSome) = true := by rfl)
    (hc : (scope.names.all fun x => scope.names.lookup x.1 == some x.2) = true := by rfl) (hk : scope.kind = .function := by rfl)
    (hs' : ∀ z, foldedSetIterable E env z = pure z := by intro _; rfl) :
    Tr prog w A (exec (.Assign [.Name y py] (.ListComp (.Call (.Name "list" p1) [.Name x p2] [] p3) [⟨.Name x px, E, [], 0⟩] scope pos) spos) env) h Q := by
  refine T_asComp (compCopy (elt := E) S hh N hP hm hn ev (fun acc C mC rows' h' e1 e2 X hr hN => asComp_end S (by lia) X hN ha fun h'' Z => fin acc rows' h'' e1 hr Z) hx hxc hxf hg hdb hf hc hk) hsw hf (rows_ok hc) hk hs'
end
end Mine
namespace Mine
section
variable {prog : Program} {w : World} {A : Around} {h0 hs h : Heap} {D : Addr → Prop} {env : Env} {m : Str → Option Value} {P : Heap → Prop}
theorem T_none {k : Nat} {pos : Pos} {Q : Value → Heap → Prop} (q : Q .none h) : Tr prog w A (eval (.Constant .none k pos) env) h Q := fun s e => wpAny_Constant_none ⟨Same.refl s, e ▸ q⟩
theorem T_bool {b : Bool} {k : Nat} {pos : Pos} {Q : Value → Heap → Prop} (q : Q (.bool b) h) : Tr prog w A (eval (.Constant (.bool b) k pos) env) h Q := fun s e => wpAny_Constant_bool ⟨Same.refl s, e ▸ q⟩
theorem T_isNoneN {Q : Value → Heap → Prop} (q : Q (.bool true) h) : Tr prog w A (compareOp .Is .none .none) h Q := fun s e => wpAny_is_self rfl ⟨Same.refl s, e ▸ q⟩
theorem T_isNoneR {a : Addr} {Q : Value → Heap → Prop} (q : Q (.bool false) h) : Tr prog w A (compareOp .Is (.ref a) .none) h Q := fun s e => wpAny_is_other rfl (by intro x; cases x) ⟨Same.refl s, e ▸ q⟩
theorem T_isNotNoneN {Q : Value → Heap → Prop} (q : Q (.bool false) h) : Tr prog w A (compareOp .IsNot .none .none) h Q := fun s e => wpAny_isNot_self rfl ⟨Same.refl s, e ▸ q⟩
theorem T_isNotNoneI {a : Int} {t : Tok} {Q : Value → Heap → Prop} (q : Q (.bool true) h) : Tr prog w A (compareOp .IsNot (.int a t) .none) h Q := fun s e => wpAny_isNot_other rfl (by intro x; cases x) ⟨Same.refl s, e ▸ q⟩
/-- x and y, as a test -/
theorem T_tand {x y : Expr} {pos : Pos} {whole : Sem Value} {Q : Bool → Heap → Prop}
    (q : Tr prog w A (isTrue x env (eval x env)) h (fun b h1 => if b = true then Tr prog w A (isTrue y env (eval y env)) h1 Q else Q false h1)) : Tr prog w A (isTrue (.BoolOp .And [x, y] pos) env whole) h Q := fun s e =>
  isTrue_and (wpAny_mono (q s e) (fun b s1 q1 => by
    cases b with
    | false => exact q1
    | true =>
      simp only [if_true] at q1 ⊢
      refine isTrue_and (wpAny_mono (q1.2 s1 rfl) (fun c s2 q2 => ?_) fun _ _ f => f)
      cases c with
      | false => exact ⟨q1.1.trans q2.1, q2.2⟩
      | true => exact isTrue_and_nil ⟨q1.1.trans q2.1, q2.2⟩) fun _ _ f => f)
theorem T_tor {x y : Expr} {pos : Pos} {whole : Sem Value} {Q : Bool → Heap → Prop}
    (q : Tr prog w A (isTrue x env (eval x env)) h (fun b h1 => if b = true then Q true h1 else Tr prog w A (isTrue y env (eval y env)) h1 Q)) : Tr prog w A (isTrue (.BoolOp .Or [x, y] pos) env whole) h Q := fun s e =>
  isTrue_or (wpAny_mono (q s e) (fun b s1 q1 => by
    cases b with
    | true => exact q1
    | false =>
      simp only [Bool.false_eq_true, if_false] at q1 ⊢
      refine isTrue_or (wpAny_mono (q1.2 s1 rfl) (fun c s2 q2 => ?_) fun _ _ f => f)
      cases c with
      | true => exact ⟨q1.1.trans q2.1, q2.2⟩
      | false => exact isTrue_or_nil ⟨q1.1.trans q2.1, q2.2⟩) fun _ _ f => f)
/-- x and y, as a value -/
theorem T_and {x y : Expr} {pos : Pos} {Q : Value → Heap → Prop}
    (q : Tr prog w A (eval x env) h (fun v h1 => Tr prog w A (truthy v) h1 (fun b h2 => if b = true then Tr prog w A (eval y env) h2 Q else Q v h2))) : Tr prog w A (eval (.BoolOp .And [x, y] pos) env) h Q := fun s e =>
  BoolOp_and (wpAny_mono (q s e) (fun v s1 q1 => wpAny_mono (q1.2 s1 rfl) (fun b s2 q2 => by
    cases b with
    | false => exact ⟨q1.1.trans q2.1, q2.2⟩
    | true =>
      have q3 := q2.2
      simp only [if_true] at q3 ⊢
      exact BoolOp_one (wpAny_mono (q3 s2 rfl) (fun _ _ r => ⟨(q1.1.trans q2.1).trans r.1, r.2⟩) fun _ _ f => f)) fun _ _ f => f) fun _ _ f => f)
/-- a[i] as a target -/
theorem T_toSub {o i : Expr} {pos : Pos} {v : Value} {Q : Unit → Heap → Prop}
    (q : Tr prog w A (eval o env) h (fun ov h1 => Tr prog w A (eval i env) h1 (fun iv h2 => Tr prog w A (setItem ov iv v) h2 Q))) : Tr prog w A (assign (.Subscript o i pos) env v) h Q := fun s e => by
  rw [assign_Subscript]
  refine wpAny_bind (wpAny_holding (wpAny_mono (q s e) (fun ov s1 q1 => ?_) fun _ _ f => f))
  refine wpAny_bind (wpAny_holding (wpAny_mono (q1.2 s1 rfl) (fun iv s2 q2 => ?_) fun _ _ f => f))
  refine wpAny_bind (wpAny_standAt ?_)
  refine wpAny_bind (wpAny_holding (wpAny_mono (q2.2 s2 rfl) (fun _ s3 q3 => ?_) fun _ _ f => f))
  exact wpAny_release ⟨((q1.1.trans q2.1).trans q3.1), q3.2⟩
theorem T_min {a b : Int} {t u : Tok} {Q : Value → Heap → Prop} (hh : A.handled = none) (S : Ses h0 hs D env m P h)
    (q : ∀ t h', Ses h0 hs D env m P h' → (∀ b o, h.get? b = some o → h'.get? b = some o) → Q (.int (min a b) t) h') : Tr prog w A (call (.builtin "min") [.int a t, .int b u]) h Q := by
  refine (Tr.size (Q := fun v h' => (∃ t, v = .int (min a b) t) ∧ ∀ b o, h.get? b = some o → h'.get? b = some o) fun s e => ?_).mono fun v h' q' => ?_
  · subst e
    refine min_two_ints hh fun h' tk k => ⟨⟨rfl, rfl, rfl⟩, ?_, k⟩
    split
    · exact ⟨u, by rw [Int.min_def, if_neg (by lia)]⟩
    · exact ⟨t, by rw [Int.min_def, if_pos (by lia)]⟩
  · obtain ⟨hz, ⟨t, rfl⟩, k⟩ := q'
    exact q t h' (S.on S.st (S.st _ _ S.dat (KD.of_all k)) hz k) k
end
end Mine
namespace Mine
theorem Mat.setInt {N : Nat} {h h' : Heap} {a : Addr} {rows : Nat → Addr} {m n i : Nat} {B : Nat → Nat → Int} {f : Nat → Int} (M : Mat N h a rows m n B) (hi : i < m) (k : ∀ b, b ≠ rows i → h'.get? b = h.get? b) (X : IntRow h' (rows i) n f) : Mat N h' a rows m n (setRow B i f) where
  outer := M.outer.but k fun e => M.ne i hi e.symm
  row := fun j hj => by
    by_cases e : j = i
    · subst e; unfold setRow; simpa using X
    · have := (M.row j hj).but k fun q => e (M.inj j i hj hi q)
      unfold setRow; simpa [e] using this
  ne := M.ne
  inj := M.inj
  lo := M.lo
  lor := M.lor
/-- two of a matrix' rows exchanged -/
theorem Mat.swap {N : Nat} {h h' : Heap} {a : Addr} {rows : Nat → Addr} {m n i j : Nat} {B : Nat → Nat → Int} (M : Mat N h a rows m n B) (hi : i < m) (hj : j < m) (k : ∀ b, b ≠ a → h'.get? b = h.get? b)
    (X : RefRow h' a m (fun r => rows (swp i j r))) : Mat N h' a (fun r => rows (swp i j r)) m n (swR B i j) where
  outer := X
  row := fun r hr => (M.row _ (swp_lt hi hj hr)).but k (M.ne _ (swp_lt hi hj hr))
  ne := fun r hr => M.ne _ (swp_lt hi hj hr)
  inj := fun r r' hr hr' e => swp_inj (M.inj _ _ (swp_lt hi hj hr) (swp_lt hi hj hr') e)
  lo := M.lo
  lor := fun r hr => M.lor _ (swp_lt hi hj hr)
/-- three matrices without a list in common -/
structure Three (N : Nat) (aS aU aV : Addr) (rS rU rV : Nat → Addr) (m n : Nat) (S U V : Nat → Nat → Int) (h : Heap) : Prop where
  s : Mat N h aS rS m n S
  u : Mat N h aU rU m m U
  v : Mat N h aV rV n n V
  su : Disj aS rS m aU rU m
  sv : Disj aS rS m aV rV n
  uv : Disj aU rU m aV rV n
theorem Stable.three {N aS aU aV rS rU rV m n S U V} : Stable (fun h => Three N aS aU aV rS rU rV m n S U V h) := fun h h' t k =>
  { t with s := Stable.mat _ _ _ _ _ _ h h' t.s k, u := Stable.mat _ _ _ _ _ _ h h' t.u k, v := Stable.mat _ _ _ _ _ _ h h' t.v k }
noncomputable def Foot3 (aS aU aV : Addr) (rS rU rV : Nat → Addr) (m n : Nat) (b : Addr) : Prop := Foot aS rS m b ∨ Foot aU rU m b ∨ Foot aV rV n b
noncomputable def Foot3Ok (h : Heap) (aS aU aV : Addr) (rS rU rV : Nat → Addr) (m n : Nat) (rS' rU' rV' : Nat → Addr) : Prop := ∀ x, Foot3 aS aU aV rS' rU' rV' m n x → Foot3 aS aU aV rS rU rV m n x ∨ h.objs.size ≤ x
theorem Three.lo {N aS aU aV rS rU rV m n S U V h b} (t : Three N aS aU aV rS rU rV m n S U V h) (hb : Foot3 aS aU aV rS rU rV m n b) : N ≤ b := by
  rcases hb with (rfl | ⟨i, hi, rfl⟩) | (rfl | ⟨i, hi, rfl⟩) | (rfl | ⟨i, hi, rfl⟩)
  · exact t.s.lo
  · exact t.s.lor i hi
  · exact t.u.lo
  · exact t.u.lor i hi
  · exact t.v.lo
  · exact t.v.lor i hi
theorem Mat.isList {N h a rows m n B b} (M : Mat N h a rows m n B) (hb : Foot a rows m b) : ∃ vs, h.IsList b vs := by
  rcases hb with rfl | ⟨i, hi, rfl⟩
  · exact M.outer.isList
  · exact (M.row i hi).isList
theorem Three.isList {N aS aU aV rS rU rV m n S U V h b} (t : Three N aS aU aV rS rU rV m n S U V h) (hb : Foot3 aS aU aV rS rU rV m n b) : ∃ vs, h.IsList b vs := by
  rcases hb with q | q | q
  · exact t.s.isList q
  · exact t.u.isList q
  · exact t.v.isList q
section
variable {prog : Program} {w : World} {A : Around} {h0 hs h : Heap} {D : Addr → Prop} {env : Env} {m : Str → Option Value} {P : Heap → Prop}
theorem T_putCell {N : Nat} {a : Addr} {rows : Nat → Addr} {mm n i : Nat} {B : Nat → Nat → Int} {k v : Int} {t u : Tok} {j : Nat} {Q : Unit → Heap → Prop} (S : Ses h0 hs D env m P h) (M : Mat N h a rows mm n B) (hi : i < mm) (hk : k = (j : Int)) (hj : j < n) (hsm : n ≤ 1000) (hD : D (rows i))
    {P' : Heap → Prop} (st : Stable P') (p : ∀ h', (∀ b, b ≠ rows i → h'.get? b = h.get? b) → Mat N h' a rows mm n (setRow B i (fun c => if c = j then v else B i c)) → P' h')
    (q : ∀ h', Ses h0 hs D env m P' h' → Q () h') : Tr prog w A (setItem (.ref (rows i)) (.int k t) (.int v u)) h Q :=
  T_putInt S (M.row i hi) hk hj hsm hD st (fun h' kb X => p h' kb (M.setInt hi kb X)) q
/-- a[i], a[j] = a[j], a[i], the two stores -/
theorem T_swapRows {N : Nat} {a : Addr} {rows : Nat → Addr} {mm n i j : Nat} {B : Nat → Nat → Int} {ki kj : Int} {ti tj : Tok} {e1 e2 e3 e4 : Expr} {p1 p2 : Pos} {Q : Unit → Heap → Prop} (S : Ses h0 hs D env m P h) (M : Mat N h a rows mm n B)
    (hki : ki = (i : Int)) (hkj : kj = (j : Int)) (hi : i < mm) (hj : j < mm) (hsm : mm ≤ 1000) (hD : D a)
    (ev1 : ∀ (P' : Heap → Prop) (h : Heap) (Q' : Value → Heap → Prop), Ses h0 hs D env m P' h → Q' (.ref a) h → Tr prog w A (eval e1 env) h Q')
    (ev2 : ∀ (P' : Heap → Prop) (h : Heap) (Q' : Value → Heap → Prop), Ses h0 hs D env m P' h → Q' (.int ki ti) h → Tr prog w A (eval e2 env) h Q')
    (ev3 : ∀ (P' : Heap → Prop) (h : Heap) (Q' : Value → Heap → Prop), Ses h0 hs D env m P' h → Q' (.ref a) h → Tr prog w A (eval e3 env) h Q')
    (ev4 : ∀ (P' : Heap → Prop) (h : Heap) (Q' : Value → Heap → Prop), Ses h0 hs D env m P' h → Q' (.int kj tj) h → Tr prog w A (eval e4 env) h Q')
    {E : Heap → Prop} (st : Stable E) (kE : ∀ h h' : Heap, E h → (∀ b, b ≠ a → h'.get? b = h.get? b) → E h') (hE : E h)
    (q : ∀ h', Ses h0 hs D env m (fun h => Mat N h a (fun r => rows (swp i j r)) mm n (swR B i j) ∧ E h) h' → Q () h') :
    Tr prog w A (assignInOrder [assign (.Subscript e1 e2 p1) env, assign (.Subscript e3 e4 p2) env] [.ref (rows j), .ref (rows i)]) h Q := by
  subst hki hkj
  obtain ⟨vs, hl, hz, hv⟩ := id M.outer
  refine T_ao <| T_toSub <| ev1 _ _ _ S <| ev2 _ _ _ S <| T_setItem S hl hD (by exact Int.natCast_nonneg _) (by lia) (by lia)
    (P' := fun h' => h'.IsList a (vs.setIfInBounds i (.ref (rows j))) ∧ (∀ i, i < mm → IntRow h' (rows i) n (B i)) ∧ E h') ((Stable.list _ _).and ((Stable.all fun _ => Stable.imp (Stable.intRow _ _ _)).and st))
    (fun h' hl' kb => ⟨hl', fun r hr => (M.row r hr).but kb (M.ne r hr), kE _ _ hE kb⟩) fun h2 S2 => ?_
  obtain ⟨hl2, hr2, hE2⟩ := S2.dat
  refine T_ao <| T_toSub <| ev3 _ _ _ S2 <| ev4 _ _ _ S2 <| T_setItem S2 hl2 hD (by exact Int.natCast_nonneg _) (by lia) (by rw [Array.size_setIfInBounds]; lia)
    (P' := fun h => Mat N h a (fun r => rows (swp i j r)) mm n (swR B i j) ∧ E h) ((Stable.mat _ _ _ _ _ _).and st) (fun h' hl' kb => ⟨?_, kE _ _ hE2 kb⟩) fun h3 S3 => T_ao0 (q h3 S3)
  refine { outer := ⟨_, hl', by simp [hz], fun r hr => ?_⟩, row := fun r hr => (hr2 _ (swp_lt hi hj hr)).but kb (M.ne _ (swp_lt hi hj hr)), ne := fun r hr => M.ne _ (swp_lt hi hj hr),
           inj := fun r r' hr hr' e => swp_inj (M.inj _ _ (swp_lt hi hj hr) (swp_lt hi hj hr') e), lo := M.lo, lor := fun r hr => M.lor _ (swp_lt hi hj hr) }
  simp only [Int.toNat_natCast]
  rw [Array.getElem?_setIfInBounds]
  by_cases e1 : j = r
  · subst e1
    rw [if_pos rfl, if_pos (by simp; (simp +arith only [*])), swp_right]
  · rw [if_neg e1, Array.getElem?_setIfInBounds]
    by_cases e2 : i = r
    · subst e2
      rw [if_pos rfl, if_pos (by simp +arith only [*]), swp_left]
    · rw [if_neg e2, swp_ne (fun q => e2 q.symm) (fun q => e1 q.symm)]
      exact hv r hr
end
end Mine
namespace Mine
theorem Foot3Ok.refl {h aS aU aV rS rU rV m n} : Foot3Ok h aS aU aV rS rU rV m n rS rU rV := fun x q => .inl q
theorem Foot3Ok.trans {h h' aS aU aV rS rU rV m n rS' rU' rV' rS'' rU'' rV''} (x : Foot3Ok h aS aU aV rS rU rV m n rS' rU' rV') (hz : h.objs.size ≤ h'.objs.size)
    (y : Foot3Ok h' aS aU aV rS' rU' rV' m n rS'' rU'' rV'') : Foot3Ok h aS aU aV rS rU rV m n rS'' rU'' rV'' := fun b hb => (y b hb).elim (x b) fun q => .inr (Nat.le_trans hz q)
theorem Foot3Ok.old {h h' aS aU aV rS rU rV m n rS' rU' rV'} (x : Foot3Ok h' aS aU aV rS rU rV m n rS' rU' rV') (hz : h.objs.size ≤ h'.objs.size) : Foot3Ok h aS aU aV rS rU rV m n rS' rU' rV' := fun b hb => (x b hb).imp id (Nat.le_trans hz)
theorem Three.gsz {N aS aU aV rS rU rV m n S U V h} (t : Three N aS aU aV rS rU rV m n S U V h) : N ≤ h.objs.size := Nat.le_trans t.s.lo (Nat.le_of_lt t.s.outer.lt)
theorem Three.foot_lt {N aS aU aV rS rU rV m n S U V h b} (t : Three N aS aU aV rS rU rV m n S U V h) (hb : Foot3 aS aU aV rS rU rV m n b) : b < h.objs.size := by
  rcases hb with q | q | q
  · exact t.s.foot_lt q
  · exact t.u.foot_lt q
  · exact t.v.foot_lt q
section
variable {prog : Program} {w : World} {A : Around} {h0 hs h : Heap} {D : Addr → Prop} {env : Env} {m : Str → Option Value} {P : Heap → Prop}
/-- a new row is put into s -/
theorem T_putS {N : Nat} {aS aU aV : Addr} {rS rU rV : Nat → Addr} {mm n : Nat} {X U V : Nat → Nat → Int} {k : Int} {t : Tok} {i : Nat} {r : Addr} {f : Nat → Int} {h5 : Heap} {Q : Unit → Heap → Prop} (S : Ses h0 hs D env m P h)
    (T : Three N aS aU aV rS rU rV mm n X U V h) (hX : IntRow h r n f) (T5 : Three N aS aU aV rS rU rV mm n X U V h5) (hr : h5.objs.size ≤ r) (hk : k = (i : Int)) (hi : i < mm) (hsm : mm ≤ 1000) (hD : D aS)
    (q : ∀ rS' h', Foot3Ok h5 aS aU aV rS rU rV mm n rS' rU rV → Ses h0 hs D env m (fun h => Three N aS aU aV rS' rU rV mm n (setRow X i f) U V h) h' → Q () h') : Tr prog w A (setItem (.ref aS) (.int k t) (.ref r)) h Q := by
  have nf : ∀ x, Foot3 aS aU aV rS rU rV mm n x → x ≠ r := fun x hx => Nat.ne_of_lt (Nat.lt_of_lt_of_le (T5.foot_lt hx) hr)
  refine T_putRow S T.s hX hk hi hsm hD (nf _ (.inl (.inl rfl))).symm (fun j hj _ => (nf _ (.inl (.inr ⟨j, hj, rfl⟩))).symm) (Nat.le_trans T5.gsz hr) (P' := fun h => Three N aS aU aV (fun j => if j = i then r else rS j) rU rV mm n (setRow X i f) U V h) Stable.three
    (fun h' kb M => { s := M, u := T.u.but kb T.su.no, v := T.v.but kb T.sv.no, su := T.su.set fun q => nf _ (.inr (.inl q)) rfl, sv := T.sv.set fun q => nf _ (.inr (.inr q)) rfl, uv := T.uv }) fun h' S' => q _ h' ?_ S'
  rintro x ((rfl | ⟨j, hj, rfl⟩) | q)
  · exact .inl (.inl (.inl rfl))
  · dsimp only
    split
    · exact .inr hr
    · exact .inl (.inl (.inr ⟨j, hj, rfl⟩))
  · exact .inl (.inr q)
/-- a new row is put into u -/
theorem T_putU {N : Nat} {aS aU aV : Addr} {rS rU rV : Nat → Addr} {mm n : Nat} {X U V : Nat → Nat → Int} {k : Int} {t : Tok} {i : Nat} {r : Addr} {f : Nat → Int} {h5 : Heap} {Q : Unit → Heap → Prop} (S : Ses h0 hs D env m P h)
    (T : Three N aS aU aV rS rU rV mm n X U V h) (hX : IntRow h r mm f) (T5 : Three N aS aU aV rS rU rV mm n X U V h5) (hr : h5.objs.size ≤ r) (hk : k = (i : Int)) (hi : i < mm) (hsm : mm ≤ 1000) (hD : D aU)
    (q : ∀ rU' h', Foot3Ok h5 aS aU aV rS rU rV mm n rS rU' rV → Ses h0 hs D env m (fun h => Three N aS aU aV rS rU' rV mm n X (setRow U i f) V h) h' → Q () h') : Tr prog w A (setItem (.ref aU) (.int k t) (.ref r)) h Q := by
  have nf : ∀ x, Foot3 aS aU aV rS rU rV mm n x → x ≠ r := fun x hx => Nat.ne_of_lt (Nat.lt_of_lt_of_le (T5.foot_lt hx) hr)
  refine T_putRow S T.u hX hk hi hsm hD (nf _ (.inr (.inl (.inl rfl)))).symm (fun j hj _ => (nf _ (.inr (.inl (.inr ⟨j, hj, rfl⟩)))).symm) (Nat.le_trans T5.gsz hr) (P' := fun h => Three N aS aU aV rS (fun j => if j = i then r else rU j) rV mm n X (setRow U i f) V h) Stable.three
    (fun h' kb M => { s := T.s.but kb T.su.no', u := M, v := T.v.but kb T.uv.no, su := (T.su.symm.set fun q => nf _ (.inl q) rfl).symm, sv := T.sv, uv := T.uv.set fun q => nf _ (.inr (.inr q)) rfl }) fun h' S' => q _ h' ?_ S'
  rintro x (q | (rfl | ⟨j, hj, rfl⟩) | q)
  · exact .inl (.inl q)
  · exact .inl (.inr (.inl (.inl rfl)))
  · dsimp only
    split
    · exact .inr hr
    · exact .inl (.inr (.inl (.inr ⟨j, hj, rfl⟩)))
  · exact .inl (.inr (.inr q))
end
end Mine
namespace Mine
/-- values that are the ints l -/
noncomputable def Ints : List Value → List Int → Prop
  | [], [] => True
  | v :: vs, x :: xs => (∃ t, v = .int x t) ∧ Ints vs xs
  | _, _ => False
noncomputable def intsP (l : List Int) : PyData := .list (l.map PyData.int)
noncomputable def matP (L : List (List Int)) : PyData := .list (L.map intsP)
theorem Ints.reads {h : Heap} : ∀ {vs : List Value} {l : List Int}, Ints vs l → ReadsAll h vs (l.map PyData.int) []
  | [], [], _ => .nil
  | v :: vs, x :: xs, ⟨⟨t, e⟩, r⟩ => by subst e; exact readsAll_cons_val (.int x t) (Ints.reads r)
  | [], _ :: _, x => x.elim
  | _ :: _, [], x => x.elim
theorem Ints.len : ∀ {vs : List Value} {l : List Int}, Ints vs l → vs.length = l.length
  | [], [], _ => rfl
  | v :: vs, x :: xs, ⟨_, r⟩ => by simp [Ints.len r]
  | [], _ :: _, x => x.elim
  | _ :: _, [], x => x.elim
theorem Ints.snoc {x : Int} {t : Tok} : ∀ {vs : List Value} {l : List Int}, Ints vs l → Ints (vs ++ [.int x t]) (l ++ [x])
  | [], [], _ => ⟨⟨t, rfl⟩, trivial⟩
  | v :: vs, y :: ys, ⟨e, r⟩ => ⟨e, Ints.snoc r⟩
  | [], _ :: _, x => x.elim
  | _ :: _, [], x => x.elim
theorem Ints.of : ∀ {vs : List Value} {n : Nat} {f : Nat → Int}, vs.length = n → (∀ j, j < n → ∃ t, vs[j]? = some (.int (f j) t)) → Ints vs ((List.range n).map f)
  | [], 0, f, _, _ => trivial
  | v :: vs, n + 1, f, hl, h => by
    rw [List.range_succ_eq_map, List.map_cons, List.map_map]
    obtain ⟨t, e⟩ := h 0 (Nat.succ_pos n)
    refine ⟨⟨t, by simpa using e⟩, Ints.of (by simpa using hl) fun j hj => ?_⟩
    obtain ⟨t, e⟩ := h (j + 1) (by lia)
    exact ⟨t, by simpa using e⟩
  | [], n + 1, f, hl, _ => by simp at hl
  | v :: vs, 0, f, hl, _ => by simp at hl
/-- a list of the ints l stands at r -/
noncomputable def IntL (h : Heap) (r : Addr) (l : List Int) : Prop := ∃ vs : Array Value, h.IsList r vs ∧ Ints vs.toList l
theorem Stable.intL (r : Addr) (l : List Int) : Stable (fun h => IntL h r l) := fun h h' ⟨vs, hl, x⟩ k => ⟨vs, Stable.list r vs h h' hl k, x⟩
theorem IntRow.intL {h : Heap} {r : Addr} {n : Nat} {f : Nat → Int} (x : IntRow h r n f) : IntL h r ((List.range n).map f) := by
  obtain ⟨vs, hl, hz, hv⟩ := x
  exact ⟨vs, hl, Ints.of (by simpa using hz) fun j hj => by simpa using hv j hj⟩
theorem IntL.reads {h : Heap} {r : Addr} {l : List Int} (x : IntL h r l) : ∃ as, Reads h (.ref r) (intsP l) as := by
  obtain ⟨vs, ⟨o, ho, hc, n, hd⟩, hi⟩ := x
  exact ⟨_, reads_list_at ho hc hd hi.reads⟩
noncomputable def matL (m n : Nat) (B : Nat → Nat → Int) : List (List Int) := (List.range m).map fun i => (List.range n).map (B i)
theorem refs_reads {h : Heap} {n : Nat} : ∀ {vs : List Value} {m : Nat} {rows : Nat → Addr} {B : Nat → Nat → Int}, vs.length = m → (∀ i, i < m → vs[i]? = some (.ref (rows i))) → (∀ i, i < m → IntRow h (rows i) n (B i)) → ∃ as, ReadsAll h vs ((matL m n B).map intsP) as
  | [], 0, rows, B, _, _, _ => ⟨_, .nil⟩
  | v :: vs, m + 1, rows, B, hl, h1, h2 => by
    obtain ⟨as, ra⟩ := (h2 0 (Nat.succ_pos m)).intL.reads
    obtain ⟨bs, rb⟩ := refs_reads (vs := vs) (m := m) (rows := fun i => rows (i + 1)) (B := fun i => B (i + 1)) (by simpa using hl) (fun i hi => by simpa using h1 (i + 1) (by lia)) fun i hi => h2 (i + 1) (by lia)
    have e : v = .ref (rows 0) := by simpa using h1 0 (Nat.succ_pos m)
    subst e
    unfold matL at rb ⊢
    rw [List.range_succ_eq_map, List.map_cons, List.map_map, List.map_cons]
    exact ⟨_, .cons ra rb⟩
  | [], m + 1, rows, B, hl, _, _ => by simp at hl
  | v :: vs, 0, rows, B, hl, _, _ => by simp at hl
theorem mat_reads {h : Heap} {a : Addr} {m n : Nat} {rows : Nat → Addr} {B : Nat → Nat → Int} (X : RefRow h a m rows) (Y : ∀ i, i < m → IntRow h (rows i) n (B i)) : ∃ as, Reads h (.ref a) (matP (matL m n B)) as := by
  obtain ⟨vs, ⟨o, ho, hc, k, hd⟩, hz, hv⟩ := X
  obtain ⟨as, ra⟩ := refs_reads (vs := vs.toList) (by simpa using hz) (fun i hi => by simpa using hv i hi) Y
  exact ⟨_, reads_list_at ho hc hd ra⟩
theorem lay_ints (l : List Int) : PyData.canLayAll0 (l.map PyData.int) = true ∧ PyData.depthAll (l.map PyData.int) ≤ 1 := by
  induction l with
  | nil => simp [PyData.canLayAll0, PyData.depthAll]
  | cons x xs ih =>
    have h2 := ih.2
    simp only [List.map_cons, PyData.canLayAll0, PyData.depthAll, PyData.canLay0, PyData.depth, ih.1, Bool.and_self, true_and]
    assumption
theorem lay_intsP (l : List Int) : (intsP l).canLay0 = true ∧ (intsP l).depth ≤ 2 := by
  have := lay_ints l
  unfold intsP
  simp only [PyData.canLay0, PyData.depth, this.1, true_and]; (simp +arith only [*])
theorem lay_mats (L : List (List Int)) : PyData.canLayAll0 (L.map intsP) = true ∧ PyData.depthAll (L.map intsP) ≤ 2 := by
  induction L with
  | nil => simp [PyData.canLayAll0, PyData.depthAll]
  | cons x xs ih =>
    have h2 := ih.2
    have h3 := lay_intsP x
    simp only [List.map_cons, PyData.canLayAll0, PyData.depthAll, ih.1, h3.1, Bool.and_self, true_and]
    lia
theorem shaped_ints (l : List Int) : SeqAt.shaped (intsP l) = true := by
  have h := lay_intsP l
  unfold SeqAt.shaped; rw [h.1, Bool.true_and]; exact decide_eq_true (Nat.le_trans h.2 (by decide))
theorem shaped_mat (L : List (List Int)) : SeqAt.shaped (matP L) = true := by
  have h := lay_mats L
  unfold SeqAt.shaped matP
  simp only [PyData.canLay0, PyData.depth, h.1, Bool.true_and]
  exact decide_eq_true (by lia)
theorem eqv_ints : ∀ (a b : List Int), PyData.eqvAll (a.map PyData.int) (b.map PyData.int) = true ↔ a = b
  | [], [] => by simp [PyData.eqvAll]
  | [], _ :: _ => by simp [PyData.eqvAll]
  | _ :: _, [] => by simp [PyData.eqvAll]
  | x :: xs, y :: ys => by
    have := eqv_ints xs ys
    simp only [List.map_cons, PyData.eqvAll, Bool.and_eq_true, this, List.cons.injEq, PyData.eqv]
    simp
theorem eqv_intsP (a b : List Int) : PyData.eqv (intsP a) (intsP b) = true ↔ a = b := by unfold intsP; rw [PyData.eqv]; exact eqv_ints a b
theorem eqv_mats : ∀ (a b : List (List Int)), PyData.eqvAll (a.map intsP) (b.map intsP) = true ↔ a = b
  | [], [] => by simp [PyData.eqvAll]
  | [], _ :: _ => by simp [PyData.eqvAll]
  | _ :: _, [] => by simp [PyData.eqvAll]
  | x :: xs, y :: ys => by
    have := eqv_mats xs ys
    simp only [List.map_cons, PyData.eqvAll, Bool.and_eq_true, this, List.cons.injEq, eqv_intsP]
theorem eqv_matP (a b : List (List Int)) : PyData.eqv (matP a) (matP b) = true ↔ a = b := by unfold matP; rw [PyData.eqv]; exact eqv_mats a b
section
variable {prog : Program} {w : World} {A : Around} {h0 hs h : Heap} {D : Addr → Prop} {env : Env} {m : Str → Option Value} {P : Heap → Prop}
theorem Rm.room {k : Nat} (R : Rm A k) : A.units + 64 < cLine := by have := R.units; have : cLine = 9900 := rfl; lia
theorem T_neI {k : Nat} {a b : Addr} {x y : List Int} {Q : Value → Heap → Prop} (R : Rm A k) (X : IntL h a x) (Y : IntL h b y) (q : Q (.bool (decide (x ≠ y))) h) : Tr prog w A (compareOp .NotEq (.ref a) (.ref b)) h Q := fun s e => by
  subst e
  obtain ⟨_, rx⟩ := X.reads
  obtain ⟨_, ry⟩ := Y.reads
  refine ne_dataH rx ry (shaped_ints _) (shaped_ints _) R.room ⟨Same.refl s, ?_⟩
  have : (!PyData.eqv (intsP x) (intsP y)) = decide (x ≠ y) := by
    have := eqv_intsP x y
    by_cases e : x = y
    · rw [this.mpr e]; simp [e]
    · rw [Bool.eq_false_iff.mpr fun q => e (this.mp q)]; simp [e]
  rw [this]; exact q
theorem T_eqI {k : Nat} {a b : Addr} {x y : List Int} {Q : Value → Heap → Prop} (R : Rm A k) (X : IntL h a x) (Y : IntL h b y) (q : Q (.bool (decide (x = y))) h) : Tr prog w A (compareOp .Eq (.ref a) (.ref b)) h Q := fun s e => by
  subst e
  obtain ⟨_, rx⟩ := X.reads
  obtain ⟨_, ry⟩ := Y.reads
  refine eq_dataH rx ry (shaped_ints _) (shaped_ints _) R.room ⟨Same.refl s, ?_⟩
  have : PyData.eqv (intsP x) (intsP y) = decide (x = y) := by
    have := eqv_intsP x y
    by_cases e : x = y
    · rw [this.mpr e]; simp [e]
    · rw [Bool.eq_false_iff.mpr fun q => e (this.mp q)]; simp [e]
  rw [this]; exact q
theorem T_neM {k : Nat} {a b : Addr} {x y : List (List Int)} {Q : Value → Heap → Prop} (R : Rm A k) (X : ∃ as, Reads h (.ref a) (matP x) as) (Y : ∃ as, Reads h (.ref b) (matP y) as) (q : Q (.bool (decide (x ≠ y))) h) : Tr prog w A (compareOp .NotEq (.ref a) (.ref b)) h Q := fun s e => by
  subst e
  obtain ⟨_, rx⟩ := X
  obtain ⟨_, ry⟩ := Y
  refine ne_dataH rx ry (shaped_mat _) (shaped_mat _) R.room ⟨Same.refl s, ?_⟩
  have : (!PyData.eqv (matP x) (matP y)) = decide (x ≠ y) := by
    have := eqv_matP x y
    by_cases e : x = y
    · rw [this.mpr e]; simp [e]
    · rw [Bool.eq_false_iff.mpr fun q => e (this.mp q)]; simp [e]
  rw [this]; exact q
end
end Mine
namespace Mine
section
variable {prog : Program} {w : World} {h0 : Heap}
noncomputable def IsTrip (h : Heap) (a : Addr) (x y z : Int) : Prop := ∃ t1 t2 t3, h.IsTuple a #[.int x t1, .int y t2, .int z t3]
theorem Stable.trip (a : Addr) (x y z : Int) : Stable (fun h => IsTrip h a x y z) := Stable.ex fun _ => Stable.ex fun _ => Stable.ex fun _ => Stable.tuple _ _
theorem T_trip {A : Around} {h : Heap} {value slice : Expr} {l : Addr} {k : Int} {t : Tok} {x0 x1 x2 y : Int} {Q : Value → Heap → Prop} (hl : IsTrip h l x0 x1 x2)
    (hk : (k = 0 ∧ y = x0) ∨ (k = 1 ∧ y = x1) ∨ (k = 2 ∧ y = x2)) (q : ∀ u, Q (.int y u) h)
    (hs : subscripted slice false (.ref l) (.int k t) = operate [.ref l, .int k t] (getItem (.ref l) (.int k t)) := by with_unfolding_all rfl) :
    Tr prog w A (subscriptTail value slice (.ref l) (.int k t)) h Q := by
  obtain ⟨t1, t2, t3, hl⟩ := hl
  rcases hk with ⟨rfl, rfl⟩ | ⟨rfl, rfl⟩ | ⟨rfl, rfl⟩
  · exact T_itemT hl (by decide) (by decide) rfl rfl (q _) hs
  · exact T_itemT hl (by decide) (by decide) rfl rfl (q _) hs
  · exact T_itemT hl (by decide) (by decide) rfl rfl (q _) hs
set_option maxHeartbeats 1000000 in
theorem extended_walk {A : Around} {k : Nat} {f : Addr} {cd : Value} {h : Heap} {a b : Int} {ta tb : Tok} {Q : Value → Heap → Prop} (G : Gd prog h0)
    (F : FnIs h0 f cd "extended" (argsN 1) (bodyN 1) (scopeN 1)) (R : Rm A (k + 1)) (hb : ∀ b o, h0.get? b = some o → h.get? b = some o) (hsz : h0.objs.size ≤ h.objs.size)
    {sz : Nat} (ha : a.natAbs ≤ 2 ^ sz) (hbz : b.natAbs ≤ 2 ^ sz) (hz : sz ≤ 60000000)
    (q : ∀ r g s t h', Ext (fun _ => False) h h' → IsTrip h' r g s t → Gcd a b g s t → Q (.ref r) h') :
    Tr prog w A (call (.ref f) [.int a ta, .int b tb]) h Q := by
  refine T_fn (P := fun _ => True) F hb hsz G.nolimit R (fun _ => False) (fun _ f => f.elim) Stable.const trivial (binds := [("a", .int a ta), ("b", .int b tb)]) (fun _ _ _ _ _ => rfl) (by rfl) fun L h1 hL S R1 => ?_
  subst hL
  refine T_cons (T_asSwap (names := ["one", "other"]) ?_)
  refine T_tup (T_sp (T_tup (T_sp (T_loc S rfl (T_sp (T_int fun t1 => T_sp (T_int fun t2 => T_sp0 ?_)))))))
  refine T_newTuple S fun p0 h2 _ S => ?_
  refine T_sp (T_tup (T_sp (T_loc S rfl (T_sp (T_int fun t3 => T_sp (T_int fun t4 => T_sp0 ?_))))))
  refine T_newTuple S fun p1 h3 _ S => ?_
  refine T_sp0 (T_newTuple S fun p h4 _ S => ?_)
  refine T_unpackItems R1.handled S S.dat.2 rfl fun h5 S _ => ?_
  refine T_ao (T_bindName (T_stL S fun h6 S => ?_))
  refine T_ao (T_bindName (T_stL S fun h7 S => T_ao0 ?_))
  refine T_cons ((T_while (Q := fun fl h' => fl = .next ∧ ∃ m p0 r0 s0 t0 s1 t1, Ses h0 h (Dn (fun _ => False) h) (envF "extended" (scopeN 1) h.objs.size f cd) m (fun h => IsTrip h p0 r0 s0 t0) h' ∧ m "one" = some (.ref p0) ∧ Eg a b r0 s0 t0 0 s1 t1)
    (fun n h' => ∃ m p0 p1 r0 s0 t0 r1 s1 t1, Ses h0 h (Dn (fun _ => False) h) (envF "extended" (scopeN 1) h.objs.size f cd) m (fun h => IsTrip h p0 r0 s0 t0 ∧ IsTrip h p1 r1 s1 t1) h' ∧ m "one" = some (.ref p0) ∧ m "other" = some (.ref p1) ∧ Eg a b r0 s0 t0 r1 s1 t1 ∧ n = r1.natAbs)
    ?_ b.natAbs ⟨_, p0, p1, a, 1, 0, b, 0, 1, S.with ((Stable.trip _ _ _ _).and (Stable.trip _ _ _ _)) ⟨⟨_, _, _, S.dat.1.1.2⟩, ⟨_, _, _, S.dat.1.2⟩⟩, upd_same, un upd_same, Eg.start a b, rfl⟩).mono ?_)
  · rintro n h8 ⟨m, p0, p1, r0, s0, t0, r1, s1, t1, S, hm0, hm1, I, rfl⟩
    refine T_tcmp (T_sub (T_loc S hm1 (T_int fun u => T_trip S.dat.2 (.inl ⟨rfl, rfl⟩) fun u1 => T_int fun u2 => T_ne (T_truthyB ?_))))
    by_cases hr : r1 = 0
    · subst hr
      rw [if_neg (by simp)]
      exact ⟨rfl, m, p0, r0, s0, t0, s1, t1, S.with (Stable.trip _ _ _ _) S.dat.1, hm0, I⟩
    · rw [if_pos (by simpa using hr)]
      obtain ⟨I', hlt⟩ := I.step hr
      have hC : ∀ x : Int, x.natAbs ≤ 2 * (a.natAbs + b.natAbs) + 1 → x.natAbs ≤ 2 ^ (sz + 3) := fun x hx => by
        rw [Nat.pow_add]; have := Nat.two_pow_pos sz; omega
      have hN : ∀ x : Int, x.natAbs ≤ a.natAbs + b.natAbs → x.natAbs ≤ 2 ^ (sz + 3) := fun x hx => by
        rw [Nat.pow_add]; have := Nat.two_pow_pos sz; omega
      have hqz : (r0.fdiv r1).natAbs ≤ 2 ^ (sz + 3) := by
        have h1 := fdiv_natAbs_le r0 hr
        have h2 := I.nr0
        rw [Nat.pow_add]; have := Nat.two_pow_pos sz; omega
      refine T_cons <| T_asName <| T_bin <| T_sub <| T_loc S hm0 <| T_int fun u => T_trip S.dat.1 (.inl ⟨rfl, rfl⟩) fun u1 => T_sub <| T_loc S hm1 <| T_int fun u => T_trip S.dat.2 (.inl ⟨rfl, rfl⟩) fun u2 =>
        T_fdiv S R1 G.nolimit G.noseer G.tree hr fun t => T_stL S fun h9 S => ?_
      refine T_cons <| T_asName <| T_tup <| T_sp <| T_bin <| T_sub <| T_loc S (un hm0) <| T_int fun u => T_trip S.dat.1 (.inl ⟨rfl, rfl⟩) fun u1 => T_bin <| T_loc S upd_same <| T_sub <| T_loc S (un hm1) <| T_int fun u => T_trip S.dat.2 (.inl ⟨rfl, rfl⟩) fun u2 =>
        T_mul (mulOk hqz (hN _ I.nr1) (by omega)) fun t => T_subi fun t => ?_
      refine T_sp <| T_bin <| T_sub <| T_loc S (un hm0) <| T_int fun u => T_trip S.dat.1 (.inr (.inl ⟨rfl, rfl⟩)) fun u1 => T_bin <| T_loc S upd_same <| T_sub <| T_loc S (un hm1) <| T_int fun u => T_trip S.dat.2 (.inr (.inl ⟨rfl, rfl⟩)) fun u2 =>
        T_mul (mulOk hqz (hC _ I.ns1) (by omega)) fun t => T_subi fun t => ?_
      refine T_sp <| T_bin <| T_sub <| T_loc S (un hm0) <| T_int fun u => T_trip S.dat.1 (.inr (.inr ⟨rfl, rfl⟩)) fun u1 => T_bin <| T_loc S upd_same <| T_sub <| T_loc S (un hm1) <| T_int fun u => T_trip S.dat.2 (.inr (.inr ⟨rfl, rfl⟩)) fun u2 =>
        T_mul (mulOk hqz (hC _ I.nt1) (by omega)) fun t => T_subi fun t => T_sp0 ?_
      refine T_newTuple S fun pr h10 _ S => T_stL S fun h11 S => ?_
      refine T_cons <| T_asSwap (names := ["one", "other"]) <| T_tup <| T_sp <| T_loc S (un (un hm1)) <| T_sp <| T_loc S upd_same <| T_sp0 <| T_newTuple S fun p h12 _ S => ?_
      refine T_unpackItems R1.handled S S.dat.2 rfl fun h5 S _ => ?_
      refine T_ao <| T_bindName <| T_stL S fun h6 S => ?_
      refine T_ao <| T_bindName <| T_stL S fun h7 S => T_ao0 <| T_nil ?_
      exact ⟨_, hlt, _, p1, pr, _, _, _, _, _, _, S.with ((Stable.trip _ _ _ _).and (Stable.trip _ _ _ _)) ⟨S.dat.1.1.2, ⟨_, _, _, S.dat.1.2⟩⟩, upd_same, un upd_same, I', rfl⟩
  · rintro fl h8 ⟨rfl, m, p0, r0, s0, t0, s1, t1, S, hm0, I⟩
    refine T_cons <| T_ret <| T_ifexp <| T_tcmp <| T_sub <| T_loc S hm0 <| T_int fun u => T_trip S.dat (.inl ⟨rfl, rfl⟩) fun u1 => T_int fun u2 => T_ge <| T_truthyB ?_
    by_cases h0' : 0 ≤ r0
    · rw [if_pos (by simpa using h0')]
      exact T_loc S hm0 (q _ _ _ _ _ S.back S.dat (I.done h0'))
    · rw [if_neg (by simpa using h0')]
      refine T_tup <| T_sp <| T_bin <| T_int fun u => T_sub <| T_loc S hm0 <| T_int fun u => T_trip S.dat (.inl ⟨rfl, rfl⟩) fun u1 => T_subi fun t => ?_
      refine T_sp <| T_bin <| T_int fun u => T_sub <| T_loc S hm0 <| T_int fun u => T_trip S.dat (.inr (.inl ⟨rfl, rfl⟩)) fun u1 => T_subi fun t => ?_
      refine T_sp <| T_bin <| T_int fun u => T_sub <| T_loc S hm0 <| T_int fun u => T_trip S.dat (.inr (.inr ⟨rfl, rfl⟩)) fun u1 => T_subi fun t => T_sp0 ?_
      exact T_newTuple S fun pr h9 _ S => q _ _ _ _ _ S.back ⟨_, _, _, S.dat.2⟩ (I.doneN h0')
end
end Mine
namespace Mine
section
variable {prog : Program} {w : World} {h0 : Heap} {fa : Nat → Addr} {cd : Nat → Value}
noncomputable def unitM (i j : Nat) : Int := if i = j then 1 else 0
set_option maxHeartbeats 1000000 in
theorem unit_rows_walk {A : Around} {k : Nat} {h : Heap} {n : Nat} {tn : Tok} {Q : Value → Heap → Prop} (G : Gr prog h0 fa cd)
    (R : Rm A (k + 1)) (hb : ∀ b o, h0.get? b = some o → h.get? b = some o) (hsz : h0.objs.size ≤ h.objs.size) (hn : n ≤ 1000)
    (q : ∀ a rows h', Ext (fun _ => False) h h' → h.objs.size ≤ a → Mat h0.objs.size h' a rows n n unitM → (∀ i, i < n → h.objs.size ≤ rows i) → Q (.ref a) h') :
    Tr prog w A (call (.ref (fa 3)) [.int (n : Int) tn]) h Q := by
  refine T_fn (P := fun _ => True) G.unit_rows hb hsz G.nolimit R (fun _ => False) (fun _ f => f.elim) Stable.const trivial (binds := [("n", .int (n : Int) tn)]) (fun _ _ _ _ _ => rfl) (by rfl) fun L h1 hL S R1 => ?_
  subst hL
  have Si := S.inner
  refine T_cons <| T_ret <| T_compE <| T_call <| T_glo Si G.nm.range <| T_cwT <| T_sp <| T_cel Si rfl <| T_sp0 <| T_range1 Si fun r h2 t1 t2 t3 S2 hr => ?_
  refine T_iterRange S2 hr (by decide) (by decide) (by solve_by_elim (maxDepth := 3) only [*, Nat.le_of_lt, Nat.lt_of_lt_of_le, Nat.lt_of_le_of_lt, Nat.le_trans, Nat.pos_of_ne_zero, Nat.ne_of_gt, Nat.le_refl, Nat.lt_trans, Nat.succ_ne_zero, Nat.le_add_right, Nat.ne_of_lt, Ne.symm, Nat.succ_le_of_lt, Nat.lt_irrefl, absurd]) (by lia) fun I h3 S3 hI0 hIge hI => ?_
  have e0 : (((n : Int) - 0).toNat) = n := by solve_by_elim (maxDepth := 3) only [*, Nat.le_of_lt, Nat.lt_of_lt_of_le, Nat.lt_of_le_of_lt, Nat.le_trans, Nat.pos_of_ne_zero, Nat.ne_of_gt, Nat.le_refl, Nat.lt_trans, Nat.succ_ne_zero, Nat.le_add_right, Nat.ne_of_lt, Ne.symm, Nat.succ_le_of_lt, Nat.lt_irrefl, absurd]
  rw [e0] at hI
  refine compRows (n := n) unitM S S3 (St := fun i h => IsRangeIter h I (0 + (i : Int)) ((n : Int) - (i : Int)) 1) (by simpa using hI)
    (fun C hC => drawRange R1.handled (.inr ⟨rfl, _, rfl, S3.nw _ (by have := S3.ext.size; lia)⟩) (new_none S2 hIge)) (hU1 (by decide)) (fun _ _ => trivial) (by rw [sizeLine_eq]; (exact Nat.le_trans (by assumption) (by decide)))
    (fun C i m' hi P' hC hlt hm hu hP X => ?_) (fun acc C mC rows h' e1 e2 X hrows hN => ?_)
  · obtain ⟨mi, t, rfl⟩ := hu
    have Xi := X.inner
    refine T_compE <| T_call <| T_glo Xi G.nm.range <| T_cwT <| T_sp <| T_cel Xi ((hm "n" rfl).trans rfl) <| T_sp0 <| T_range1 Xi fun r h4 t1 t2 t3 X2 hr => ?_
    refine T_iterRange X2 hr (by decide) (by decide) (by solve_by_elim (maxDepth := 3) only [*, Nat.le_of_lt, Nat.lt_of_lt_of_le, Nat.lt_of_le_of_lt, Nat.le_trans, Nat.pos_of_ne_zero, Nat.ne_of_gt, Nat.le_refl, Nat.lt_trans, Nat.succ_ne_zero, Nat.le_add_right, Nat.ne_of_lt, Ne.symm, Nat.succ_le_of_lt, Nat.lt_irrefl, absurd]) (by lia) fun I2 h5 X3 hI0 hIge hI => ?_
    rw [e0] at hI
    refine compInts (n := n) (unitM i) X X3 (St := fun i h => IsRangeIter h I2 (0 + (i : Int)) ((n : Int) - (i : Int)) 1) (by simpa using hI)
      (fun C hC => drawRange R1.handled (.inl ⟨rfl, rfl, X3.nw _ (by have := X3.ext.size; show _ ≤ C; lia)⟩) (new_none X2 hIge)) (hU1 (by decide)) (fun _ _ => trivial) (by rw [sizeLine_eq]; (exact Nat.le_trans (by assumption) (by decide)))
      (fun C j m' hj hlt2 hm2 hu Y => ?_) (fun acc h' e Y => ⟨acc, rfl, ?_, ?_⟩)
    · obtain ⟨mj, u, rfl⟩ := hu
      refine T_ifexp <| T_tcmp <| T_cel Y ((hm2 "row" rfl).trans upd_same) <| T_loc Y upd_same <| T_eq <| T_truthyB ?_
      by_cases e : i = j
      · rw [if_pos (by simpa using (by (simp +arith only [*]) : (i : Int) = (j : Int)))]
        exact T_int fun t => ⟨rfl, t, by rw [unitM, if_pos e]⟩
      · rw [if_neg (by simpa using (by lia : ¬ (i : Int) = (j : Int)))]
        exact T_int fun t => ⟨rfl, t, by rw [unitM, if_neg e]⟩
    · have := X3.ext.size; (simp +arith only [*])
    · exact X.anew.join Y
  · refine ⟨mC, hN, fun h'' hs' => ?_⟩
    have hCs : h1.objs.size ≤ C := by have := S3.ext.size; lia
    have Y := X.sameButC hN hs' (S.nw C (Nat.le_trans S.ext.size hCs)) fun q => Nat.lt_irrefl _ (Nat.lt_of_lt_of_le (S.frame_lt q) hCs)
    have ha : h.objs.size ≤ acc := by have := S3.ext.size; have := S.ext.size; lia
    exact q acc rows h'' Y.back ha Y.dat.2 fun i hi => Nat.le_trans ha (Nat.le_of_lt (hrows i hi))
end
end Mine
namespace Mine
section
variable {prog : Program} {w : World} {h0 : Heap} {fa : Nat → Addr} {cd : Nat → Value}
set_option maxHeartbeats 2000000 in
theorem combine_walk {A : Around} {k : Nat} {h : Heap} {a : Addr} {rows : Nat → Addr} {m n i j : Nat} {B : Nat → Nat → Int} {s t u v : Int} {ti tj ts tt tu tv : Tok} {Q : Value → Heap → Prop} (G : Gr prog h0 fa cd)
    (R : Rm A (k + 1)) (hb : ∀ b o, h0.get? b = some o → h.get? b = some o) (hsz : h0.objs.size ≤ h.objs.size) (M : Mat h0.objs.size h a rows m n B) (hm : m ≤ 1000) (hn : n ≤ 1000) (hi : i < m) (hj : j < m) (hij : i ≠ j)
    (ok : ∀ c, c < n → IntMulOk s (B i c) ∧ IntMulOk t (B j c) ∧ IntMulOk u (B i c) ∧ IntMulOk v (B j c))
    (q : ∀ rows' h', Ext (fun b => b = a) h h' → Mat h0.objs.size h' a rows' m n (combM B i j s t u v) → (∀ x, Foot a rows' m x → Foot a rows m x ∨ h.objs.size ≤ x) → Q .none h') :
    Tr prog w A (call (.ref (fa 4)) [.ref a, .int (i : Int) ti, .int (j : Int) tj, .int s ts, .int t tt, .int u tu, .int v tv]) h Q := by
  refine T_fn (P := fun h => Mat h0.objs.size h a rows m n B) G.combine hb hsz G.nolimit R (fun b => b = a) (fun b e => e ▸ M.lo) (Stable.mat _ _ _ _ _ _) M
    (binds := [("a", .ref a), ("one", .int (i : Int) ti), ("other", .int (j : Int) tj), ("s", .int s ts), ("t", .int t tt), ("u", .int u tu), ("v", .int v tv)]) (fun _ _ _ _ _ => rfl) (by rfl) fun L h1 hL S R1 => ?_
  subst hL
  have hR := R1.handled
  refine T_cons <| T_asTuple <| T_tup <| T_sp <| T_sub <| T_loc S rfl <| T_loc S rfl <| T_itemR S.dat.outer rfl hi hm <| T_sp <| T_sub <| T_loc S rfl <| T_loc S rfl <| T_itemR S.dat.outer rfl hj hm <| T_sp0 <|
    T_newTuple S fun p h2 _ S => T_toTuple hR S S.dat.2 rfl rfl fun h3 S _ => ?_
  refine T_ao <| T_toName <| T_st S asgL fun h4 S => T_ao <| T_toName <| T_st S asgC fun h5 S => T_ao0 ?_
  have S5 := S.with (Stable.mat _ _ _ _ _ _) S.dat.1
  have hz5 := S5.ext.size
  have ha5 := S5.dat.outer.lt
  have hr5 := fun r hr => (S5.dat.row r hr).lt
  refine T_cons <| T_asSub <| T_enumComp (r := rows i) (n := n) (g := B i) (fun c => s * B i c + t * B j c) S5 hR G.nm (fun h M => M.row i hi) hn (fun D' Q' Si q => T_loc Si (un upd_same) q) (fun C c mi t0 t1 hi' hc hf X => ?_) (fun acc h6 hacc S => ?_)
  · refine T_bin <| T_bin <| T_cel X ((hf "s" rfl).trans rfl) <| T_loc X upd_same <| T_mul (ok c hc).1 fun _ => T_bin <| T_cel X ((hf "t" rfl).trans rfl) <| T_sub <| T_cel X ((hf "second" rfl).trans upd_same) <| T_loc X (un upd_same) <|
      T_itemI (X.dat.row j hj) rfl hc hn fun _ => T_mul (ok c hc).2.1 fun _ => T_add fun _ => ⟨rfl, _, rfl⟩
  refine T_loc S rfl <| T_loc S rfl <| T_putRow S S.dat.1 S.dat.2 rfl hi hm (.inl rfl) ?_ ?_ ?_
    (P' := fun h => Mat h0.objs.size h a (fun r => if r = i then acc else rows r) m n (fun r c => if r = i then s * B i c + t * B j c else B r c) ∧ IntRow h (rows i) n (B i) ∧ IntRow h (rows j) n (B j))
    ((Stable.mat _ _ _ _ _ _).and ((Stable.intRow _ _ _).and (Stable.intRow _ _ _))) (fun h' kb M' => ⟨M', (S.dat.1.row i hi).but kb (S.dat.1.ne i hi), (S.dat.1.row j hj).but kb (S.dat.1.ne j hj)⟩) fun h7 S7 => ?_
  · exact Nat.ne_of_gt (Nat.lt_of_lt_of_le ha5 hacc)
  · exact fun r hr _ => Nat.ne_of_gt (Nat.lt_of_lt_of_le (hr5 r hr) hacc)
  · omega
  have ha7 := S7.dat.1.outer.lt
  have hr7 := fun r hr => (S7.dat.1.row r hr).lt
  have hz7 := S7.ext.size
  refine T_cons <| T_asSub <| T_enumComp (r := rows i) (n := n) (g := B i) (fun c => u * B i c + v * B j c) S7 hR G.nm (fun h M => M.2.1) hn (fun D' Q' Si q => T_loc Si (un upd_same) q) (fun C c mi t0 t1 hi' hc hf X => ?_) (fun acc2 h8 hacc2 S8 => ?_)
  · refine T_bin <| T_bin <| T_cel X ((hf "u" rfl).trans rfl) <| T_loc X upd_same <| T_mul (ok c hc).2.2.1 fun _ => T_bin <| T_cel X ((hf "v" rfl).trans rfl) <| T_sub <| T_cel X ((hf "second" rfl).trans upd_same) <| T_loc X (un upd_same) <|
      T_itemI X.dat.2.2 rfl hc hn fun _ => T_mul (ok c hc).2.2.2 fun _ => T_add fun _ => ⟨rfl, _, rfl⟩
  refine T_loc S8 rfl <| T_loc S8 rfl <| T_putRow S8 S8.dat.1.1 S8.dat.2 rfl hj hm (.inl rfl) ?_ ?_ ?_
    (P' := fun h => Mat h0.objs.size h a (fun r => if r = j then acc2 else if r = i then acc else rows r) m n (combM B i j s t u v))
    (Stable.mat _ _ _ _ _ _) (fun h' kb M' => M') fun h9 S9 => ?_
  · exact Nat.ne_of_gt (Nat.lt_of_lt_of_le ha7 hacc2)
  · exact fun r hr _ => Nat.ne_of_gt (Nat.lt_of_lt_of_le (hr7 r hr) hacc2)
  · omega
  refine T_nil (q _ _ S9.back S9.dat ?_)
  rintro x (rfl | ⟨r, hr, rfl⟩)
  · exact .inl (.inl rfl)
  · by_cases e1 : r = j
    · simp only [if_pos e1]; right; omega
    · by_cases e2 : r = i
      · simp only [if_neg e1, if_pos e2]; right; omega
      · simp only [if_neg e1, if_neg e2]; exact .inl (.inr ⟨r, hr, rfl⟩)
end
end Mine
namespace Mine
section
variable {prog : Program} {w : World} {h0 : Heap} {fa : Nat → Addr} {cd : Nat → Value}
/-- the lists of a matrix are of old, or new behind h -/
noncomputable def FootOk (h : Heap) (a : Addr) (r r' : Nat → Addr) (m : Nat) : Prop := ∀ x, Foot a r' m x → Foot a r m x ∨ h.objs.size ≤ x
theorem FootOk.refl (h : Heap) (a : Addr) (r : Nat → Addr) (m : Nat) : FootOk h a r r m := fun x hx => .inl hx
theorem FootOk.trans {h h' : Heap} {a : Addr} {r r' r'' : Nat → Addr} {m : Nat} (x : FootOk h a r r' m) (y : FootOk h' a r' r'' m) (hz : h.objs.size ≤ h'.objs.size) : FootOk h a r r'' m := fun b hb =>
  (y b hb).elim (x b) fun q => .inr (Nat.le_trans hz q)
theorem Disj.new {N h a ra ma b rb rb' mb nb B} (x : Disj a ra ma b rb mb) (M : Mat N h a ra ma nb B) (f : FootOk h b rb rb' mb) : Disj a ra ma b rb' mb := fun c h1 h2 =>
  (f c h2).elim (x c h1) fun q => Nat.lt_irrefl _ (Nat.lt_of_lt_of_le (M.foot_lt h1) q)
theorem FootOk.old {h h' : Heap} {a : Addr} {r r' : Nat → Addr} {m : Nat} (x : FootOk h' a r r' m) (hz : h.objs.size ≤ h'.objs.size) : FootOk h a r r' m := fun b hb => (x b hb).imp id fun q => Nat.le_trans hz q
theorem fnAtOf {f : Addr} {cdv : Value} {name : Str} {params : Arguments} {body : List Stmt} {scope : Scope} (F : FnIs h0 f cdv name params body scope) : ∃ o fd, ∀ h : Heap, (∀ b o, h0.get? b = some o → h.get? b = some o) → h.get? f = some o ∧ o.data = .func fd := by
  obtain ⟨o, _, _, _, _, _, ho, hd⟩ := F.at'
  exact ⟨o, _, fun h k => ⟨k _ _ ho, hd⟩⟩
/-- what clear_below holds between two turns -/
structure CBst (h0 hc : Heap) (aH aU : Addr) (rH0 rU0 : Nat → Addr) (mm n nu row col o0 o : Nat) (H0 U0 : Nat → Nat → Int) (h : Heap) (rH rU : Nat → Addr) (H U : Nat → Nat → Int) : Prop where
  mH : Mat h0.objs.size h aH rH mm n H
  mU : Mat h0.objs.size h aU rU mm nu U
  dj : Disj aH rH mm aU rU mm
  fH : FootOk hc aH rH0 rH mm
  fU : FootOk hc aU rU0 rU mm
  cb : CB row col o0 H0 U0 o H U
theorem Stable.cbst {h0 hc : Heap} {aH aU : Addr} {rH0 rU0 : Nat → Addr} {mm n nu row col o0 o : Nat} {H0 U0 : Nat → Nat → Int} {rH rU : Nat → Addr} {H U : Nat → Nat → Int} : Stable (fun h => CBst h0 hc aH aU rH0 rU0 mm n nu row col o0 o H0 U0 h rH rU H U) :=
  fun h h' x k => { x with mH := Stable.mat _ _ _ _ _ _ h h' x.mH k, mU := Stable.mat _ _ _ _ _ _ h h' x.mU k }
set_option maxHeartbeats 4000000 in
theorem clear_below_walk {A : Around} {k : Nat} {h : Heap} {aH aU : Addr} {rH rU : Nat → Addr} {mm n nu row col K : Nat} {H U : Nat → Nat → Int} {tr tc : Tok} {Q : Value → Heap → Prop} (G : Gr prog h0 fa cd)
    (R : Rm A (k + 2)) (hb : ∀ b o, h0.get? b = some o → h.get? b = some o) (hsz : h0.objs.size ≤ h.objs.size) (MH : Mat h0.objs.size h aH rH mm n H) (MU : Mat h0.objs.size h aU rU mm nu U) (dj : Disj aH rH mm aU rU mm)
    (hm : mm ≤ 100) (hn : n ≤ 100) (hnu : nu ≤ 100) (hrow : row < mm) (hcol : col < n) (sH : Sz K mm n H) (sU : Sz K mm nu U) (hK : K * 2 ^ (mm - (row + 1)) ≤ 30000000)
    (q : ∀ rH' rU' H' U' h', Ext (fun b => b = aH ∨ b = aU) h h' → CBst h0 h aH aU rH rU mm n nu row col (row + 1) mm H U h' rH' rU' H' U' → Q .none h') :
    Tr prog w A (call (.ref (fa 5)) [.ref aH, .ref aU, .int (row : Int) tr, .int (col : Int) tc]) h Q := by
  refine T_fn (P := fun h => Mat h0.objs.size h aH rH mm n H ∧ Mat h0.objs.size h aU rU mm nu U) G.clear_below hb hsz G.nolimit R (fun b => b = aH ∨ b = aU) (fun b e => e.elim (fun e => e ▸ MH.lo) fun e => e ▸ MU.lo) ((Stable.mat _ _ _ _ _ _).and (Stable.mat _ _ _ _ _ _)) ⟨MH, MU⟩
    (binds := [("h", .ref aH), ("u", .ref aU), ("row", .int (row : Int) tr), ("column", .int (col : Int) tc)]) (fun _ _ _ _ _ => rfl) (by rfl) fun L h1 hL S R1 => ?_
  subst hL
  have hR := R1.handled
  obtain ⟨oE, fE, kE⟩ := fnAtOf G.extended
  obtain ⟨oC, fC, kC⟩ := fnAtOf G.combine
  refine T_cons <| T_for <| T_call <| T_glo S G.nm.range <| T_cwT <| T_sp <| T_bin <| T_loc S rfl <| T_int fun _ => T_add fun t0 => T_sp <| T_call <| T_glo S G.nm.len <| T_cwB <| T_sp <| T_loc S rfl <| T_sp0 <| T_lenR S.dat.1.outer (by exact Nat.le_trans (by assumption) (by decide)) fun t1 => T_sp0 <| T_range2 S fun r h2 _ _ _ S2 hr => ?_
  refine T_iterRange S2 hr (by solve_by_elim (maxDepth := 3) only [*, Nat.le_of_lt, Nat.lt_of_lt_of_le, Nat.lt_of_le_of_lt, Nat.le_trans, Nat.pos_of_ne_zero, Nat.ne_of_gt, Nat.le_refl, Nat.lt_trans, Nat.succ_ne_zero, Nat.le_add_right, Nat.ne_of_lt, Ne.symm, Nat.succ_le_of_lt, Nat.lt_irrefl, absurd]) (by lia) (by solve_by_elim (maxDepth := 3) only [*, Nat.le_of_lt, Nat.lt_of_lt_of_le, Nat.lt_of_le_of_lt, Nat.le_trans, Nat.pos_of_ne_zero, Nat.ne_of_gt, Nat.le_refl, Nat.lt_trans, Nat.succ_ne_zero, Nat.le_add_right, Nat.ne_of_lt, Ne.symm, Nat.succ_le_of_lt, Nat.lt_irrefl, absurd]) (by lia) fun I h3 S3 hI0 hIge hI => ?_
  have e0 : ((mm : Int) - ((row : Int) + 1)).toNat = mm - (row + 1) := by lia
  rw [e0] at hI
  refine T_forD (n := mm - (row + 1)) (drawRange (a := (row : Int) + 1) hR asgL (new_none S2 hIge)) S3 (by simpa using hI)
    (fun i m hh => (m "h" = some (.ref aH) ∧ m "u" = some (.ref aU) ∧ m "row" = some (.int (row : Int) tr) ∧ m "column" = some (.int (col : Int) tc)) ∧ ∃ rH' rU' H' U', CBst h0 h aH aU rH rU mm n nu row col (row + 1) (row + 1 + i) H U hh rH' rU' H' U')
    (fun i m => ?_) (fun _ _ _ _ => trivial) ?_ (fun i m m' hi hlt hu Si jn => ?_) (fun m hf Sf => ?_)
  · exact Stable.const.and (Stable.ex fun _ => Stable.ex fun _ => Stable.ex fun _ => Stable.ex fun _ => Stable.cbst)
  · exact ⟨⟨rfl, rfl, rfl, rfl⟩, rH, rU, H, U, S3.dat.1, S3.dat.2, dj, FootOk.refl _ _ _ _, FootOk.refl _ _ _ _, .nil⟩
  · obtain ⟨t, rfl⟩ := hu
    obtain ⟨⟨n1, n2, n3, n4⟩, rH', rU', H', U', C⟩ := Si.dat
    obtain ⟨hle, ⟨kz, hkz, sH'⟩, ⟨kz', hkz', sU'⟩⟩ := C.cb.size hrow hcol (by grind) sH sU
    have hpow : K * 2 ^ (row + 1 + i - (row + 1)) ≤ 30000000 := Nat.le_trans (Nat.mul_le_mul_left _ (pow_le (by lia))) hK
    have S := Si.with (Stable.cbst) C
    have ho : row + 1 + i < mm := by grind
    have ei : ((row : Int) + 1 + (i : Int)) = ((row + 1 + i : Nat) : Int) := by solve_by_elim (maxDepth := 3) only [*, Nat.le_of_lt, Nat.lt_of_lt_of_le, Nat.lt_of_le_of_lt, Nat.le_trans, Nat.pos_of_ne_zero, Nat.ne_of_gt, Nat.le_refl, Nat.lt_trans, Nat.succ_ne_zero, Nat.le_add_right, Nat.ne_of_lt, Ne.symm, Nat.succ_le_of_lt, Nat.lt_irrefl, absurd]
    refine T_cons <| T_if <| T_tcmp <| T_sub <| T_sub <| T_loc S (un n1) <| T_loc S upd_same <| T_itemR S.dat.mH.outer ei ho (by exact Nat.le_trans (by assumption) (by decide)) <| T_loc S (un n4) <| T_itemI (S.dat.mH.row _ ho) rfl hcol (by exact Nat.le_trans (by assumption) (by decide)) fun _ => T_int fun _ => T_eq <| T_truthyB ?_
    by_cases hz : H' (row + 1 + i) col = 0
    · rw [if_pos (by simpa using hz)]
      refine T_cons <| T_cont ⟨_, S.with (Stable.const.and (Stable.ex fun _ => Stable.ex fun _ => Stable.ex fun _ => Stable.ex fun _ => Stable.cbst)) ⟨⟨un n1, un n2, un n3, un n4⟩, rH', rU', H', U', { S.dat with cb := S.dat.cb.skip hz }⟩⟩
    · rw [if_neg (by simpa using hz)]
      refine T_nil ?_
      refine T_cons <| T_asTuple <| T_call <| T_glo S G.nm.extended <| T_cwF <| T_sp <| T_sub <| T_sub <| T_loc S (un n1) <| T_loc S (un n3) <| T_itemR S.dat.mH.outer rfl hrow (by exact Nat.le_trans (by assumption) (by decide)) <| T_loc S (un n4) <| T_itemI (S.dat.mH.row _ hrow) rfl hcol (by exact Nat.le_trans (by assumption) (by decide)) fun _ =>
        T_sp <| T_sub <| T_sub <| T_loc S (un n1) <| T_loc S upd_same <| T_itemR S.dat.mH.outer ei ho (by exact Nat.le_trans (by assumption) (by decide)) <| T_loc S (un n4) <| T_itemI (S.dat.mH.row _ ho) rfl hcol (by exact Nat.le_trans (by assumption) (by decide)) fun _ => T_sp0
        ⟨kE _ S.base, extended_walk G.toGd G.extended R1 S.base S.gsz (sH' row col hrow hcol) (sH' _ col ho hcol) (by lia) fun r g s t h' e1 ht hg => ?_⟩
      have S := (S.after0 e1).also (Stable.trip _ _ _ _) ht
      obtain ⟨t1, t2, t3, ht⟩ := ht
      refine T_toTuple hR S ht rfl rfl fun h3 S _ => T_ao <| T_toName <| T_st S asgL fun h4 S => T_ao <| T_toName <| T_st S asgL fun h4 S => T_ao <| T_toName <| T_st S asgL fun h4 S => T_ao0 ?_
      have hgp := hg.pos hz
      have hg0 : g ≠ 0 := Int.ne_of_gt hgp
      have S := S.with Stable.cbst S.dat.1
      refine T_cons <| T_asSwap (names := ["left", "right"]) <| T_tup <| T_sp <| T_bin <| T_sub <| T_sub <| T_loc S (un <| un <| un <| un n1) <| T_loc S (un <| un <| un <| un n3) <| T_itemR S.dat.mH.outer rfl hrow (by exact Nat.le_trans (by assumption) (by decide)) <| T_loc S (un <| un <| un <| un n4) <| T_itemI (S.dat.mH.row _ hrow) rfl hcol (by exact Nat.le_trans (by assumption) (by decide)) fun _ =>
        T_loc S (un <| un upd_same) <| T_fdiv S R1 G.nolimit G.noseer G.tree hg0 fun _ => T_sp <| T_bin <| T_sub <| T_sub <| T_loc S (un <| un <| un <| un n1) <| T_loc S (un <| un <| un upd_same) <| T_itemR S.dat.mH.outer ei ho (by exact Nat.le_trans (by assumption) (by decide)) <| T_loc S (un <| un <| un <| un n4) <| T_itemI (S.dat.mH.row _ ho) rfl hcol (by exact Nat.le_trans (by assumption) (by decide)) fun _ =>
        T_loc S (un <| un upd_same) <| T_fdiv S R1 G.nolimit G.noseer G.tree hg0 fun _ => T_sp0 <| T_newTuple S fun p h9 _ S => T_unpackItems hR S S.dat.2 rfl fun h5 S _ => T_ao <| T_bindName <| T_stL S fun h6 S => T_ao <| T_bindName <| T_stL S fun h7 S => T_ao0 ?_
      have S := S.with Stable.cbst S.dat.1
      obtain ⟨c1, c2, c3, c4⟩ := cofactor_sizes hg hz (sH' row col hrow hcol) (sH' _ col ho hcol)
      have kz30 : kz ≤ 30000000 := by lia
      have kz30' : kz' ≤ 30000000 := by lia
      have hz7 := Nat.le_trans (jn _ _ _ Si).ext.size S.ext.size
      refine T_cons <| T_forPairC (v1 := .ref aH) (v2 := .ref aU) hR S asgL (fun Q' q => T_loc S (un <| un <| un <| un <| un <| un n1) q) (fun Q' q => T_loc S (un <| un <| un <| un <| un <| un n2) q)
        (fun hh => ∃ rH2, Mat h0.objs.size hh aH rH2 mm n (combM H' row (row + 1 + i) s t (-((H' (row + 1 + i) col).fdiv g)) ((H' row col).fdiv g)) ∧ Mat h0.objs.size hh aU rU' mm nu U' ∧ Disj aH rH2 mm aU rU' mm ∧ FootOk h aH rH rH2 mm)
        (fun hh => ∃ rH' rU' H' U', CBst h0 h aH aU rH rU mm n nu row col (row + 1) (row + 1 + (i + 1)) H U hh rH' rU' H' U')
        (Stable.ex fun _ => (Stable.mat _ _ _ _ _ _).and ((Stable.mat _ _ _ _ _ _).and Stable.const)) (Stable.ex fun _ => Stable.ex fun _ => Stable.ex fun _ => Stable.ex fun _ => Stable.cbst) (fun h8 hz8 S => ?_) (fun h8 hz8 S => ?_) (fun h8 S => T_nil ?_)
      · refine T_cons <| T_expr <| T_call <| T_glo S G.nm.combine <| T_cwF <| T_sp <| T_loc S upd_same <| T_sp <| T_loc S (un <| un <| un <| un <| un <| un <| un n3) <| T_sp <| T_loc S (un <| un <| un <| un <| un <| un <| upd_same) <|
          T_sp <| T_loc S (un <| un <| un <| un upd_same) <| T_sp <| T_loc S (un <| un <| un upd_same) <| T_sp <| T_un <| T_loc S (un <| un upd_same) <| T_neg fun _ => T_sp <| T_loc S (un upd_same) <| T_sp0
          ⟨kC _ S.base, ?_⟩
        rw [ei]
        refine combine_walk G R1 S.base S.gsz S.dat.mH (by exact Nat.le_trans (by assumption) (by decide)) (by exact Nat.le_trans (by assumption) (by decide)) hrow ho (by solve_by_elim (maxDepth := 3) only [*, Nat.le_of_lt, Nat.lt_of_lt_of_le, Nat.lt_of_le_of_lt, Nat.le_trans, Nat.pos_of_ne_zero, Nat.ne_of_gt, Nat.le_refl, Nat.lt_trans, Nat.succ_ne_zero, Nat.le_add_right, Nat.ne_of_lt, Ne.symm, Nat.succ_le_of_lt, Nat.lt_irrefl, absurd]) (fun c hc => ⟨mulOk c1 (sH' _ _ hrow hc) (by lia), mulOk c2 (sH' _ _ ho hc) (by lia), mulOk c3 (sH' _ _ hrow hc) (by lia), mulOk c4 (sH' _ _ ho hc) (by lia)⟩) fun r2 h' e2 M2 hf2 => ?_
        have fo : FootOk h8 aH rH' r2 mm := hf2
        have hz8 : h.objs.size ≤ h8.objs.size := Nat.le_trans hz7 hz8
        refine T_nil ⟨rfl, S.after e2 (fun b e => .inl (.inl e)) (fun b e => e ▸ S.dat.mH.outer.isList) (Stable.ex fun _ => (Stable.mat _ _ _ _ _ _).and ((Stable.mat _ _ _ _ _ _).and Stable.const)) ⟨r2, M2, S.dat.mU.ext e2 (fun b hb e => S.dat.dj.no (e ▸ hb)), ?_, S.dat.fH.trans fo hz8⟩⟩
        exact (S.dat.dj.symm.new S.dat.mU fo).symm
      · obtain ⟨rH2, M2, MU2, dj2, f2⟩ := S.dat
        refine T_cons <| T_expr <| T_call <| T_glo S G.nm.combine <| T_cwF <| T_sp <| T_loc S upd_same <| T_sp <| T_loc S (un <| un <| un <| un <| un <| un <| un n3) <| T_sp <| T_loc S (un <| un <| un <| un <| un <| un <| upd_same) <|
          T_sp <| T_loc S (un <| un <| un <| un upd_same) <| T_sp <| T_loc S (un <| un <| un upd_same) <| T_sp <| T_un <| T_loc S (un <| un upd_same) <| T_neg fun _ => T_sp <| T_loc S (un upd_same) <| T_sp0
          ⟨kC _ S.base, ?_⟩
        rw [ei]
        refine combine_walk G R1 S.base S.gsz MU2 (by exact Nat.le_trans (by assumption) (by decide)) (by exact Nat.le_trans (by assumption) (by decide)) hrow ho (by solve_by_elim (maxDepth := 3) only [*, Nat.le_of_lt, Nat.lt_of_lt_of_le, Nat.lt_of_le_of_lt, Nat.le_trans, Nat.pos_of_ne_zero, Nat.ne_of_gt, Nat.le_refl, Nat.lt_trans, Nat.succ_ne_zero, Nat.le_add_right, Nat.ne_of_lt, Ne.symm, Nat.succ_le_of_lt, Nat.lt_irrefl, absurd]) (fun c hc => ⟨mulOk c1 (sU' _ _ hrow hc) (by lia), mulOk c2 (sU' _ _ ho hc) (by omega), mulOk c3 (sU' _ _ hrow hc) (by omega), mulOk c4 (sU' _ _ ho hc) (by omega)⟩) fun r2 h' e2 M3 hf2 => ?_
        have fo : FootOk h8 aU rU' r2 mm := hf2
        have hz8 : h.objs.size ≤ h8.objs.size := Nat.le_trans hz7 hz8
        refine T_nil ⟨rfl, S.after e2 (fun b e => .inl (.inr e)) (fun b e => e ▸ MU2.outer.isList) (Stable.ex fun _ => Stable.ex fun _ => Stable.ex fun _ => Stable.ex fun _ => Stable.cbst)
          ⟨rH2, r2, _, _, M2.ext e2 (fun b hb e => dj2.no' (e ▸ hb)), M3, dj2.new M2 fo, f2, C.fU.trans fo hz8, ?_⟩⟩
        exact C.cb.step hz hg
      · exact ⟨_, S.with (Stable.const.and (Stable.ex fun _ => Stable.ex fun _ => Stable.ex fun _ => Stable.ex fun _ => Stable.cbst)) ⟨⟨un <| un <| un <| un <| un <| un <| un n1, un <| un <| un <| un <| un <| un <| un n2, un <| un <| un <| un <| un <| un <| un n3, un <| un <| un <| un <| un <| un <| un n4⟩, S.dat⟩⟩
  · obtain ⟨_, rH', rU', H', U', C⟩ := Sf.dat
    have e : row + 1 + (mm - (row + 1)) = mm := by grind
    rw [e] at C
    exact T_nil (q _ _ _ _ _ Sf.back C)
end
end Mine
namespace Mine
section
variable {prog : Program} {w : World} {h0 : Heap} {fa : Nat → Addr} {cd : Nat → Value}
set_option maxHeartbeats 4000000 in
theorem reduce_above_walk {A : Around} {k : Nat} {h : Heap} {aH aU : Addr} {rH rU : Nat → Addr} {mm n nu row col K : Nat} {H U : Nat → Nat → Int} {tr tc : Tok} {Q : Value → Heap → Prop} (G : Gr prog h0 fa cd)
    (R : Rm A (k + 1)) (hb : ∀ b o, h0.get? b = some o → h.get? b = some o) (hsz : h0.objs.size ≤ h.objs.size) (T0 : Two h0.objs.size aH aU rH rU mm n mm nu H U h)
    (hm : mm ≤ 100) (hn : n ≤ 100) (hnu : nu ≤ 100) (hrow : row < mm) (hcol : col < n) (sH : Sz K mm n H) (sU : Sz K mm nu U) (hK : K ≤ 30000000) (hne : H row col ≠ 0)
    (q : ∀ rH' rU' h', Ext (fun b => b = aH ∨ b = aU) h h' → Two h0.objs.size aH aU rH' rU' mm n mm nu
      (redM (negM (decide (H row col < 0)) H row) (quoM (negM (decide (H row col < 0)) H row) row col) row row) (redM (negM (decide (H row col < 0)) U row) (quoM (negM (decide (H row col < 0)) H row) row col) row row) h' → Q .none h') :
    Tr prog w A (call (.ref (fa 6)) [.ref aH, .ref aU, .int (row : Int) tr, .int (col : Int) tc]) h Q := by
  refine T_fn (P := fun h => Two h0.objs.size aH aU rH rU mm n mm nu H U h) G.reduce_above hb hsz G.nolimit R (fun b => b = aH ∨ b = aU) (fun b e => e.elim (fun e => e ▸ T0.x.lo) fun e => e ▸ T0.y.lo) Stable.two T0
    (binds := [("h", .ref aH), ("u", .ref aU), ("row", .int (row : Int) tr), ("column", .int (col : Int) tc)]) (fun _ _ _ _ _ => rfl) (by rfl) fun L h1 hL S R1 => ?_
  subst hL
  have hR := R1.handled
  obtain ⟨k1, hk1, sH⟩ := sH
  obtain ⟨k2, hk2, sU⟩ := sU
  -- behind the first if
  have rest : ∀ m h2, m "h" = some (.ref aH) → m "u" = some (.ref aU) → m "row" = some (.int (row : Int) tr) → m "column" = some (.int (col : Int) tc) →
      Ses h0 h (Dn (fun b => b = aH ∨ b = aU) h) (envF "reduce_above" (scopeN 6) h.objs.size (fa 6) (cd 6)) m (fun h => ∃ rH rU, Two h0.objs.size aH aU rH rU mm n mm nu (negM (decide (H row col < 0)) H row) (negM (decide (H row col < 0)) U row) h) h2 →
      Tr prog w (A.deeper (envF "reduce_above" (scopeN 6) h.objs.size (fa 6) (cd 6))) (execs ((bodyN 6).drop 1) (envF "reduce_above" (scopeN 6) h.objs.size (fa 6) (cd 6))) h2 (fun fl h2 => Q (retOf fl) h2) := by
    intro m h2 n1 n2 n3 n4 S
    have hne' : negM (decide (H row col < 0)) H row row col ≠ 0 := by
      unfold negM
      split
      · simpa [setRow] using hne
      · exact hne
    have sH' := negM_size (b := decide (H row col < 0)) (row := row) sH
    have sU' := negM_size (b := decide (H row col < 0)) (row := row) sU
    revert hne' sH' sU' S q
    generalize negM (decide (H row col < 0)) H row = H1
    generalize negM (decide (H row col < 0)) U row = U1
    intro q S hne' sH' sU'
    have sq := quo_size sH' hcol hne'
    refine T_cons <| T_for <| T_call <| T_glo S G.nm.range <| T_cwT <| T_sp <| T_cel S n3 <| T_sp0 <| T_range1 S fun r h3 _ _ _ S2 hr => ?_
    refine T_iterRange S2 hr (by solve_by_elim (maxDepth := 3) only [*, Nat.le_of_lt, Nat.lt_of_lt_of_le, Nat.lt_of_le_of_lt, Nat.le_trans, Nat.pos_of_ne_zero, Nat.ne_of_gt, Nat.le_refl, Nat.lt_trans, Nat.succ_ne_zero, Nat.le_add_right, Nat.ne_of_lt, Ne.symm, Nat.succ_le_of_lt, Nat.lt_irrefl, absurd]) (by solve_by_elim (maxDepth := 3) only [*, Nat.le_of_lt, Nat.lt_of_lt_of_le, Nat.lt_of_le_of_lt, Nat.le_trans, Nat.pos_of_ne_zero, Nat.ne_of_gt, Nat.le_refl, Nat.lt_trans, Nat.succ_ne_zero, Nat.le_add_right, Nat.ne_of_lt, Ne.symm, Nat.succ_le_of_lt, Nat.lt_irrefl, absurd]) (by solve_by_elim (maxDepth := 3) only [*, Nat.le_of_lt, Nat.lt_of_lt_of_le, Nat.lt_of_le_of_lt, Nat.le_trans, Nat.pos_of_ne_zero, Nat.ne_of_gt, Nat.le_refl, Nat.lt_trans, Nat.succ_ne_zero, Nat.le_add_right, Nat.ne_of_lt, Ne.symm, Nat.succ_le_of_lt, Nat.lt_irrefl, absurd]) (by lia) fun I h4 S3 hI0 hIge hI => ?_
    have e0 : ((row : Int) - 0).toNat = row := by solve_by_elim (maxDepth := 3) only [*, Nat.le_of_lt, Nat.lt_of_lt_of_le, Nat.lt_of_le_of_lt, Nat.le_trans, Nat.pos_of_ne_zero, Nat.ne_of_gt, Nat.le_refl, Nat.lt_trans, Nat.succ_ne_zero, Nat.le_add_right, Nat.ne_of_lt, Ne.symm, Nat.succ_le_of_lt, Nat.lt_irrefl, absurd]
    rw [e0] at hI
    refine T_forD (n := row) (drawRange (a := 0) hR asgL (new_none S2 hIge)) S3 (by simpa using hI)
      (fun i m hh => (m "h" = some (.ref aH) ∧ m "u" = some (.ref aU) ∧ m "row" = some (.int (row : Int) tr) ∧ m "column" = some (.int (col : Int) tc)) ∧ ∃ rH rU, Two h0.objs.size aH aU rH rU mm n mm nu (redM H1 (quoM H1 row col) row i) (redM U1 (quoM H1 row col) row i) hh)
      (fun i m => Stable.const.and (Stable.ex fun _ => Stable.ex fun _ => Stable.two)) (fun _ _ _ _ => trivial) ?_ (fun i m m' hi hlt hu Si jn => ?_) (fun m hf Sf => ?_)
    · obtain ⟨r1, r2, T⟩ := S3.dat
      exact ⟨⟨n1, n2, n3, n4⟩, r1, r2, by rw [redM_zero, redM_zero]; exact T⟩
    · obtain ⟨t, rfl⟩ := hu
      obtain ⟨⟨n1, n2, n3, n4⟩, r1, r2, T⟩ := Si.dat
      have S := Si.with Stable.two T
      have ei : ((0 : Int) + (i : Int)) = (i : Int) := by simp +arith only [*]
      rw [ei] at S
      refine T_cons <| T_asName <| T_bin <| T_sub <| T_sub <| T_loc S (un n1) <| T_loc S upd_same <| T_itemR S.dat.x.outer rfl (by lia) (by exact Nat.le_trans (by assumption) (by decide)) <| T_loc S (un n4) <| T_itemI (S.dat.x.row i (by omega)) rfl hcol (by exact Nat.le_trans (by assumption) (by decide)) fun _ =>
        T_sub <| T_sub <| T_loc S (un n1) <| T_cel S (un n3) <| T_itemR S.dat.x.outer rfl hrow (by exact Nat.le_trans (by assumption) (by decide)) <| T_loc S (un n4) <| T_itemI (S.dat.x.row row hrow) rfl hcol (by exact Nat.le_trans (by assumption) (by decide)) fun _ => ?_
      rw [redM_at (Nat.le_refl i), redM_at (Nat.le_of_lt hlt)]
      refine T_fdiv S R1 G.nolimit G.noseer G.tree hne' fun _ => T_st S asgC fun h5 S => ?_
      refine T_cons <| T_forPairC (v1 := .ref aH) (v2 := .ref aU) hR S asgC (fun Q' q => T_loc S (un <| un n1) q) (fun Q' q => T_loc S (un <| un n2) q)
        (fun hh => ∃ r1, Two h0.objs.size aH aU r1 r2 mm n mm nu (redM H1 (quoM H1 row col) row (i + 1)) (redM U1 (quoM H1 row col) row i) hh)
        (fun hh => ∃ r1 r2, Two h0.objs.size aH aU r1 r2 mm n mm nu (redM H1 (quoM H1 row col) row (i + 1)) (redM U1 (quoM H1 row col) row (i + 1)) hh)
        (Stable.ex fun _ => Stable.two) (Stable.ex fun _ => Stable.ex fun _ => Stable.two) (fun h8 hz8 S => ?_) (fun h8 hz8 S => ?_) (fun h8 S => T_nil ?_)
      · refine T_cons <| T_asSub <| T_enumComp (r := r1 i) (n := n) (g := redM H1 (quoM H1 row col) row i i) (fun c => redM H1 (quoM H1 row col) row i i c - quoM H1 row col i * redM H1 (quoM H1 row col) row i row c) S hR G.nm (fun h M => M.x.row i (by lia)) (by exact Nat.le_trans (by assumption) (by decide))
          (fun D' Q' Si q => T_sub <| T_cel Si upd_same <| T_loc Si (un <| un upd_same) <| T_itemR Si.dat.x.outer rfl (by omega) (by exact Nat.le_trans (by assumption) (by decide)) q) (fun C c mi t0 t1 hi' hc hf X => ?_) (fun acc h6 hacc S6 => ?_)
        · refine T_bin <| T_loc X upd_same <| T_bin <| T_cel X ((hf "many" rfl).trans (un upd_same)) <| T_sub <| T_sub <| T_cel X ((hf "a" rfl).trans upd_same) <| T_cel X ((hf "row" rfl).trans (un <| un <| un n3)) <| T_itemR X.dat.x.outer rfl hrow (by exact Nat.le_trans (by assumption) (by decide)) <|
            T_loc X (un upd_same) <| T_itemI (X.dat.x.row row hrow) rfl hc (by exact Nat.le_trans (by assumption) (by decide)) fun _ => T_mul ?_ fun _ => T_subi fun _ => ⟨rfl, _, rfl⟩
          rw [redM_at (Nat.le_of_lt hlt)]
          exact mulOk (sq i (by lia)) (sH' row c hrow hc) (by lia)
        · refine T_cel S6 upd_same <| T_loc S6 (un <| un upd_same) <| T_putTwo S6 S6.dat.1 S6.dat.2 S.dat hacc rfl (by omega) (by exact Nat.le_trans (by assumption) (by decide)) (.inl (.inl rfl)) fun ra' h7 _ S7 => T_nil ⟨rfl, S7.with (Stable.ex fun _ => Stable.two) ⟨ra', ?_⟩⟩
          rw [← redM_succ _ _ hlt]; exact S7.dat
      · obtain ⟨r1', T⟩ := S.dat
        have S := S.with Stable.two T.swap
        refine T_cons <| T_asSub <| T_enumComp (r := r2 i) (n := nu) (g := redM U1 (quoM H1 row col) row i i) (fun c => redM U1 (quoM H1 row col) row i i c - quoM H1 row col i * redM U1 (quoM H1 row col) row i row c) S hR G.nm (fun h M => M.x.row i (by omega)) (by exact Nat.le_trans (by assumption) (by decide))
          (fun D' Q' Si q => T_sub <| T_cel Si upd_same <| T_loc Si (un <| un upd_same) <| T_itemR Si.dat.x.outer rfl (by omega) (by exact Nat.le_trans (by assumption) (by decide)) q) (fun C c mi t0 t1 hi' hc hf X => ?_) (fun acc h6 hacc S6 => ?_)
        · refine T_bin <| T_loc X upd_same <| T_bin <| T_cel X ((hf "many" rfl).trans (un upd_same)) <| T_sub <| T_sub <| T_cel X ((hf "a" rfl).trans upd_same) <| T_cel X ((hf "row" rfl).trans (un <| un <| un n3)) <| T_itemR X.dat.x.outer rfl hrow (by exact Nat.le_trans (by assumption) (by decide)) <|
            T_loc X (un upd_same) <| T_itemI (X.dat.x.row row hrow) rfl hc (by exact Nat.le_trans (by assumption) (by decide)) fun _ => T_mul ?_ fun _ => T_subi fun _ => ⟨rfl, _, rfl⟩
          rw [redM_at (Nat.le_of_lt hlt)]
          exact mulOk (sq i (by omega)) (sU' row c hrow hc) (by lia)
        · refine T_cel S6 upd_same <| T_loc S6 (un <| un upd_same) <| T_putTwo S6 S6.dat.1 S6.dat.2 S.dat hacc rfl (by omega) (by exact Nat.le_trans (by assumption) (by decide)) (.inl (.inr rfl)) fun ra' h7 _ S7 => T_nil ⟨rfl, S7.with (Stable.ex fun _ => Stable.ex fun _ => Stable.two) ⟨r1', ra', ?_⟩⟩
          have := S7.dat.swap
          rw [redM_succ _ _ hlt] at this; exact this
      · exact ⟨_, S.with (Stable.const.and (Stable.ex fun _ => Stable.ex fun _ => Stable.two)) ⟨⟨un <| un <| un n1, un <| un <| un n2, un <| un <| un n3, un <| un <| un n4⟩, S.dat⟩⟩
    · obtain ⟨_, r1, r2, T⟩ := Sf.dat
      exact T_nil (q _ _ _ Sf.back T)
  refine T_cons <| T_if <| T_tcmp <| T_sub <| T_sub <| T_loc S rfl <| T_cel S rfl <| T_itemR S.dat.x.outer rfl hrow (by exact Nat.le_trans (by assumption) (by decide)) <| T_loc S rfl <| T_itemI (S.dat.x.row _ hrow) rfl hcol (by exact Nat.le_trans (by assumption) (by decide)) fun _ => T_int fun _ => T_lt <| T_truthyB ?_
  by_cases hz : H row col < 0
  · rw [if_pos (by simpa using hz)]
    refine T_cons <| T_forPairC (v1 := .ref aH) (v2 := .ref aU) hR S asgC (fun Q' q => T_loc S rfl q) (fun Q' q => T_loc S rfl q)
        (fun hh => ∃ r1, Two h0.objs.size aH aU r1 rU mm n mm nu (setRow H row (fun c => -(H row c))) U hh)
        (fun hh => ∃ r1 r2, Two h0.objs.size aH aU r1 r2 mm n mm nu (setRow H row (fun c => -(H row c))) (setRow U row (fun c => -(U row c))) hh)
        (Stable.ex fun _ => Stable.two) (Stable.ex fun _ => Stable.ex fun _ => Stable.two) (fun h8 hz8 S => ?_) (fun h8 hz8 S => ?_) (fun h8 S => T_nil ?_)
    · refine T_cons <| T_asSub <| T_intComp (r := rH row) (n := n) (g := H row) (fun c => -(H row c)) S hR (fun h M => M.x.row row hrow) (by exact Nat.le_trans (by assumption) (by decide))
          (fun D' Q' Si q => T_sub <| T_cel Si upd_same <| T_cel Si (un rfl) <| T_itemR Si.dat.x.outer rfl hrow (by exact Nat.le_trans (by assumption) (by decide)) q) (fun C c mi t1 hi' hc hf X => T_un <| T_loc X upd_same <| T_neg fun _ => ⟨rfl, _, rfl⟩) (fun acc h6 hacc S6 => ?_)
      exact T_cel S6 upd_same <| T_cel S6 (un rfl) <| T_putTwo S6 S6.dat.1 S6.dat.2 S.dat hacc rfl hrow (by exact Nat.le_trans (by assumption) (by decide)) (.inl (.inl rfl)) fun ra' h7 _ S7 => T_nil ⟨rfl, S7.with (Stable.ex fun _ => Stable.two) ⟨ra', S7.dat⟩⟩
    · obtain ⟨r1', T⟩ := S.dat
      have S := S.with Stable.two T.swap
      refine T_cons <| T_asSub <| T_intComp (r := rU row) (n := nu) (g := U row) (fun c => -(U row c)) S hR (fun h M => M.x.row row hrow) (by exact Nat.le_trans (by assumption) (by decide))
          (fun D' Q' Si q => T_sub <| T_cel Si upd_same <| T_cel Si (un rfl) <| T_itemR Si.dat.x.outer rfl hrow (by exact Nat.le_trans (by assumption) (by decide)) q) (fun C c mi t1 hi' hc hf X => T_un <| T_loc X upd_same <| T_neg fun _ => ⟨rfl, _, rfl⟩) (fun acc h6 hacc S6 => ?_)
      exact T_cel S6 upd_same <| T_cel S6 (un rfl) <| T_putTwo S6 S6.dat.1 S6.dat.2 S.dat hacc rfl hrow (by exact Nat.le_trans (by assumption) (by decide)) (.inl (.inr rfl)) fun ra' h7 _ S7 => T_nil ⟨rfl, S7.with (Stable.ex fun _ => Stable.ex fun _ => Stable.two) ⟨r1', ra', S7.dat.swap⟩⟩
    · refine rest _ _ (un rfl) (un rfl) (un rfl) (un rfl) (S.with (Stable.ex fun _ => Stable.ex fun _ => Stable.two) ?_)
      obtain ⟨r1, r2, T⟩ := S.dat
      refine ⟨r1, r2, ?_⟩
      simp only [negM, decide_eq_true hz, if_true]
      exact T
  · rw [if_neg (by simpa using hz)]
    refine T_nil (rest _ _ rfl rfl rfl rfl (S.with (Stable.ex fun _ => Stable.ex fun _ => Stable.two) ⟨rH, rU, ?_⟩))
    simp only [negM, decide_eq_false hz, Bool.false_eq_true, if_false]
    exact S.dat
end
end Mine
namespace Mine
section
variable {prog : Program} {w : World} {h0 : Heap} {fa : Nat → Addr} {cd : Nat → Value}
/-- what hermite_form holds between two turns -/
structure HFst (h0 hc : Heap) (aH aU : Addr) (mm n : Nat) (c : Nat) (H0 : Nat → Nat → Int) (h : Heap) (row : Nat) (H U : Nat → Nat → Int) (rH rU : Nat → Addr) : Prop where
  two : Two h0.objs.size aH aU rH rU mm n mm mm H U h
  hf : HF mm H0 unitM c row H U
  geH : hc.objs.size ≤ aH
  geU : hc.objs.size ≤ aU
theorem Stable.hfst {h0 hc aH aU mm n c H0 row H U rH rU} : Stable (fun h => HFst h0 hc aH aU mm n c H0 h row H U rH rU) := fun h h' x k => { x with two := Stable.two h h' x.two k }
theorem unitM_size (n : Nat) : ∀ i j, i < n → j < n → (unitM i j).natAbs ≤ 2 ^ 0 := by
  intro i j _ _; unfold unitM; split <;> decide
set_option maxHeartbeats 4000000 in
theorem hermite_walk {A : Around} {k : Nat} {h : Heap} {a : Addr} {rows : Nat → Addr} {mm n K : Nat} {B : Nat → Nat → Int} {tn : Tok} {Q : Value → Heap → Prop} (G : Gr prog h0 fa cd)
    (R : Rm A (k + 3)) (hb : ∀ b o, h0.get? b = some o → h.get? b = some o) (hsz : h0.objs.size ≤ h.objs.size) (M : RefRow h a mm rows ∧ ∀ i, i < mm → IntRow h (rows i) n (B i))
    (hm : mm ≤ 100) (hn : n ≤ 100) (sB : Sz K mm n B) (hK : K * 2 ^ (mm * n) ≤ 30000000) (hK4 : 4 ≤ K)
    (q : ∀ p h' aH aU rH H, Ext (fun _ => False) h h' → h'.IsTuple p #[.ref aH, .ref aU] → Mat h0.objs.size h' aH rH mm n H → HEnd mm n B unitM H → Q (.ref p) h') :
    Tr prog w A (call (.ref (fa 7)) [.ref a, .int (n : Int) tn]) h Q := by
  refine T_fn (P := fun h => RefRow h a mm rows ∧ ∀ i, i < mm → IntRow h (rows i) n (B i)) G.hermite_form hb hsz G.nolimit R (fun _ => False) (fun _ f => f.elim)
    ((Stable.refRow _ _ _).and (Stable.all fun _ => Stable.imp (Stable.intRow _ _ _))) M (binds := [("a", .ref a), ("width", .int (n : Int) tn)]) (fun _ _ _ _ _ => rfl) (by rfl) fun L h1 hL S R1 => ?_
  subst hL
  have hR := R1.handled
  obtain ⟨oU, fU, kU⟩ := fnAtOf G.unit_rows
  obtain ⟨oC, fC, kC⟩ := fnAtOf G.clear_below
  obtain ⟨oE, fE, kE⟩ := fnAtOf G.reduce_above
  refine T_cons <| T_asSwap (names := ["h", "u"]) <| T_tup <| T_sp <| T_copyComp (a := a) (rows := rows) (mm := mm) (n := n) (B := B) S hR G.nm (fun _ q => q) (by exact Nat.le_trans (by assumption) (by decide)) (by exact Nat.le_trans (by assumption) (by decide)) (fun D' Q' Si q => T_loc Si rfl q) fun aH rH h2 hge hgr S2 => ?_
  have geH : h.objs.size ≤ aH := Nat.le_trans S.ext.size hge
  refine T_sp <| T_call <| T_glo S2 G.nm.unit_rows <| T_cwF <| T_sp <| T_call <| T_glo S2 G.nm.len <| T_cwB <| T_sp <| T_loc S2 rfl <| T_sp0 <| T_lenR S2.dat.1.1 (by exact Nat.le_trans (by assumption) (by decide)) fun t1 => T_sp0 ⟨kU _ S2.base, ?_⟩
  refine unit_rows_walk G R1 S2.base S2.gsz (by exact Nat.le_trans (by assumption) (by decide)) fun aU rU h3 e3 geU MU hrU => ?_
  have hz2 := S2.ext.size
  have geU' : h.objs.size ≤ aU := Nat.le_trans hz2 geU
  have S3 := (S2.after0 e3).with (Stable.two (N := h0.objs.size) (a := aH) (b := aU) (ra := rH) (rb := rU) (ma := mm) (na := n) (mb := mm) (nb := mm) (A := B) (B := unitM))
    ⟨S2.dat.2.ext e3 (fun _ _ f => f), MU, fun x hx1 hx => by
      have hlt : x < h2.objs.size := S2.dat.2.foot_lt hx1
      rcases hx with e | ⟨i, hi, e⟩
      · have : h2.objs.size ≤ aU := geU
        exact Nat.lt_irrefl _ (Nat.lt_of_lt_of_le hlt (e ▸ this))
      · have : h2.objs.size ≤ rU i := hrU i hi
        exact Nat.lt_irrefl _ (Nat.lt_of_lt_of_le hlt (e ▸ this))⟩
  refine T_sp0 <| T_newTuple S3 fun p h4 _ S => T_unpackItems hR S S.dat.2 rfl fun h5 S _ => ?_
  refine T_ao <| T_bindName <| T_st S asgL fun h6 S => T_ao <| T_bindName <| T_st S asgL fun h7 S => T_ao0 ?_
  have S := S.with (Stable.hfst (h0 := h0) (hc := h) (c := 0) (H0 := B) (row := 0)) ⟨S.dat.1, .nil, geH, geU'⟩
  refine T_cons <| T_asName <| T_int fun t0 => T_st S asgL fun h8 S => ?_
  -- the end
  have rest : ∀ c m h2 row rH rU H U, (c = n ∨ row = mm) → c ≤ n → row ≤ mm → m "h" = some (.ref aH) → m "u" = some (.ref aU) →
      Ses h0 h (Dn (fun _ => False) h) (envF "hermite_form" (scopeN 7) h.objs.size (fa 7) (cd 7)) m (fun hh => HFst h0 h aH aU mm n c B hh row H U rH rU) h2 →
      Tr prog w (A.deeper (envF "hermite_form" (scopeN 7) h.objs.size (fa 7) (cd 7))) (execs ((bodyN 7).drop 3) (envF "hermite_form" (scopeN 7) h.objs.size (fa 7) (cd 7))) h2 (fun fl h2 => Q (retOf fl) h2) := by
    intro c m h2 row rH rU H U hor hc hr n1 n2 S
    refine T_cons <| T_ret <| T_tup <| T_sp <| T_loc S n1 <| T_sp <| T_loc S n2 <| T_sp0 <| T_newTuple S fun p h' _ S' => ?_
    exact q p h' aH aU rH H S'.back S'.dat.2 S'.dat.1.two.x ⟨c, row, U, S'.dat.1.hf, hc, hr, hor⟩
  refine T_cons <| T_for <| T_call <| T_glo S G.nm.range <| T_cwT <| T_sp <| T_loc S rfl <| T_sp0 <| T_range1 S fun r h9 _ _ _ S2 hr => ?_
  refine T_iterRange S2 hr (by decide) (by decide) (by lia) (by lia) fun I h10 S3 hI0 hIge hI => ?_
  have e0 : ((n : Int) - 0).toNat = n := by lia
  rw [e0] at hI
  refine T_forD (n := n) (drawRange (a := 0) hR asgL (new_none S2 hIge)) S3 (by simpa using hI)
    (fun i m hh => (m "h" = some (.ref aH) ∧ m "u" = some (.ref aU)) ∧ ∃ row : Nat, ∃ H U rH rU, (∃ t, m "row" = some (.int (row : Int) t)) ∧ HFst h0 h aH aU mm n i B hh row H U rH rU)
    (fun i m => Stable.const.and (Stable.ex fun _ => Stable.ex fun _ => Stable.ex fun _ => Stable.ex fun _ => Stable.ex fun _ => Stable.const.and Stable.hfst)) (fun _ _ _ _ => trivial) ?_ (fun i m m' hi hlt hu Si jn => ?_) (fun m hf Sf => ?_)
  · exact ⟨⟨rfl, rfl⟩, 0, B, unitM, rH, rU, ⟨_, rfl⟩, S3.dat⟩
  · obtain ⟨t, rfl⟩ := hu
    obtain ⟨⟨n1, n2⟩, row, H, U, rH, rU, ⟨tr, n3⟩, F⟩ := Si.dat
    have S := Si.with Stable.hfst F
    obtain ⟨hrow, sH, sU⟩ := F.hf.size (n := n) (nu := mm) (by solve_by_elim (maxDepth := 3) only [*, Nat.le_of_lt, Nat.lt_of_lt_of_le, Nat.lt_of_le_of_lt, Nat.le_trans, Nat.pos_of_ne_zero, Nat.ne_of_gt, Nat.le_refl, Nat.lt_trans, Nat.succ_ne_zero, Nat.le_add_right, Nat.ne_of_lt, Ne.symm, Nat.succ_le_of_lt, Nat.lt_irrefl, absurd]) sB ⟨0, by omega, unitM_size mm⟩
    have hmul : K * 2 ^ (mm * i) * 2 ^ (mm - (row + 1)) ≤ 30000000 := by
      refine Nat.le_trans ?_ hK
      rw [Nat.mul_assoc, ← Nat.pow_add]
      refine Nat.mul_le_mul_left _ (pow_le ?_)
      have : mm * (i + 1) ≤ mm * n := Nat.mul_le_mul_left _ hlt
      rw [Nat.mul_succ] at this
      lia
    have ei : ((0 : Int) + (i : Int)) = (i : Int) := by simp +arith only [*]
    rw [ei] at S
    refine T_cons <| T_if <| T_tcmp <| T_loc S (un n3) <| T_call <| T_glo S G.nm.len <| T_cwB <| T_sp <| T_loc S (un n1) <| T_sp0 <| T_lenR S.dat.two.x.outer (by exact Nat.le_trans (by assumption) (by decide)) fun _ => T_eq <| T_truthyB ?_
    by_cases hz : row = mm
    · rw [if_pos (by simpa using (by (simp +arith only [*]) : (row : Int) = (mm : Int)))]
      refine T_cons <| T_brk ?_
      have S := jn _ _ _ Si
      rw [ei] at S
      exact rest i _ _ row rH rU H U (.inr hz) (by solve_by_elim (maxDepth := 3) only [*, Nat.le_of_lt, Nat.lt_of_lt_of_le, Nat.lt_of_le_of_lt, Nat.le_trans, Nat.pos_of_ne_zero, Nat.ne_of_gt, Nat.le_refl, Nat.lt_trans, Nat.succ_ne_zero, Nat.le_add_right, Nat.ne_of_lt, Ne.symm, Nat.succ_le_of_lt, Nat.lt_irrefl, absurd]) (by omega) (un n1) (un n2) (S.with Stable.hfst F)
    · rw [if_neg (by simpa using (by lia : ¬ (row : Int) = (mm : Int)))]
      have hlt2 : row < mm := by lia
      refine T_nil ?_
      refine T_cons <| T_expr <| T_call <| T_glo S G.nm.clear_below <| T_cwF <| T_sp <| T_loc S (un n1) <| T_sp <| T_loc S (un n2) <| T_sp <| T_loc S (un n3) <| T_sp <| T_loc S upd_same <| T_sp0 ⟨kC _ S.base, ?_⟩
      refine clear_below_walk G R1 S.base S.gsz S.dat.two.x S.dat.two.y S.dat.two.dj hm hn hm hlt2 hlt sH sU hmul fun rH' rU' H' U' h' e' C => ?_
      have hCB := C.cb
      have S := S.after e' (fun b e => .inr (e.elim (fun e => e ▸ geH) fun e => e ▸ geU')) (fun b e => e.elim (fun e => e ▸ S.dat.two.x.outer.isList) fun e => e ▸ S.dat.two.y.outer.isList) (Stable.two (N := h0.objs.size)) ⟨C.mH, C.mU, C.dj⟩
      obtain ⟨hle, sH', sU'⟩ := hCB.size hlt2 hlt (Nat.le_refl _) sH sU
      refine T_cons <| T_if <| T_tcmp <| T_sub <| T_sub <| T_loc S (un n1) <| T_loc S (un n3) <| T_itemR S.dat.x.outer rfl hlt2 (by exact Nat.le_trans (by assumption) (by decide)) <| T_loc S upd_same <| T_itemI (S.dat.x.row _ hlt2) rfl hlt (by exact Nat.le_trans (by assumption) (by decide)) fun _ => T_int fun _ => T_ne <| T_truthyB ?_
      by_cases hz : H' row i = 0
      · rw [if_neg (by simpa using hz)]
        exact T_nil (T_nil ⟨_, S.with (Stable.const.and (Stable.ex fun _ => Stable.ex fun _ => Stable.ex fun _ => Stable.ex fun _ => Stable.ex fun _ => Stable.const.and Stable.hfst))
          ⟨⟨un n1, un n2⟩, row, H', U', rH', rU', ⟨_, un n3⟩, S.dat, F.hf.zero hlt2 hCB hz, geH, geU'⟩⟩)
      · rw [if_pos (by simpa using hz)]
        refine T_cons <| T_expr <| T_call <| T_glo S G.nm.reduce_above <| T_cwF <| T_sp <| T_loc S (un n1) <| T_sp <| T_loc S (un n2) <| T_sp <| T_loc S (un n3) <| T_sp <| T_loc S upd_same <| T_sp0 ⟨kE _ S.base, ?_⟩
        refine reduce_above_walk G (R1.le (by solve_by_elim (maxDepth := 3) only [*, Nat.le_of_lt, Nat.lt_of_lt_of_le, Nat.lt_of_le_of_lt, Nat.le_trans, Nat.pos_of_ne_zero, Nat.ne_of_gt, Nat.le_refl, Nat.lt_trans, Nat.succ_ne_zero, Nat.le_add_right, Nat.ne_of_lt, Ne.symm, Nat.succ_le_of_lt, Nat.lt_irrefl, absurd]) : Rm _ (k + 1)) S.base S.gsz S.dat hm hn hm hlt2 hlt sH' sU' hmul hz fun rH2 rU2 h'' e'' T2 => ?_
        have S := S.after e'' (fun b e => .inr (e.elim (fun e => e ▸ geH) fun e => e ▸ geU')) (fun b e => e.elim (fun e => e ▸ S.dat.x.outer.isList) fun e => e ▸ S.dat.y.outer.isList) (Stable.two (N := h0.objs.size)) T2
        refine T_cons <| T_asName <| T_bin <| T_loc S (un n3) <| T_int fun _ => T_add fun ta => T_st S asgL fun h9 S => T_nil (T_nil ⟨_, S.with (Stable.const.and (Stable.ex fun _ => Stable.ex fun _ => Stable.ex fun _ => Stable.ex fun _ => Stable.ex fun _ => Stable.const.and Stable.hfst))
          ⟨⟨un (un n1), un (un n2)⟩, row + 1, _, _, rH2, rU2, ⟨ta, upd_same⟩, S.dat, F.hf.step hlt2 hCB hz, geH, geU'⟩⟩)
  · obtain ⟨⟨n1, n2⟩, row, H, U, rH, rU, ⟨tr, n3⟩, F⟩ := Sf.dat
    obtain ⟨hrow, _, _⟩ := F.hf.size (n := n) (nu := mm) (Nat.le_refl _) sB ⟨0, by omega, unitM_size mm⟩
    exact rest n m _ row rH rU H U (.inl rfl) (Nat.le_refl _) hrow n1 n2 (Sf.with Stable.hfst F)
end
end Mine
namespace Mine
section
variable {prog : Program} {w : World} {h0 : Heap} {fa : Nat → Addr} {cd : Nat → Value}
noncomputable def IsSpot (f : Option (Nat × Nat)) (v : Value) (h : Heap) : Prop := match f with
  | none => v = .none
  | some (p, q) => ∃ a t u, v = .ref a ∧ h.IsTuple a #[.int (p : Int) t, .int (q : Int) u]
theorem Stable.isSpot {f v} : Stable (IsSpot f v) := by
  match f with
  | none => exact Stable.const
  | some (p, q) => exact Stable.ex fun _ => Stable.ex fun _ => Stable.ex fun _ => Stable.const.and (Stable.tuple _ _)
set_option maxHeartbeats 4000000 in
theorem least_spot_walk {A : Around} {k : Nat} {h : Heap} {a : Addr} {rows : Nat → Addr} {mm n step : Nat} {B : Nat → Nat → Int} {ts tn : Tok} {Q : Value → Heap → Prop} (G : Gr prog h0 fa cd)
    (R : Rm A (k + 1)) (hb : ∀ b o, h0.get? b = some o → h.get? b = some o) (hsz : h0.objs.size ≤ h.objs.size) (M : Mat h0.objs.size h a rows mm n B)
    (hm : mm ≤ 100) (hn : n ≤ 100) (hs1 : step ≤ mm) (hs2 : step ≤ n)
    (q : ∀ f v h', Ext (fun _ => False) h h' → IsSpot f v h' → LS B step n mm step f → Q v h') :
    Tr prog w A (call (.ref (fa 8)) [.ref a, .int (step : Int) ts, .int (n : Int) tn]) h Q := by
  refine T_fn (P := fun h => Mat h0.objs.size h a rows mm n B) G.least_spot hb hsz G.nolimit R (fun _ => False) (fun _ f => f.elim) (Stable.mat _ _ _ _ _ _) M
    (binds := [("a", .ref a), ("step", .int (step : Int) ts), ("width", .int (n : Int) tn)]) (fun _ _ _ _ _ => rfl) (by rfl) fun L h1 hL S R1 => ?_
  subst hL
  have hR := R1.handled
  refine T_cons <| T_asName <| T_none <| T_st S asgL fun h2 S => ?_
  refine T_cons <| T_for <| T_call <| T_glo S G.nm.range <| T_cwT <| T_sp <| T_loc S rfl <| T_sp <| T_call <| T_glo S G.nm.len <| T_cwB <| T_sp <| T_loc S rfl <| T_sp0 <| T_lenR S.dat.outer (by exact Nat.le_trans (by assumption) (by decide)) fun _ => T_sp0 <| T_range2 S fun r h9 _ _ _ S2 hr => ?_
  refine T_iterRange S2 hr (by solve_by_elim (maxDepth := 3) only [*, Nat.le_of_lt, Nat.lt_of_lt_of_le, Nat.lt_of_le_of_lt, Nat.le_trans, Nat.pos_of_ne_zero, Nat.ne_of_gt, Nat.le_refl, Nat.lt_trans, Nat.succ_ne_zero, Nat.le_add_right, Nat.ne_of_lt, Ne.symm, Nat.succ_le_of_lt, Nat.lt_irrefl, absurd]) (by lia) (by solve_by_elim (maxDepth := 3) only [*, Nat.le_of_lt, Nat.lt_of_lt_of_le, Nat.lt_of_le_of_lt, Nat.le_trans, Nat.pos_of_ne_zero, Nat.ne_of_gt, Nat.le_refl, Nat.lt_trans, Nat.succ_ne_zero, Nat.le_add_right, Nat.ne_of_lt, Ne.symm, Nat.succ_le_of_lt, Nat.lt_irrefl, absurd]) (by lia) fun I h10 S3 hI0 hIge hI => ?_
  have e0 : ((mm : Int) - (step : Int)).toNat = mm - step := by lia
  rw [e0] at hI
  refine T_forD (n := mm - step) (drawRange (a := (step : Int)) hR asgL (new_none S2 hIge)) S3 (by simpa using hI)
    (fun i m hh => (m "a" = some (.ref a) ∧ m "step" = some (.int (step : Int) ts) ∧ m "width" = some (.int (n : Int) tn)) ∧ ∃ f v, m "found" = some v ∧ LS B step n (step + i) step f ∧ IsSpot f v hh ∧ Mat h0.objs.size hh a rows mm n B)
    (fun i m => Stable.const.and (Stable.ex fun _ => Stable.ex fun _ => Stable.const.and (Stable.const.and (Stable.isSpot.and (Stable.mat _ _ _ _ _ _))))) (fun _ _ _ _ => trivial) ?_ (fun i m m' hi hlt hu Si jn => ?_) (fun m hf Sf => ?_)
  · exact ⟨⟨rfl, rfl, rfl⟩, none, .none, rfl, LS.start B step n, rfl, S3.dat⟩
  · obtain ⟨t, rfl⟩ := hu
    obtain ⟨⟨n1, n2, n3⟩, f, v, n4, hLS, hsp, hM⟩ := Si.dat
    have S := Si.with (Stable.isSpot.and (Stable.mat _ _ _ _ _ _)) ⟨hsp, hM⟩
    have ei : ((step : Int) + (i : Int)) = ((step + i : Nat) : Int) := by solve_by_elim (maxDepth := 3) only [*, Nat.le_of_lt, Nat.lt_of_lt_of_le, Nat.lt_of_le_of_lt, Nat.le_trans, Nat.pos_of_ne_zero, Nat.ne_of_gt, Nat.le_refl, Nat.lt_trans, Nat.succ_ne_zero, Nat.le_add_right, Nat.ne_of_lt, Ne.symm, Nat.succ_le_of_lt, Nat.lt_irrefl, absurd]
    rw [ei] at S
    refine T_cons <| T_for <| T_call <| T_glo S G.nm.range <| T_cwT <| T_sp <| T_loc S (un n2) <| T_sp <| T_loc S (un n3) <| T_sp0 <| T_range2 S fun r h9 _ _ _ S2 hr => ?_
    refine T_iterRange S2 hr (by solve_by_elim (maxDepth := 3) only [*, Nat.le_of_lt, Nat.lt_of_lt_of_le, Nat.lt_of_le_of_lt, Nat.le_trans, Nat.pos_of_ne_zero, Nat.ne_of_gt, Nat.le_refl, Nat.lt_trans, Nat.succ_ne_zero, Nat.le_add_right, Nat.ne_of_lt, Ne.symm, Nat.succ_le_of_lt, Nat.lt_irrefl, absurd]) (by lia) (by solve_by_elim (maxDepth := 3) only [*, Nat.le_of_lt, Nat.lt_of_lt_of_le, Nat.lt_of_le_of_lt, Nat.le_trans, Nat.pos_of_ne_zero, Nat.ne_of_gt, Nat.le_refl, Nat.lt_trans, Nat.succ_ne_zero, Nat.le_add_right, Nat.ne_of_lt, Ne.symm, Nat.succ_le_of_lt, Nat.lt_irrefl, absurd]) (by lia) fun I h10 S3 hI0 hIge hI => ?_
    have e0 : ((n : Int) - (step : Int)).toNat = n - step := by lia
    rw [e0] at hI
    refine T_forD (n := n - step) (drawRange (a := (step : Int)) hR asgL (new_none S2 hIge)) S3 (by simpa using hI)
      (fun j m hh => (m "a" = some (.ref a) ∧ m "step" = some (.int (step : Int) ts) ∧ m "width" = some (.int (n : Int) tn) ∧ m "row" = some (.int ((step + i : Nat) : Int) t)) ∧ ∃ f v, m "found" = some v ∧ LS B step n (step + i) (step + j) f ∧ IsSpot f v hh ∧ Mat h0.objs.size hh a rows mm n B)
      (fun i m => Stable.const.and (Stable.ex fun _ => Stable.ex fun _ => Stable.const.and (Stable.const.and (Stable.isSpot.and (Stable.mat _ _ _ _ _ _))))) (fun _ _ _ _ => trivial) ?_ (fun j m m' hi hltj hu Sj jnj => ?_) (fun m hf Sf => ?_)
    · exact ⟨⟨un n1, un n2, un n3, upd_same⟩, f, v, un n4, hLS, S3.dat⟩
    · obtain ⟨tj, rfl⟩ := hu
      obtain ⟨⟨n1, n2, n3, n5⟩, f, v, n4, hLS, hsp, hM⟩ := Sj.dat
      have S := Sj.with (Stable.isSpot.and (Stable.mat _ _ _ _ _ _)) ⟨hsp, hM⟩
      have ej : ((step : Int) + (j : Int)) = ((step + j : Nat) : Int) := by solve_by_elim (maxDepth := 3) only [*, Nat.le_of_lt, Nat.lt_of_lt_of_le, Nat.lt_of_le_of_lt, Nat.le_trans, Nat.pos_of_ne_zero, Nat.ne_of_gt, Nat.le_refl, Nat.lt_trans, Nat.succ_ne_zero, Nat.le_add_right, Nat.ne_of_lt, Ne.symm, Nat.succ_le_of_lt, Nat.lt_irrefl, absurd]
      rw [ej] at S
      have hri : step + i < mm := by grind
      have hcj : step + j < n := by grind
      refine T_cons <| T_asName <| T_call <| T_glo S G.nm.abs <| T_cwB <| T_sp <| T_sub <| T_sub <| T_loc S (un n1) <| T_loc S (un n5) <| T_itemR S.dat.2.outer rfl hri (by exact Nat.le_trans (by assumption) (by decide)) <| T_loc S upd_same <| T_itemI (S.dat.2.row _ hri) rfl hcj (by exact Nat.le_trans (by assumption) (by decide)) fun _ => T_sp0 <| T_abs fun tz => ?_
      rw [absI]
      refine T_st S asgL fun h11 S => ?_
      have fin : ∀ m' f' v' hh, (m' "a" = some (.ref a) ∧ m' "step" = some (.int (step : Int) ts) ∧ m' "width" = some (.int (n : Int) tn) ∧ m' "row" = some (.int ((step + i : Nat) : Int) t)) → m' "found" = some v' → LS B step n (step + i) (step + (j + 1)) f' →
          Ses h0 hi (Dn (fun _ => False) h) (envF "least_spot" (scopeN 8) h.objs.size (fa 8) (cd 8)) m' (fun hh => IsSpot f' v' hh ∧ Mat h0.objs.size hh a rows mm n B) hh → ∃ m', Ses h0 hi (Dn (fun _ => False) h) (envF "least_spot" (scopeN 8) h.objs.size (fa 8) (cd 8)) m'
            (fun hh => (m' "a" = some (.ref a) ∧ m' "step" = some (.int (step : Int) ts) ∧ m' "width" = some (.int (n : Int) tn) ∧ m' "row" = some (.int ((step + i : Nat) : Int) t)) ∧ ∃ f v, m' "found" = some v ∧ LS B step n (step + i) (step + (j + 1)) f ∧ IsSpot f v hh ∧ Mat h0.objs.size hh a rows mm n B) hh :=
        fun m' f' v' hh a1 a2 a3 X => ⟨m', X.with (Stable.const.and (Stable.ex fun _ => Stable.ex fun _ => Stable.const.and (Stable.const.and (Stable.isSpot.and (Stable.mat _ _ _ _ _ _))))) ⟨a1, f', v', a2, a3, X.dat⟩⟩
      refine T_cons <| T_if <| T_tand <| T_tcmp <| T_loc S upd_same <| T_int fun _ => T_gt <| T_truthyB ?_
      by_cases hz : B (step + i) (step + j) = 0
      · rw [if_neg (by simp [hz]), if_neg (by simp)]
        exact T_nil <| T_nil <| fin _ f v _ ⟨un <| un n1, un <| un n2, un <| un n3, un <| un n5⟩ (un <| un n4) (hLS.keep (.inl hz)) S
      · rw [if_pos (by simp; omega)]
        match f, hsp, hLS, n4, S with
        | none, hsp, hLS, n4, S =>
          obtain rfl : v = .none := hsp
          refine T_tor <| T_tcmp <| T_loc S (un <| un n4) <| T_none <| T_isNoneN <| T_truthyB ?_
          rw [if_pos rfl, if_pos rfl]
          refine T_cons <| T_asName <| T_tup <| T_sp <| T_loc S (un <| un n5) <| T_sp <| T_loc S (un upd_same) <| T_sp0 <| T_newTuple S fun p1 h12 _ S => T_st S asgL fun h13 S => ?_
          exact T_nil <| T_nil <| fin _ (some (step + i, step + j)) _ _ ⟨un <| un <| un n1, un <| un <| un n2, un <| un <| un n3, un <| un <| un n5⟩ upd_same (hLS.new (by solve_by_elim (maxDepth := 3) only [*, Nat.le_of_lt, Nat.lt_of_lt_of_le, Nat.lt_of_le_of_lt, Nat.le_trans, Nat.pos_of_ne_zero, Nat.ne_of_gt, Nat.le_refl, Nat.lt_trans, Nat.succ_ne_zero, Nat.le_add_right, Nat.ne_of_lt, Ne.symm, Nat.succ_le_of_lt, Nat.lt_irrefl, absurd]) (by solve_by_elim (maxDepth := 3) only [*, Nat.le_of_lt, Nat.lt_of_lt_of_le, Nat.lt_of_le_of_lt, Nat.le_trans, Nat.pos_of_ne_zero, Nat.ne_of_gt, Nat.le_refl, Nat.lt_trans, Nat.succ_ne_zero, Nat.le_add_right, Nat.ne_of_lt, Ne.symm, Nat.succ_le_of_lt, Nat.lt_irrefl, absurd]) hcj hz (fun _ _ e => nomatch e)) (S.with (Stable.isSpot.and (Stable.mat _ _ _ _ _ _)) ⟨⟨p1, _, _, rfl, S.dat.2⟩, S.dat.1.2⟩)
        | some (p, q'), hsp, hLS, n4, S =>
          obtain ⟨ap, tp, tq, rfl, _⟩ := hsp
          obtain ⟨ap', tp, tq, ea, hT⟩ := S.dat.1
          obtain rfl : ap = ap' := by injection ea
          obtain ⟨l1, l2, l3, l4, l5, _⟩ := id hLS
          have hpm : p < mm := by rcases l4 with l4 | l4 <;> lia
          refine T_tor <| T_tcmp <| T_loc S (un <| un n4) <| T_none <| T_isNoneR <| T_truthyB ?_
          rw [if_neg (by simp)]
          refine T_tcmp <| T_loc S upd_same <| T_call <| T_glo S G.nm.abs <| T_cwB <| T_sp <| T_sub <| T_sub <| T_loc S (un <| un n1) <| T_sub <| T_loc S (un <| un n4) <| T_int fun _ => T_itemT hT (by decide) (by decide) rfl rfl <| T_itemR S.dat.2.outer rfl hpm (by exact Nat.le_trans (by assumption) (by decide)) <|
            T_sub <| T_loc S (un <| un n4) <| T_int fun _ => T_itemT hT (by decide) (by decide) rfl rfl <| T_itemI (S.dat.2.row _ hpm) rfl l3 (by exact Nat.le_trans (by assumption) (by decide)) fun _ => T_sp0 <| T_abs fun _ => T_lt <| T_truthyB ?_
          rw [absI]
          by_cases hl : (B (step + i) (step + j)).natAbs < (B p q').natAbs
          · rw [if_pos (by simp; omega)]
            refine T_cons <| T_asName <| T_tup <| T_sp <| T_loc S (un <| un n5) <| T_sp <| T_loc S (un upd_same) <| T_sp0 <| T_newTuple S fun p1 h12 _ S => T_st S asgL fun h13 S => ?_
            exact T_nil <| T_nil <| fin _ (some (step + i, step + j)) _ _ ⟨un <| un <| un n1, un <| un <| un n2, un <| un <| un n3, un <| un <| un n5⟩ upd_same (hLS.new (by solve_by_elim (maxDepth := 3) only [*, Nat.le_of_lt, Nat.lt_of_lt_of_le, Nat.lt_of_le_of_lt, Nat.le_trans, Nat.pos_of_ne_zero, Nat.ne_of_gt, Nat.le_refl, Nat.lt_trans, Nat.succ_ne_zero, Nat.le_add_right, Nat.ne_of_lt, Ne.symm, Nat.succ_le_of_lt, Nat.lt_irrefl, absurd]) (by solve_by_elim (maxDepth := 3) only [*, Nat.le_of_lt, Nat.lt_of_lt_of_le, Nat.lt_of_le_of_lt, Nat.le_trans, Nat.pos_of_ne_zero, Nat.ne_of_gt, Nat.le_refl, Nat.lt_trans, Nat.succ_ne_zero, Nat.le_add_right, Nat.ne_of_lt, Ne.symm, Nat.succ_le_of_lt, Nat.lt_irrefl, absurd]) hcj hz (fun _ _ e => by cases e; exact hl)) (S.with (Stable.isSpot.and (Stable.mat _ _ _ _ _ _)) ⟨⟨p1, _, _, rfl, S.dat.2⟩, S.dat.1.2⟩)
          · rw [if_neg (by simp; lia)]
            exact T_nil <| T_nil <| fin _ (some (p, q')) (.ref ap) _ ⟨un <| un n1, un <| un n2, un <| un n3, un <| un n5⟩ (un <| un n4) (hLS.keep (.inr ⟨p, q', rfl, by omega⟩)) S
    · obtain ⟨⟨n1, n2, n3, n5⟩, f, v, n4, hLS, hsp, hM⟩ := Sf.dat
      have e : step + (n - step) = n := by grind
      rw [e] at hLS
      exact T_nil ⟨m, Sf.with (Stable.const.and (Stable.ex fun _ => Stable.ex fun _ => Stable.const.and (Stable.const.and (Stable.isSpot.and (Stable.mat _ _ _ _ _ _))))) ⟨⟨n1, n2, n3⟩, f, v, n4, hLS.row, hsp, hM⟩⟩
  · obtain ⟨⟨n1, n2, n3⟩, f, v, n4, hLS, hsp, hM⟩ := Sf.dat
    have e : step + (mm - step) = mm := by grind
    rw [e] at hLS
    exact T_cons <| T_ret <| T_loc Sf n4 (q f v _ Sf.back hsp hLS)
end
end Mine
namespace Mine
section
variable {prog : Program} {w : World} {h0 : Heap} {fa : Nat → Addr} {cd : Nat → Value}
noncomputable def RowsOf (rows : Nat → Addr) (m : Nat) (b : Addr) : Prop := ∃ i, i < m ∧ b = rows i
set_option maxHeartbeats 4000000 in
theorem swap_columns_walk {A : Around} {k : Nat} {h : Heap} {a : Addr} {rows : Nat → Addr} {mm n i j : Nat} {B : Nat → Nat → Int} {ti tj : Tok} {Q : Value → Heap → Prop} (G : Gr prog h0 fa cd)
    (R : Rm A (k + 1)) (hb : ∀ b o, h0.get? b = some o → h.get? b = some o) (hsz : h0.objs.size ≤ h.objs.size) (M : Mat h0.objs.size h a rows mm n B)
    (hm : mm ≤ 100) (hn : n ≤ 100) (hi : i < n) (hj : j < n)
    (q : ∀ h', Ext (RowsOf rows mm) h h' → Mat h0.objs.size h' a rows mm n (swC B i j) → Q .none h') :
    Tr prog w A (call (.ref (fa 9)) [.ref a, .int (i : Int) ti, .int (j : Int) tj]) h Q := by
  refine T_fn (P := fun h => Mat h0.objs.size h a rows mm n B) G.swap_columns hb hsz G.nolimit R (RowsOf rows mm) (fun b ⟨i, hi, e⟩ => e ▸ M.lor i hi) (Stable.mat _ _ _ _ _ _) M
    (binds := [("a", .ref a), ("one", .int (i : Int) ti), ("other", .int (j : Int) tj)]) (fun _ _ _ _ _ => rfl) (by rfl) fun L h1 hL S R1 => ?_
  subst hL
  have hR := R1.handled
  obtain ⟨vs, hl, hz, hv⟩ := id S.dat.outer
  subst hz
  refine T_cons <| T_for <| T_loc S rfl <| T_iterList S hl fun I h2 S2 hge hI hl2 => ?_
  refine T_forD (drawList (vs := vs) hR asgL (new_none S hge)) S2 hI
    (fun k m hh => (m "one" = some (.int (i : Int) ti) ∧ m "other" = some (.int (j : Int) tj)) ∧ Mat h0.objs.size hh a rows vs.size n (swCk B i j k) ∧ hh.IsList a vs)
    (fun k m => Stable.const.and ((Stable.mat _ _ _ _ _ _).and (Stable.list _ _))) (fun _ _ _ q => q.2.2) ?_ (fun k m m' h3 hlt hu Si jn => ?_) (fun m h3 Sf => ?_)
  · exact ⟨⟨rfl, rfl⟩, by rw [swCk_zero]; exact S2.dat, hl2⟩
  · obtain ⟨v, hvk, rfl⟩ := hu
    rw [hv k hlt] at hvk
    obtain rfl := Option.some.inj hvk
    obtain ⟨⟨n1, n2⟩, hM, hL⟩ := Si.dat
    have S := Si.with ((Stable.mat _ _ _ _ _ _).and (Stable.list _ _)) ⟨hM, hL⟩
    have hD : Dn (RowsOf rows vs.size) h (rows k) := .inl ⟨k, hlt, rfl⟩
    refine T_cons <| T_asTuple <| T_tup <| T_sp <| T_sub <| T_loc S upd_same <| T_loc S (un n2) <| T_itemI (S.dat.1.row k hlt) rfl hj (by omega) fun t1 => T_sp <| T_sub <| T_loc S upd_same <| T_loc S (un n1) <| T_itemI (S.dat.1.row k hlt) rfl hi (by omega) fun t2 => T_sp0 <|
      T_newTuple S fun p h4 _ S => T_toTuple hR S S.dat.2 rfl rfl fun h5 S _ => ?_
    rw [swCk_at (Nat.le_refl k), swCk_at (Nat.le_refl k)]
    refine T_ao <| T_toSub <| T_loc S upd_same <| T_loc S (un n1) <| T_putCell S S.dat.1.1 hlt rfl hi (by omega) hD ((Stable.mat _ _ _ _ _ _).and (Stable.list a vs))
      (fun h' kb M' => ⟨M', IsList.but S.dat.1.2 kb (S.dat.1.1.ne k hlt).symm⟩) fun h6 S => ?_
    refine T_ao <| T_toSub <| T_loc S upd_same <| T_loc S (un n2) <| T_putCell S S.dat.1 hlt rfl hj (by omega) hD ((Stable.mat _ _ _ _ _ _).and (Stable.list a vs))
      (fun h' kb M' => ⟨M', IsList.but S.dat.2 kb (S.dat.1.ne k hlt).symm⟩) fun h6 S => T_ao0 <| T_nil ?_
    refine ⟨_, S.with (Stable.const.and ((Stable.mat _ _ _ _ _ _).and (Stable.list _ _))) ⟨⟨un n1, un n2⟩, ?_, S.dat.2⟩⟩
    have := S.dat.1
    rw [swCk_succ] at this
    exact this
  · obtain ⟨_, hM, hL⟩ := Sf.dat
    exact T_nil (q _ Sf.back (hM.congr fun r c hr hc => swCk_full hr))
end
end Mine
namespace Mine
section
variable {prog : Program} {w : World} {h0 : Heap} {fa : Nat → Addr} {cd : Nat → Value}
theorem foot_swp {a : Addr} {rows : Nat → Addr} {m i j : Nat} (hi : i < m) (hj : j < m) {x : Addr} (h : Foot a (fun r => rows (swp i j r)) m x) : Foot a rows m x := by
  rcases h with h | ⟨r, hr, e⟩
  · exact .inl h
  · exact .inr ⟨_, swp_lt hi hj hr, e⟩
theorem rows_foot {a : Addr} {rows : Nat → Addr} {m : Nat} {x : Addr} (h : RowsOf rows m x) : Foot a rows m x := .inr h
set_option maxHeartbeats 4000000 in
theorem bring_walk {A : Around} {k : Nat} {h : Heap} {aS aU aV p : Addr} {rS rU rV : Nat → Addr} {m n row col step : Nat} {X U V : Nat → Nat → Int} {t1 t2 ts : Tok} {Q : Value → Heap → Prop} (G : Gr prog h0 fa cd)
    (R : Rm A (k + 2)) (hb : ∀ b o, h0.get? b = some o → h.get? b = some o) (hsz : h0.objs.size ≤ h.objs.size) (T : Three h0.objs.size aS aU aV rS rU rV m n X U V h) (hp : h.IsTuple p #[.int (row : Int) t1, .int (col : Int) t2])
    (hm : m ≤ 100) (hn : n ≤ 100) (hrow : row < m) (hcol : col < n) (hs1 : step < m) (hs2 : step < n)
    (q : ∀ h', Ext (Foot3 aS aU aV rS rU rV m n) h h' → Three h0.objs.size aS aU aV (fun r => rS (swp row step r)) (fun r => rU (swp row step r)) rV m n (swC (swR X row step) col step) (swR U row step) (swC V col step) h' → Q .none h') :
    Tr prog w A (call (.ref (fa 10)) [.ref aS, .ref aU, .ref aV, .ref p, .int (step : Int) ts]) h Q := by
  refine T_fn (P := fun h => Three h0.objs.size aS aU aV rS rU rV m n X U V h ∧ h.IsTuple p #[.int (row : Int) t1, .int (col : Int) t2]) G.bring hb hsz G.nolimit R (Foot3 aS aU aV rS rU rV m n) (fun b => T.lo) (Stable.three.and (Stable.tuple _ _)) ⟨T, hp⟩
    (binds := [("s", .ref aS), ("u", .ref aU), ("v", .ref aV), ("spot", .ref p), ("step", .int (step : Int) ts)]) (fun _ _ _ _ _ => rfl) (by rfl) fun L h1 hL S R1 => ?_
  subst hL
  have hR := R1.handled
  obtain ⟨oC, fC, kC⟩ := fnAtOf G.swap_columns
  refine T_cons <| T_asTuple <| T_loc S rfl <| T_toTuple hR S S.dat.2 rfl rfl fun h2 S _ => T_ao <| T_toName <| T_st S asgL fun h3 S => T_ao <| T_toName <| T_st S asgL fun h4 S => T_ao0 ?_
  have S := S.with Stable.three S.dat.1
  refine T_cons <| T_forPairC (v1 := .ref aS) (v2 := .ref aU) hR S asgL (fun Q' q => T_loc S rfl q) (fun Q' q => T_loc S rfl q)
    (fun hh => Three h0.objs.size aS aU aV (fun r => rS (swp row step r)) rU rV m n (swR X row step) U V hh)
    (fun hh => Three h0.objs.size aS aU aV (fun r => rS (swp row step r)) (fun r => rU (swp row step r)) rV m n (swR X row step) (swR U row step) V hh)
    Stable.three Stable.three (fun h8 hz8 S => ?_) (fun h8 hz8 S => ?_) (fun h8 S => ?_)
  · refine T_cons <| T_asTuple <| T_tup <| T_sp <| T_sub <| T_loc S upd_same <| T_loc S (un rfl) <| T_itemR S.dat.s.outer rfl hs1 (by omega) <| T_sp <| T_sub <| T_loc S upd_same <| T_loc S (un rfl) <| T_itemR S.dat.s.outer rfl hrow (by omega) <| T_sp0 <|
      T_newTuple S fun p h9 _ S => T_toTuple hR S S.dat.2 rfl rfl fun h10 S _ => ?_
    refine T_swapRows S S.dat.1.s (i := row) (j := step) rfl rfl hrow hs1 (by omega) (.inl (.inl (.inl rfl)))
      (fun P' h Q' S q => T_loc S upd_same q) (fun P' h Q' S q => T_loc S (un rfl) q) (fun P' h Q' S q => T_loc S upd_same q) (fun P' h Q' S q => T_loc S (un rfl) q)
      (E := fun h => Mat h0.objs.size h aU rU m m U ∧ Mat h0.objs.size h aV rV n n V) ((Stable.mat _ _ _ _ _ _).and (Stable.mat _ _ _ _ _ _))
      (fun h h' E kb => ⟨E.1.but kb S.dat.1.su.no, E.2.but kb S.dat.1.sv.no⟩) ⟨S.dat.1.u, S.dat.1.v⟩ fun h11 S11 => T_nil ⟨rfl, ?_⟩
    exact S11.with Stable.three { s := S11.dat.1, u := S11.dat.2.1, v := S11.dat.2.2, su := fun x q1 q2 => S.dat.1.su x (foot_swp hrow hs1 q1) q2, sv := fun x q1 q2 => S.dat.1.sv x (foot_swp hrow hs1 q1) q2, uv := S.dat.1.uv }
  · refine T_cons <| T_asTuple <| T_tup <| T_sp <| T_sub <| T_loc S upd_same <| T_loc S (un rfl) <| T_itemR S.dat.u.outer rfl hs1 (by omega) <| T_sp <| T_sub <| T_loc S upd_same <| T_loc S (un rfl) <| T_itemR S.dat.u.outer rfl hrow (by omega) <| T_sp0 <|
      T_newTuple S fun p h9 _ S => T_toTuple hR S S.dat.2 rfl rfl fun h10 S _ => ?_
    refine T_swapRows S S.dat.1.u (i := row) (j := step) rfl rfl hrow hs1 (by omega) (.inl (.inr (.inl (.inl rfl))))
      (fun P' h Q' S q => T_loc S upd_same q) (fun P' h Q' S q => T_loc S (un rfl) q) (fun P' h Q' S q => T_loc S upd_same q) (fun P' h Q' S q => T_loc S (un rfl) q)
      (E := fun h => Mat h0.objs.size h aS (fun r => rS (swp row step r)) m n (swR X row step) ∧ Mat h0.objs.size h aV rV n n V) ((Stable.mat _ _ _ _ _ _).and (Stable.mat _ _ _ _ _ _))
      (fun h h' E kb => ⟨E.1.but kb S.dat.1.su.no', E.2.but kb S.dat.1.uv.no⟩) ⟨S.dat.1.s, S.dat.1.v⟩ fun h11 S11 => T_nil ⟨rfl, ?_⟩
    exact S11.with Stable.three { s := S11.dat.2.1, u := S11.dat.1, v := S11.dat.2.2, su := fun x q1 q2 => S.dat.1.su x q1 (foot_swp hrow hs1 q2), sv := S.dat.1.sv, uv := fun x q1 q2 => S.dat.1.uv x (foot_swp hrow hs1 q1) q2 }
  refine T_cons <| T_forPairC (v1 := .ref aS) (v2 := .ref aV) hR S asgL (fun Q' q => T_loc S (un rfl) q) (fun Q' q => T_loc S (un rfl) q)
    (fun hh => Three h0.objs.size aS aU aV (fun r => rS (swp row step r)) (fun r => rU (swp row step r)) rV m n (swC (swR X row step) col step) (swR U row step) V hh)
    (fun hh => Three h0.objs.size aS aU aV (fun r => rS (swp row step r)) (fun r => rU (swp row step r)) rV m n (swC (swR X row step) col step) (swR U row step) (swC V col step) hh)
    Stable.three Stable.three (fun h8 hz8 S => ?_) (fun h8 hz8 S => ?_) (fun h8 S => T_nil (q _ S.back S.dat))
  · refine T_cons <| T_expr <| T_call <| T_glo S G.nm.swap_columns <| T_cwF <| T_sp <| T_loc S upd_same <| T_sp <| T_loc S (un (un rfl)) <| T_sp <| T_loc S (un (un rfl)) <| T_sp0 ⟨kC _ S.base, ?_⟩
    refine swap_columns_walk G R1 S.base S.gsz S.dat.s hm hn hcol hs2 fun h' e M' => T_nil ⟨rfl, ?_⟩
    refine S.after e (fun b hb => .inl (.inl (foot_swp hrow hs1 (rows_foot hb)))) (fun b hb => S.dat.s.isList (rows_foot hb)) Stable.three
      { s := M', u := S.dat.u.ext e fun b hb q => S.dat.su _ (rows_foot q) hb, v := S.dat.v.ext e fun b hb q => S.dat.sv _ (rows_foot q) hb, su := S.dat.su, sv := S.dat.sv, uv := S.dat.uv }
  · refine T_cons <| T_expr <| T_call <| T_glo S G.nm.swap_columns <| T_cwF <| T_sp <| T_loc S upd_same <| T_sp <| T_loc S (un (un rfl)) <| T_sp <| T_loc S (un (un rfl)) <| T_sp0 ⟨kC _ S.base, ?_⟩
    refine swap_columns_walk G R1 S.base S.gsz S.dat.v hn hn hcol hs2 fun h' e M' => T_nil ⟨rfl, ?_⟩
    refine S.after e (fun b hb => .inl (.inr (.inr (rows_foot hb)))) (fun b hb => S.dat.v.isList (rows_foot hb)) Stable.three
      { s := S.dat.s.ext e fun b hb q => S.dat.sv _ hb (rows_foot q), u := S.dat.u.ext e fun b hb q => S.dat.uv _ hb (rows_foot q), v := M', su := S.dat.su, sv := S.dat.sv, uv := S.dat.uv }
end
end Mine
namespace Mine
section
variable {prog : Program} {w : World} {h0 : Heap} {fa : Nat → Addr} {cd : Nat → Value}
/-- for row in a: row[column] = row[column] - many * row[step] -/
theorem T_colSub {A : Around} {hs h hc : Heap} {Dc : Addr → Prop} {f : Addr} {cdv : Value} {m : Str → Option Value} {P E : Heap → Prop} {a : Addr} {rows : Nat → Addr} {mm n step col : Nat} {B : Nat → Nat → Int} {qq : Int} {tq tc ts : Tok} {Q : Flow → Heap → Prop}
    {px pa p1 p2 p3 p4 p5 p6 p7 p8 p9 p10 p11 p12 p13 p14 : Pos}
    (S : Ses h0 hs (Dn Dc hc) (envF "clear_cross" (scopeN 11) hc.objs.size f cdv) m P h) (hR : A.handled = none) (M : Mat h0.objs.size h a rows mm n B) (stE : Stable E) (kE : ∀ h h' i, i < mm → E h → (∀ b, b ≠ rows i → h'.get? b = h.get? b) → E h') (hE : E h)
    (hm : mm ≤ 100) (hn : n ≤ 100) (hcol : col < n) (hstep : step < n) (hne : col ≠ step) (hD : ∀ i, i < mm → Dn Dc hc (rows i)) (ok : ∀ r, r < mm → IntMulOk qq (B r step))
    (n1 : m "a" = some (.ref a)) (n2 : m "column" = some (.int (col : Int) tc)) (n3 : m "many" = some (.int qq tq)) (n4 : m "step" = some (.int (step : Int) ts))
    (q : ∀ m' h', (∀ y : Str, y ≠ "row" → m' y = m y) → Ses h0 hs (Dn Dc hc) (envF "clear_cross" (scopeN 11) hc.objs.size f cdv) m' (fun h => Mat h0.objs.size h a rows mm n (colK B qq step col mm) ∧ E h) h' → Q .next h') :
    Tr prog w A (exec (.For (.Name "row" px) (.Name "a" pa) [.Assign [.Subscript (.Name "row" p1) (.Name "column" p2) p3] (.BinOp (.Subscript (.Name "row" p4) (.Name "column" p5) p6) .Sub (.BinOp (.Name "many" p7) .Mult (.Subscript (.Name "row" p8) (.Name "step" p9) p10) p11) p12) p13] [] p14)
      (envF "clear_cross" (scopeN 11) hc.objs.size f cdv)) h Q := by
  obtain ⟨vs, hl, hz, hv⟩ := id M.outer
  subst hz
  have S := S.with ((Stable.mat _ _ _ _ _ _).and stE) ⟨M, hE⟩
  refine T_for <| T_cel S n1 <| T_iterList S hl fun I h2 S2 hge hI hl2 => ?_
  refine T_forD (drawList (vs := vs) hR asgL (new_none S hge)) S2 hI
    (fun k m' hh => (∀ y : Str, y ≠ "row" → m' y = m y) ∧ Mat h0.objs.size hh a rows vs.size n (colK B qq step col k) ∧ hh.IsList a vs ∧ E hh)
    (fun k m => Stable.const.and ((Stable.mat _ _ _ _ _ _).and ((Stable.list _ _).and stE))) (fun _ _ _ q => q.2.2.1) ?_ (fun k m1 m' h3 hlt hu Si jn => ?_) (fun m1 h3 Sf => ?_)
  · exact ⟨fun _ _ => rfl, by rw [colK_zero]; exact S2.dat.1, hl2, S2.dat.2⟩
  · obtain ⟨v, hvk, rfl⟩ := hu
    rw [hv k hlt] at hvk
    obtain rfl := Option.some.inj hvk
    obtain ⟨hm1, hM, hL, hE⟩ := Si.dat
    have n1 := (hm1 "a" (by decide)).trans n1
    have n2 := (hm1 "column" (by decide)).trans n2
    have n3 := (hm1 "many" (by decide)).trans n3
    have n4 := (hm1 "step" (by decide)).trans n4
    have S := Si.with ((Stable.mat _ _ _ _ _ _).and ((Stable.list _ _).and stE)) ⟨hM, hL, hE⟩
    have ek : colK B qq step col k k step = B k step := by unfold colK; rw [if_neg (by lia)]
    refine T_cons <| T_asSub <| T_bin <| T_sub <| T_loc S upd_same <| T_loc S (un n2) <| T_itemI (S.dat.1.row k hlt) rfl hcol (by exact Nat.le_trans (by assumption) (by decide)) fun t1 => T_bin <| T_cel S (un n3) <| T_sub <| T_loc S upd_same <| T_cel S (un n4) <| T_itemI (S.dat.1.row k hlt) rfl hstep (by exact Nat.le_trans (by assumption) (by decide)) fun t2 =>
      T_mul (by rw [ek]; exact ok k hlt) fun t3 => T_subi fun t4 => T_loc S upd_same <| T_loc S (un n2) <| T_putCell S S.dat.1 hlt rfl hcol (by exact Nat.le_trans (by assumption) (by decide)) (hD k hlt) ((Stable.mat _ _ _ _ _ _).and ((Stable.list a vs).and stE))
      (fun h' kb M' => ⟨M', IsList.but S.dat.2.1 kb (S.dat.1.ne k hlt).symm, kE _ _ k hlt S.dat.2.2 kb⟩) fun h6 S => T_nil ?_
    refine ⟨_, S.with (Stable.const.and ((Stable.mat _ _ _ _ _ _).and ((Stable.list _ _).and stE))) ⟨fun y hy => (upd_ne hy rfl).trans (hm1 y hy), ?_, S.dat.2⟩⟩
    have := S.dat.1
    rw [colK_succ _ _ hne] at this
    exact this
  · obtain ⟨hm1, hM, hL, hE⟩ := Sf.dat
    exact q m1 _ hm1 (Sf.with ((Stable.mat _ _ _ _ _ _).and stE) ⟨hM, hE⟩)
theorem Foot3.rowS {aS aU aV : Addr} {rS rU rV : Nat → Addr} {m n i : Nat} (hi : i < m) : Foot3 aS aU aV rS rU rV m n (rS i) := .inl (.inr ⟨i, hi, rfl⟩)
structure CCn (m : Str → Option Value) (aS aU aV : Addr) (step n : Nat) (ts tn : Tok) (lead : Int) : Prop where
  s : m "s" = some (.ref aS)
  u : m "u" = some (.ref aU)
  v : m "v" = some (.ref aV)
  step : m "step" = some (.int (step : Int) ts)
  width : m "width" = some (.int (n : Int) tn)
  lead : ∃ t, m "lead" = some (.int lead t)
theorem CCn.keep {m m' : Str → Option Value} {aS aU aV : Addr} {step n : Nat} {ts tn : Tok} {lead : Int} (x : CCn m aS aU aV step n ts tn lead) (k : ∀ y : Str, y ≠ "row" → y ≠ "a" → y ≠ "many" → y ≠ "column" → y ≠ "is_done" → m' y = m y) : CCn m' aS aU aV step n ts tn lead :=
  ⟨(k "s" (by decide) (by decide) (by decide) (by decide) (by decide)).trans x.s, (k "u" (by decide) (by decide) (by decide) (by decide) (by decide)).trans x.u, (k "v" (by decide) (by decide) (by decide) (by decide) (by decide)).trans x.v,
   (k "step" (by decide) (by decide) (by decide) (by decide) (by decide)).trans x.step, (k "width" (by decide) (by decide) (by decide) (by decide) (by decide)).trans x.width, x.lead.imp fun _ e => (k "lead" (by decide) (by decide) (by decide) (by decide) (by decide)).trans e⟩
theorem CCn.upd {m : Str → Option Value} {aS aU aV : Addr} {step n : Nat} {ts tn : Tok} {lead : Int} {x : Str} {v : Value} (X : CCn m aS aU aV step n ts tn lead) (h : x = "row" ∨ x = "a" ∨ x = "many" ∨ x = "column" ∨ x = "is_done") : CCn (upd m x v) aS aU aV step n ts tn lead :=
  X.keep fun y h1 h2 h3 h4 h5 => upd_ne (fun e => by subst e; rcases h with h | h | h | h | h <;> contradiction) rfl
set_option maxHeartbeats 8000000 in
theorem clear_cross_walk {A : Around} {k : Nat} {h : Heap} {aS aU aV : Addr} {rS rU rV : Nat → Addr} {mm n step : Nat} {X U V : Nat → Nat → Int} {ts tn : Tok} {Q : Value → Heap → Prop} (G : Gr prog h0 fa cd)
    (R : Rm A (k + 2)) (hb : ∀ b o, h0.get? b = some o → h.get? b = some o) (hsz : h0.objs.size ≤ h.objs.size) (T : Three h0.objs.size aS aU aV rS rU rV mm n X U V h)
    (hm : mm ≤ 100) (hn : n ≤ 100) (hs1 : step < mm) (hs2 : step < n) (hne : X step step ≠ 0)
    (okS : ∀ r c, step < r → r < mm → c < n → IntMulOk (quoR X step r) (X step c)) (okU : ∀ r c, step < r → r < mm → c < mm → IntMulOk (quoR X step r) (U step c))
    (okC : ∀ c r, step < c → c < n → r < mm → IntMulOk (quoC X step c) (redR X (quoR X step) step mm r step)) (okV : ∀ c r, step < c → c < n → r < n → IntMulOk (quoC X step c) (V r step))
    (q : ∀ b rS' rU' h', Ext (Foot3 aS aU aV rS rU rV mm n) h h' → Foot3Ok h aS aU aV rS rU rV mm n rS' rU' rV → Three h0.objs.size aS aU aV rS' rU' rV mm n (ccS X step mm n) (ccU X U step mm) (ccV X V step n) h' → (b = true ↔ ccDone X step mm n) → Q (.bool b) h') :
    Tr prog w A (call (.ref (fa 11)) [.ref aS, .ref aU, .ref aV, .int (step : Int) ts, .int (n : Int) tn]) h Q := by
  refine T_fn (P := fun h => Three h0.objs.size aS aU aV rS rU rV mm n X U V h) G.clear_cross hb hsz G.nolimit R (Foot3 aS aU aV rS rU rV mm n) (fun b => T.lo) Stable.three T
    (binds := [("s", .ref aS), ("u", .ref aU), ("v", .ref aV), ("step", .int (step : Int) ts), ("width", .int (n : Int) tn)]) (fun _ _ _ _ _ => rfl) (by rfl) fun L h1 hL S R1 => ?_
  subst hL
  have hR := R1.handled
  refine T_cons <| T_asSwap (names := ["lead", "is_done"]) <| T_tup <| T_sp <| T_sub <| T_sub <| T_loc S rfl <| T_cel S rfl <| T_itemR S.dat.s.outer rfl hs1 (by exact Nat.le_trans (by assumption) (by decide)) <| T_cel S rfl <| T_itemI (S.dat.s.row _ hs1) rfl hs2 (by exact Nat.le_trans (by assumption) (by decide)) fun tl => T_sp <| T_bool <| T_sp0 <|
    T_newTuple S fun p h2 _ S => T_unpackItems hR S S.dat.2 rfl fun h3 S _ => T_ao <| T_bindName <| T_st S asgL fun h4 S => T_ao <| T_bindName <| T_st S asgL fun h5 S => T_ao0 ?_
  have S := S.with Stable.three S.dat.1
  -- the columns, behind the rows
  have cols : ∀ m h2 b rS' rU', CCn m aS aU aV step n ts tn (X step step) → m "is_done" = some (.bool b) → (b = true ↔ ∀ r, step < r → r < mm → redR X (quoR X step) step mm r step = 0) → Foot3Ok h aS aU aV rS rU rV mm n rS' rU' rV →
      Ses h0 h (Dn (Foot3 aS aU aV rS rU rV mm n) h) (envF "clear_cross" (scopeN 11) h.objs.size (fa 11) (cd 11)) m (fun hh => Three h0.objs.size aS aU aV rS' rU' rV mm n (redR X (quoR X step) step mm) (redR U (quoR X step) step mm) V hh) h2 →
      Tr prog w (A.deeper (envF "clear_cross" (scopeN 11) h.objs.size (fa 11) (cd 11))) (execs ((bodyN 11).drop 2) (envF "clear_cross" (scopeN 11) h.objs.size (fa 11) (cd 11))) h2 (fun fl h2 => Q (retOf fl) h2) := by
    intro m h2 b rS' rU' C nd hb' fo S
    refine T_cons <| T_for <| T_call <| T_glo S G.nm.range <| T_cwT <| T_sp <| T_bin <| T_cel S C.step <| T_int fun _ => T_add fun _ => T_sp <| T_loc S C.width <| T_sp0 <| T_range2 S fun r h9 _ _ _ S2 hr => ?_
    refine T_iterRange S2 hr (by exact Int.natCast_nonneg _) (by lia) (by exact Int.natCast_nonneg _) (by lia) fun I h10 S3 hI0 hIge hI => ?_
    have e0 : ((n : Int) - ((step : Int) + 1)).toNat = n - (step + 1) := by lia
    rw [e0] at hI
    have dS : ∀ i, i < mm → Foot3 aS aU aV rS rU rV mm n (rS' i) ∨ h.objs.size ≤ rS' i := fun i hi => fo _ (.inl (.inr ⟨i, hi, rfl⟩))
    have dV : ∀ i, i < n → Foot3 aS aU aV rS rU rV mm n (rV i) := fun i hi => .inr (.inr (.inr ⟨i, hi, rfl⟩))
    refine T_forD (n := n - (step + 1)) (drawRange (a := (step : Int) + 1) hR asgL (new_none S2 hIge)) S3 (by simpa using hI)
      (fun i m hh => CCn m aS aU aV step n ts tn (X step step) ∧ ∃ b, m "is_done" = some (.bool b) ∧ (b = true ↔ (∀ r, step < r → r < mm → redR X (quoR X step) step mm r step = 0) ∧ ∀ c, step < c → c < step + 1 + i → ccS X step mm n step c = 0) ∧
        Three h0.objs.size aS aU aV rS' rU' rV mm n (redC (redR X (quoR X step) step mm) (quoC X step) step (step + 1 + i)) (redR U (quoR X step) step mm) (redC V (quoC X step) step (step + 1 + i)) hh)
      (fun i m => Stable.const.and (Stable.ex fun _ => Stable.const.and (Stable.const.and Stable.three))) (fun _ _ _ _ => trivial) ?_ (fun i m m' hi hlt hu Si jn => ?_) (fun m hf Sf => ?_)
    · refine ⟨C, b, nd, ?_, by rw [Nat.add_zero, redC_zero, redC_zero]; exact S3.dat⟩
      rw [hb']
      exact ⟨fun x => ⟨x, fun c h1 h2 => by lia⟩, fun x => x.1⟩
    · obtain ⟨t, rfl⟩ := hu
      obtain ⟨C, b, nd, hb', T'⟩ := Si.dat
      obtain ⟨tl', nl⟩ := C.lead
      have S := Si.with Stable.three T'
      have er : ((step : Int) + 1 + (i : Int)) = ((step + 1 + i : Nat) : Int) := by rfl
      rw [er] at S
      have hcn : step + 1 + i < n := by omega
      have C1 := C.upd (x := "column") (v := .int ((step + 1 + i : Nat) : Int) t) (.inr (.inr (.inr (.inl rfl))))
      generalize hc : step + 1 + i = c at *
      have hsc : step < c := by lia
      have q1 : redC (redR X (quoR X step) step mm) (quoC X step) step c step c = X step c := by rw [redC_at (.inl (Nat.le_refl c)), redR_at (.inr (Nat.le_refl step))]
      have dS' : ∀ i, i < mm → Dn (Foot3 aS aU aV rS rU rV mm n) h (rS' i) := dS
      refine T_cons <| T_asName <| T_bin <| T_sub <| T_sub <| T_loc S C1.s <| T_cel S C1.step <| T_itemR S.dat.s.outer rfl hs1 (by exact Nat.le_trans (by assumption) (by decide)) <| T_loc S upd_same <| T_itemI (S.dat.s.row _ hs1) rfl hcn (by exact Nat.le_trans (by assumption) (by decide)) fun _ => T_loc S (un nl) <| T_fdiv S R1 G.nolimit G.noseer G.tree hne fun tq => ?_
      rw [q1]
      change Tr _ _ _ (storeName _ _ (.int (quoC X step c) tq)) _ _
      refine T_st S asgC fun h5 S => ?_
      have C2 := C1.upd (x := "many") (v := .int (quoC X step c) tq) (.inr (.inr (.inl rfl)))
      refine T_cons <| T_forPair (v1 := .ref aS) (v2 := .ref aV) hR S asgC (fun Q' q => T_loc S C2.s q) (fun Q' q => T_loc S C2.v q)
        (fun m' hh => (∀ y : Str, y ≠ "row" → y ≠ "a" → m' y = upd (upd m "column" (.int (c : Int) t)) "many" (.int (quoC X step c) tq) y) ∧ Three h0.objs.size aS aU aV rS' rU' rV mm n (redC (redR X (quoR X step) step mm) (quoC X step) step (c + 1)) (redR U (quoR X step) step mm) (redC V (quoC X step) step c) hh)
        (fun m' hh => (∀ y : Str, y ≠ "row" → y ≠ "a" → m' y = upd (upd m "column" (.int (c : Int) t)) "many" (.int (quoC X step c) tq) y) ∧ Three h0.objs.size aS aU aV rS' rU' rV mm n (redC (redR X (quoR X step) step mm) (quoC X step) step (c + 1)) (redR U (quoR X step) step mm) (redC V (quoC X step) step (c + 1)) hh)
        (fun _ => Stable.const.and Stable.three) (fun _ => Stable.const.and Stable.three) (fun h8 hz8 S => ?_) (fun m1 h8 hz8 S => ?_) (fun m1 h8 S => ?_)
      · have C3 := C2.upd (x := "a") (v := .ref aS) (.inr (.inl rfl))
        refine T_cons <| T_colSub S hR S.dat.s (E := fun h => Mat h0.objs.size h aU rU' mm mm (redR U (quoR X step) step mm) ∧ Mat h0.objs.size h aV rV n n (redC V (quoC X step) step c)) ((Stable.mat _ _ _ _ _ _).and (Stable.mat _ _ _ _ _ _))
          (fun h h' i hi E kb => ⟨E.1.but kb fun q => S.dat.su _ (.inr ⟨i, hi, rfl⟩) q, E.2.but kb fun q => S.dat.sv _ (.inr ⟨i, hi, rfl⟩) q⟩) ⟨S.dat.u, S.dat.v⟩ hm hn hcn hs2 (by exact Nat.ne_of_gt (by assumption)) dS' (fun r hr => by rw [redC_at (.inr (Nat.le_refl step))]; exact okC c r hsc hcn hr)
          upd_same (un (un upd_same)) (un upd_same) C3.step fun m' h9 hm' S9 => T_nil ⟨rfl, m', S9.with (Stable.const.and Stable.three) ⟨fun y h1 h2 => (hm' y h1).trans (upd_ne h2 rfl), ?_⟩⟩
        exact { S.dat with s := S9.dat.1.congr fun r c' hr _ => redC_succ hsc hr, u := S9.dat.2.1, v := S9.dat.2.2 }
      · obtain ⟨hm1, T1⟩ := S.dat
        have C3 : CCn m1 aS aU aV step n ts tn (X step step) := C2.keep fun y h1 h2 h3 h4 h5 => hm1 y h1 h2
        have C4 := C3.upd (x := "a") (v := .ref aV) (.inr (.inl rfl))
        have nc := (hm1 "column" (by decide) (by decide)).trans (un upd_same)
        have nm := (hm1 "many" (by decide) (by decide)).trans upd_same
        refine T_cons <| T_colSub S hR T1.v (E := fun h => Mat h0.objs.size h aS rS' mm n (redC (redR X (quoR X step) step mm) (quoC X step) step (c + 1)) ∧ Mat h0.objs.size h aU rU' mm mm (redR U (quoR X step) step mm)) ((Stable.mat _ _ _ _ _ _).and (Stable.mat _ _ _ _ _ _))
          (fun h h' i hi E kb => ⟨E.1.but kb fun q => T1.sv _ q (.inr ⟨i, hi, rfl⟩), E.2.but kb fun q => T1.uv _ q (.inr ⟨i, hi, rfl⟩)⟩) ⟨T1.s, T1.u⟩ hn hn hcn hs2 (by exact Nat.ne_of_gt (by assumption)) (fun i hi => .inl (dV i hi)) (fun r hr => by rw [redC_at (.inr (Nat.le_refl step))]; exact okV c r hsc hcn hr)
          upd_same (un nc) (un nm) C4.step fun m' h9 hm' S9 => T_nil ⟨rfl, m', S9.with (Stable.const.and Stable.three) ⟨fun y h1 h2 => (hm' y h1).trans ((upd_ne h2 rfl).trans (hm1 y h1 h2)), ?_⟩⟩
        exact { T1 with s := S9.dat.2.1, u := S9.dat.2.2, v := S9.dat.1.congr fun r c' hr _ => redC_succ hsc hr }
      · obtain ⟨hm1, T1⟩ := S.dat
        have S := S.with Stable.three T1
        have C3 : CCn m1 aS aU aV step n ts tn (X step step) := C2.keep fun y h1 h2 h3 h4 h5 => hm1 y h1 h2
        have nc := (hm1 "column" (by decide) (by decide)).trans (un upd_same)
        have ndd := (hm1 "is_done" (by decide) (by decide)).trans (un (un nd))
        have e1 : redC (redR X (quoR X step) step mm) (quoC X step) step (c + 1) step c = ccS X step mm n step c := by unfold ccS redC; rw [if_pos (by grind), if_pos (by grind)]
        have fin : ∀ m' b' hh, CCn m' aS aU aV step n ts tn (X step step) → m' "is_done" = some (.bool b') → (b' = true ↔ b = true ∧ ccS X step mm n step c = 0) →
            Ses h0 hi (Dn (Foot3 aS aU aV rS rU rV mm n) h) (envF "clear_cross" (scopeN 11) h.objs.size (fa 11) (cd 11)) m' (fun hh => Three h0.objs.size aS aU aV rS' rU' rV mm n (redC (redR X (quoR X step) step mm) (quoC X step) step (c + 1)) (redR U (quoR X step) step mm) (redC V (quoC X step) step (c + 1)) hh) hh →
            ∃ m', Ses h0 hi (Dn (Foot3 aS aU aV rS rU rV mm n) h) (envF "clear_cross" (scopeN 11) h.objs.size (fa 11) (cd 11)) m' (fun hh => CCn m' aS aU aV step n ts tn (X step step) ∧ ∃ b, m' "is_done" = some (.bool b) ∧ (b = true ↔ (∀ r, step < r → r < mm → redR X (quoR X step) step mm r step = 0) ∧ ∀ c, step < c → c < step + 1 + (i + 1) → ccS X step mm n step c = 0) ∧
              Three h0.objs.size aS aU aV rS' rU' rV mm n (redC (redR X (quoR X step) step mm) (quoC X step) step (step + 1 + (i + 1))) (redR U (quoR X step) step mm) (redC V (quoC X step) step (step + 1 + (i + 1))) hh) hh := fun m' b' hh a1 a2 a3 Y => by
          have e : step + 1 + (i + 1) = c + 1 := by grind
          refine ⟨m', Y.with (Stable.const.and (Stable.ex fun _ => Stable.const.and (Stable.const.and Stable.three))) ⟨a1, b', a2, ?_, by rw [e]; exact Y.dat⟩⟩
          rw [a3, hb', e]
          constructor
          · rintro ⟨⟨h0, h1⟩, h2⟩
            refine ⟨h0, fun r' g1 g2 => ?_⟩
            rcases Nat.lt_or_ge r' c with g | g
            · exact h1 r' g1 g
            · obtain rfl : r' = c := by lia
              exact h2
          · exact fun h1 => ⟨⟨h1.1, fun r' g1 g2 => h1.2 r' g1 (by grind)⟩, h1.2 c hsc (by simp +arith only [*])⟩
        refine T_cons <| T_asName <| T_and <| T_loc S ndd <| T_truthyB ?_
        cases b with
        | true =>
          rw [if_pos rfl]
          refine T_cmp <| T_sub <| T_sub <| T_loc S C3.s <| T_cel S C3.step <| T_itemR S.dat.s.outer rfl hs1 (by exact Nat.le_trans (by assumption) (by decide)) <| T_loc S nc <| T_itemI (S.dat.s.row _ hs1) rfl hcn (by exact Nat.le_trans (by assumption) (by decide)) fun _ => T_int fun _ => T_eq <| T_st S asgL fun h9 S => T_nil <| fin _ _ _ (C3.upd (.inr (.inr (.inr (.inr rfl))))) upd_same ?_ S
          rw [e1]; simp
        | false =>
          rw [if_neg (by simp)]
          exact T_st S asgL fun h9 S => T_nil <| fin _ _ _ (C3.upd (.inr (.inr (.inr (.inr rfl))))) upd_same (by simp) S
    · obtain ⟨C, b, nd, hb', T'⟩ := Sf.dat
      have e : step + 1 + (n - (step + 1)) = n := by grind
      rw [e] at hb' T'
      have S := Sf.with Stable.three T'
      refine T_cons <| T_ret <| T_loc S nd (q b rS' rU' _ S.back fo S.dat ?_)
      rw [hb']
      exact ⟨fun x => ⟨fun r h1 h2 => by unfold ccS; rw [redC_at (.inr (Nat.le_refl step))]; exact x.1 r h1 h2, x.2⟩, fun x => ⟨fun r h1 h2 => by have := x.1 r h1 h2; unfold ccS at this; rwa [redC_at (.inr (Nat.le_refl step))] at this, x.2⟩⟩
  refine T_cons <| T_for <| T_call <| T_glo S G.nm.range <| T_cwT <| T_sp <| T_bin <| T_cel S rfl <| T_int fun _ => T_add fun _ => T_sp <| T_call <| T_glo S G.nm.len <| T_cwB <| T_sp <| T_loc S rfl <| T_sp0 <| T_lenR S.dat.s.outer (by exact Nat.le_trans (by assumption) (by decide)) fun _ => T_sp0 <| T_range2 S fun r h9 _ _ _ S2 hr => ?_
  refine T_iterRange S2 hr (by exact Int.natCast_nonneg _) (by omega) (by exact Int.natCast_nonneg _) (by lia) fun I h10 S3 hI0 hIge hI => ?_
  have e0 : ((mm : Int) - ((step : Int) + 1)).toNat = mm - (step + 1) := by lia
  rw [e0] at hI
  refine T_forD (n := mm - (step + 1)) (drawRange (a := (step : Int) + 1) hR asgL (new_none S2 hIge)) S3 (by simpa using hI)
    (fun i m hh => CCn m aS aU aV step n ts tn (X step step) ∧ ∃ b rS' rU', m "is_done" = some (.bool b) ∧ (b = true ↔ ∀ r, step < r → r < step + 1 + i → redR X (quoR X step) step mm r step = 0) ∧ Foot3Ok h aS aU aV rS rU rV mm n rS' rU' rV ∧
      Three h0.objs.size aS aU aV rS' rU' rV mm n (redR X (quoR X step) step (step + 1 + i)) (redR U (quoR X step) step (step + 1 + i)) V hh)
    (fun i m => Stable.const.and (Stable.ex fun _ => Stable.ex fun _ => Stable.ex fun _ => Stable.const.and (Stable.const.and (Stable.const.and Stable.three)))) (fun _ _ _ _ => trivial) ?_ (fun i m m' hi hlt hu Si jn => ?_) (fun m hf Sf => ?_)
  · exact ⟨⟨rfl, rfl, rfl, rfl, rfl, _, rfl⟩, true, rS, rU, rfl, by simp; intro r h1 h2; lia, Foot3Ok.refl, by rw [Nat.add_zero, redR_zero, redR_zero]; exact S3.dat⟩
  · obtain ⟨t, rfl⟩ := hu
    obtain ⟨C, b, rS', rU', nd, hb', fo, T'⟩ := Si.dat
    obtain ⟨tl', nl⟩ := C.lead
    have S := Si.with Stable.three T'
    have er : ((step : Int) + 1 + (i : Int)) = ((step + 1 + i : Nat) : Int) := by rfl
    rw [er] at S
    have hrm : step + 1 + i < mm := by omega
    have C1 := C.upd (x := "row") (v := .int ((step + 1 + i : Nat) : Int) t) (.inl rfl)
    have hzi : h.objs.size ≤ hi.objs.size := (jn _ _ _ Si).ext.size
    generalize hr : step + 1 + i = r at *
    have hsr : step < r := by lia
    have q1 : redR X (quoR X step) step r r step = X r step := redR_at (.inl (Nat.le_refl r))
    refine T_cons <| T_asName <| T_bin <| T_sub <| T_sub <| T_loc S C1.s <| T_loc S upd_same <| T_itemR S.dat.s.outer rfl hrm (by exact Nat.le_trans (by assumption) (by decide)) <| T_cel S C1.step <| T_itemI (S.dat.s.row _ hrm) rfl hs2 (by exact Nat.le_trans (by assumption) (by decide)) fun _ => T_loc S (un nl) <| T_fdiv S R1 G.nolimit G.noseer G.tree hne fun tq => ?_
    rw [q1]
    change Tr _ _ _ (storeName _ _ (.int (quoR X step r) tq)) _ _
    refine T_st S asgC fun h5 S => ?_
    have hz5 : h.objs.size ≤ h5.objs.size := Nat.le_trans hzi S.ext.size
    have C2 := C1.upd (x := "many") (v := .int (quoR X step r) tq) (.inr (.inr (.inl rfl)))
    refine T_cons <| T_forPairC (v1 := .ref aS) (v2 := .ref aU) hR S asgC (fun Q' q => T_loc S C2.s q) (fun Q' q => T_loc S C2.u q)
      (fun hh => ∃ rS2, Foot3Ok h aS aU aV rS rU rV mm n rS2 rU' rV ∧ Three h0.objs.size aS aU aV rS2 rU' rV mm n (redR X (quoR X step) step (r + 1)) (redR U (quoR X step) step r) V hh)
      (fun hh => ∃ rS2 rU2, Foot3Ok h aS aU aV rS rU rV mm n rS2 rU2 rV ∧ Three h0.objs.size aS aU aV rS2 rU2 rV mm n (redR X (quoR X step) step (r + 1)) (redR U (quoR X step) step (r + 1)) V hh)
      (Stable.ex fun _ => Stable.const.and Stable.three) (Stable.ex fun _ => Stable.ex fun _ => Stable.const.and Stable.three) (fun h8 hz8 S => ?_) (fun h8 hz8 S => ?_) (fun h8 S => ?_)
    · have C3 := C2.upd (x := "a") (v := .ref aS) (.inr (.inl rfl))
      refine T_cons <| T_asSub <| T_enumComp (r := rS' r) (n := n) (g := redR X (quoR X step) step r r) (fun c => redR X (quoR X step) step r r c - quoR X step r * redR X (quoR X step) step r step c) S hR G.nm (fun h M => M.s.row r hrm) (by exact Nat.le_trans (by assumption) (by decide))
        (fun D' Q' Si q => T_sub <| T_cel Si upd_same <| T_loc Si (un <| un upd_same) <| T_itemR Si.dat.s.outer rfl hrm (by exact Nat.le_trans (by assumption) (by decide)) q) (fun C' c mi t0 t1 hi' hc hf Y => ?_) (fun acc h6 hacc S6 => ?_)
      · refine T_bin <| T_loc Y upd_same <| T_bin <| T_cel Y ((hf "many" rfl).trans (un upd_same)) <| T_sub <| T_sub <| T_cel Y ((hf "a" rfl).trans upd_same) <| T_cel Y ((hf "step" rfl).trans C3.step) <| T_itemR Y.dat.s.outer rfl hs1 (by exact Nat.le_trans (by assumption) (by decide)) <|
          T_loc Y (un upd_same) <| T_itemI (Y.dat.s.row step hs1) rfl hc (by exact Nat.le_trans (by assumption) (by decide)) fun _ => T_mul ?_ fun _ => T_subi fun _ => ⟨rfl, _, rfl⟩
        rw [redR_at (.inr (Nat.le_refl step))]; exact okS r c hsr hrm hc
      · refine T_cel S6 upd_same <| T_loc S6 (un <| un upd_same) <| T_putS S6 S6.dat.1 S6.dat.2 S.dat hacc rfl hrm (by exact Nat.le_trans (by assumption) (by decide)) (.inl (.inl (.inl rfl))) fun rS2 h7 fo2 S7 => T_nil ⟨rfl, S7.with (Stable.ex fun _ => Stable.const.and Stable.three) ⟨rS2, fo.trans (Nat.le_trans hz5 hz8) fo2, ?_⟩⟩
        rw [← redR_succ _ _ hsr]; exact S7.dat
    · have C3 := C2.upd (x := "a") (v := .ref aU) (.inr (.inl rfl))
      obtain ⟨rS2, fo2, T2⟩ := S.dat
      have S := S.with Stable.three T2
      refine T_cons <| T_asSub <| T_enumComp (r := rU' r) (n := mm) (g := redR U (quoR X step) step r r) (fun c => redR U (quoR X step) step r r c - quoR X step r * redR U (quoR X step) step r step c) S hR G.nm (fun h M => M.u.row r hrm) (by exact Nat.le_trans (by assumption) (by decide))
        (fun D' Q' Si q => T_sub <| T_cel Si upd_same <| T_loc Si (un <| un upd_same) <| T_itemR Si.dat.u.outer rfl hrm (by exact Nat.le_trans (by assumption) (by decide)) q) (fun C' c mi t0 t1 hi' hc hf Y => ?_) (fun acc h6 hacc S6 => ?_)
      · refine T_bin <| T_loc Y upd_same <| T_bin <| T_cel Y ((hf "many" rfl).trans (un upd_same)) <| T_sub <| T_sub <| T_cel Y ((hf "a" rfl).trans upd_same) <| T_cel Y ((hf "step" rfl).trans C3.step) <| T_itemR Y.dat.u.outer rfl hs1 (by exact Nat.le_trans (by assumption) (by decide)) <|
          T_loc Y (un upd_same) <| T_itemI (Y.dat.u.row step hs1) rfl hc (by exact Nat.le_trans (by assumption) (by decide)) fun _ => T_mul ?_ fun _ => T_subi fun _ => ⟨rfl, _, rfl⟩
        rw [redR_at (.inr (Nat.le_refl step))]; exact okU r c hsr hrm hc
      · refine T_cel S6 upd_same <| T_loc S6 (un <| un upd_same) <| T_putU S6 S6.dat.1 S6.dat.2 S.dat hacc rfl hrm (by exact Nat.le_trans (by assumption) (by decide)) (.inl (.inr (.inl (.inl rfl)))) fun rU2 h7 fo3 S7 => T_nil ⟨rfl, S7.with (Stable.ex fun _ => Stable.ex fun _ => Stable.const.and Stable.three) ⟨rS2, rU2, fo2.trans (Nat.le_trans hz5 hz8) fo3, ?_⟩⟩
        have := S7.dat
        rw [redR_succ _ _ hsr] at this; exact this
    · obtain ⟨rS2, rU2, fo2, T2⟩ := S.dat
      have S := S.with Stable.three T2
      have C3 := C2.upd (x := "a") (v := .ref aU) (.inr (.inl rfl))
      have e1 : redR X (quoR X step) step (r + 1) r step = redR X (quoR X step) step mm r step := by unfold redR; rw [if_pos (by grind), if_pos (by grind)]
      have fin : ∀ m' b' hh, CCn m' aS aU aV step n ts tn (X step step) → m' "is_done" = some (.bool b') → (b' = true ↔ b = true ∧ redR X (quoR X step) step mm r step = 0) →
          Ses h0 hi (Dn (Foot3 aS aU aV rS rU rV mm n) h) (envF "clear_cross" (scopeN 11) h.objs.size (fa 11) (cd 11)) m' (fun hh => Three h0.objs.size aS aU aV rS2 rU2 rV mm n (redR X (quoR X step) step (r + 1)) (redR U (quoR X step) step (r + 1)) V hh) hh →
          ∃ m', Ses h0 hi (Dn (Foot3 aS aU aV rS rU rV mm n) h) (envF "clear_cross" (scopeN 11) h.objs.size (fa 11) (cd 11)) m' (fun hh => CCn m' aS aU aV step n ts tn (X step step) ∧ ∃ b rS' rU', m' "is_done" = some (.bool b) ∧ (b = true ↔ ∀ r, step < r → r < step + 1 + (i + 1) → redR X (quoR X step) step mm r step = 0) ∧ Foot3Ok h aS aU aV rS rU rV mm n rS' rU' rV ∧
            Three h0.objs.size aS aU aV rS' rU' rV mm n (redR X (quoR X step) step (step + 1 + (i + 1))) (redR U (quoR X step) step (step + 1 + (i + 1))) V hh) hh := fun m' b' hh a1 a2 a3 Y => by
        have e : step + 1 + (i + 1) = r + 1 := by grind
        refine ⟨m', Y.with (Stable.const.and (Stable.ex fun _ => Stable.ex fun _ => Stable.ex fun _ => Stable.const.and (Stable.const.and (Stable.const.and Stable.three)))) ⟨a1, b', rS2, rU2, a2, ?_, fo2, by rw [e]; exact Y.dat⟩⟩
        rw [a3, hb', e]
        constructor
        · rintro ⟨h1, h2⟩ r' g1 g2
          rcases Nat.lt_or_ge r' r with g | g
          · exact h1 r' g1 g
          · obtain rfl : r' = r := by lia
            exact h2
        · exact fun h1 => ⟨fun r' g1 g2 => h1 r' g1 (by grind), h1 r hsr (by simp +arith only [*])⟩
      refine T_cons <| T_asName <| T_and <| T_loc S (un <| un <| un nd) <| T_truthyB ?_
      cases b with
      | true =>
        rw [if_pos rfl]
        refine T_cmp <| T_sub <| T_sub <| T_loc S C3.s <| T_loc S (un <| un upd_same) <| T_itemR S.dat.s.outer rfl hrm (by exact Nat.le_trans (by assumption) (by decide)) <| T_cel S C3.step <| T_itemI (S.dat.s.row _ hrm) rfl hs2 (by exact Nat.le_trans (by assumption) (by decide)) fun _ => T_int fun _ => T_eq <| T_st S asgL fun h9 S => T_nil <| fin _ _ _ (C3.upd (.inr (.inr (.inr (.inr rfl))))) upd_same ?_ S
        rw [e1]; simp
      | false =>
        rw [if_neg (by simp)]
        exact T_st S asgL fun h9 S => T_nil <| fin _ _ _ (C3.upd (.inr (.inr (.inr (.inr rfl))))) upd_same (by simp) S
  · obtain ⟨C, b, rS', rU', nd, hb', fo, T'⟩ := Sf.dat
    have e : step + 1 + (mm - (step + 1)) = mm := by grind
    rw [e] at hb' T'
    exact cols m _ b rS' rU' C nd hb' fo (Sf.with Stable.three T')
end
end Mine
namespace Mine
section
variable {prog : Program} {w : World} {h0 : Heap} {fa : Nat → Addr} {cd : Nat → Value}
noncomputable def Und (B : Nat → Nat → Int) (step m n : Nat) (f : Option Nat) (v : Value) : Prop := match f with
  | none => v = .none ∧ ∀ r c, step < r → r < m → step < c → c < n → (B r c).fmod (B step step) = 0
  | some r => (∃ t, v = .int (r : Int) t) ∧ step < r ∧ r < m ∧ ∃ c, step < c ∧ c < n ∧ (B r c).fmod (B step step) ≠ 0
noncomputable def UndOut (h0 hs : Heap) (D : Addr → Prop) (env : Env) (m : Str → Option Value) (P : Heap → Prop) (p : Prop) (v : Value) (h : Heap) : Prop :=
  ∃ acc l, v = .ref acc ∧ Ses h0 hs D env m (fun h => P h ∧ IntL h acc l) h ∧ (l = [] ↔ p)
set_option maxHeartbeats 4000000 in
theorem undivided_walk {A : Around} {k : Nat} {h : Heap} {a : Addr} {rows : Nat → Addr} {mm n step : Nat} {B : Nat → Nat → Int} {ts tn : Tok} {Q : Value → Heap → Prop} (G : Gr prog h0 fa cd)
    (R : Rm A (k + 1)) (hb : ∀ b o, h0.get? b = some o → h.get? b = some o) (hsz : h0.objs.size ≤ h.objs.size) (M : Mat h0.objs.size h a rows mm n B)
    (hm : mm ≤ 100) (hn : n ≤ 100) (hs1 : step < mm) (hs2 : step < n) (hne : B step step ≠ 0)
    (q : ∀ f v h', Ext (fun _ => False) h h' → Und B step mm n f v → Q v h') :
    Tr prog w A (call (.ref (fa 12)) [.ref a, .int (step : Int) ts, .int (n : Int) tn]) h Q := by
  refine T_fn (P := fun h => Mat h0.objs.size h a rows mm n B) G.undivided_row hb hsz G.nolimit R (fun _ => False) (fun _ f => f.elim) (Stable.mat _ _ _ _ _ _) M
    (binds := [("s", .ref a), ("step", .int (step : Int) ts), ("width", .int (n : Int) tn)]) (fun _ _ _ _ _ => rfl) (by rfl) fun L h1 hL S R1 => ?_
  subst hL
  have hR := R1.handled
  refine T_cons <| T_for <| T_call <| T_glo S G.nm.range <| T_cwT <| T_sp <| T_bin <| T_cel S rfl <| T_int fun _ => T_add fun _ => T_sp <| T_call <| T_glo S G.nm.len <| T_cwB <| T_sp <| T_cel S rfl <| T_sp0 <| T_lenR S.dat.outer (by exact Nat.le_trans (by assumption) (by decide)) fun _ => T_sp0 <| T_range2 S fun r h9 _ _ _ S2 hr => ?_
  refine T_iterRange S2 hr (by solve_by_elim (maxDepth := 3) only [*, Nat.le_of_lt, Nat.lt_of_lt_of_le, Nat.lt_of_le_of_lt, Nat.le_trans, Nat.pos_of_ne_zero, Nat.ne_of_gt, Nat.le_refl, Nat.lt_trans, Nat.succ_ne_zero, Nat.le_add_right, Nat.ne_of_lt, Ne.symm, Nat.succ_le_of_lt, Nat.lt_irrefl, absurd]) (by lia) (by solve_by_elim (maxDepth := 3) only [*, Nat.le_of_lt, Nat.lt_of_lt_of_le, Nat.lt_of_le_of_lt, Nat.le_trans, Nat.pos_of_ne_zero, Nat.ne_of_gt, Nat.le_refl, Nat.lt_trans, Nat.succ_ne_zero, Nat.le_add_right, Nat.ne_of_lt, Ne.symm, Nat.succ_le_of_lt, Nat.lt_irrefl, absurd]) (by lia) fun I h10 S3 hI0 hIge hI => ?_
  have e0 : ((mm : Int) - ((step : Int) + 1)).toNat = mm - (step + 1) := by lia
  rw [e0] at hI
  refine T_forD (n := mm - (step + 1)) (drawRange (a := (step : Int) + 1) hR asgC (new_none S2 hIge)) S3 (by simpa using hI)
    (fun i m hh => (m "s" = some (.ref a) ∧ m "step" = some (.int (step : Int) ts) ∧ m "width" = some (.int (n : Int) tn)) ∧ (∀ r c, step < r → r < step + 1 + i → step < c → c < n → (B r c).fmod (B step step) = 0) ∧ Mat h0.objs.size hh a rows mm n B)
    (fun i m => Stable.const.and (Stable.const.and (Stable.mat _ _ _ _ _ _))) (fun _ _ _ _ => trivial) ?_ (fun i m m' hi hlt hu Si jn => ?_) (fun m hf Sf => ?_)
  · exact ⟨⟨rfl, rfl, rfl⟩, fun r c h1 h2 => by grind, S3.dat⟩
  · obtain ⟨t, rfl⟩ := hu
    obtain ⟨⟨n1, n2, n3⟩, hall, hM⟩ := Si.dat
    have S := Si.with (Stable.mat _ _ _ _ _ _) hM
    have er : ((step : Int) + 1 + (i : Int)) = ((step + 1 + i : Nat) : Int) := by solve_by_elim (maxDepth := 3) only [*, Nat.le_of_lt, Nat.lt_of_lt_of_le, Nat.lt_of_le_of_lt, Nat.le_trans, Nat.pos_of_ne_zero, Nat.ne_of_gt, Nat.le_refl, Nat.lt_trans, Nat.succ_ne_zero, Nat.le_add_right, Nat.ne_of_lt, Ne.symm, Nat.succ_le_of_lt, Nat.lt_irrefl, absurd]
    rw [er] at S
    have hrm : step + 1 + i < mm := by omega
    have jn' := jn _ _ _ Si
    rw [er] at jn'
    generalize hr : step + 1 + i = r at *
    have hsr : step < r := by lia
    have SI := S.inner
    refine T_cons <| T_if <| T_tcmp <| Tr.mono (Q := UndOut h0 hi (Dn (fun _ => False) h) (envF "undivided_row" (scopeN 12) h.objs.size (fa 12) (cd 12)) (upd m "row" (.int (r : Int) t)) (fun h => Mat h0.objs.size h a rows mm n B) (∀ c, step < c → c < n → (B r c).fmod (B step step) = 0)) ?_ ?_
    · refine T_compE <| T_call <| T_glo SI G.nm.range <| T_cwT <| T_sp <| T_bin <| T_cel SI (un n2) <| T_int fun _ => T_add fun _ => T_sp <| T_loc SI (un n3) <| T_sp0 <| T_range2 SI fun r2 h11 _ _ _ SI2 hr2 => ?_
      refine T_iterRange SI2 hr2 (by solve_by_elim (maxDepth := 3) only [*, Nat.le_of_lt, Nat.lt_of_lt_of_le, Nat.lt_of_le_of_lt, Nat.le_trans, Nat.pos_of_ne_zero, Nat.ne_of_gt, Nat.le_refl, Nat.lt_trans, Nat.succ_ne_zero, Nat.le_add_right, Nat.ne_of_lt, Ne.symm, Nat.succ_le_of_lt, Nat.lt_irrefl, absurd]) (by lia) (by solve_by_elim (maxDepth := 3) only [*, Nat.le_of_lt, Nat.lt_of_lt_of_le, Nat.lt_of_le_of_lt, Nat.le_trans, Nat.pos_of_ne_zero, Nat.ne_of_gt, Nat.le_refl, Nat.lt_trans, Nat.succ_ne_zero, Nat.le_add_right, Nat.ne_of_lt, Ne.symm, Nat.succ_le_of_lt, Nat.lt_irrefl, absurd]) (by lia) fun I2 h12 SI3 hI02 hIge2 hI2 => ?_
      have e1 : ((n : Int) - ((step : Int) + 1)).toNat = n - (step + 1) := by lia
      rw [e1] at hI2
      refine compGoE S SI3 (n := n - (step + 1)) (St := fun i h => IsRangeIter h I2 ((step : Int) + 1 + (i : Int)) (((n - (step + 1) : Nat) : Int) - (i : Int)) 1) (by simpa using hI2)
        (fun C hC => drawRange hR (.inl ⟨rfl, rfl, SI3.nw _ (by have := SI3.ext.size; show _ ≤ C; lia)⟩) (new_none SI2 hIge2)) (hU1 (by decide))
        (fun j ys h => KD h12 h ∧ (∃ l, Ints ys l) ∧ (ys = [] ↔ ∀ c, step < c → c < step + 1 + j → (B r c).fmod (B step step) = 0)) (fun j ys => StableX.kd.and .const) (fun _ _ _ _ => trivial) ⟨KD.refl _, ⟨[], trivial⟩, by simp; intro c; grind⟩ (by rw [sizeLine_eq]; grind)
        (fun acc C j ys m' hi ea eC hlt2 hlen hm hu X => ?_) (fun acc ys h' ea hlen X => ?_)
      · obtain ⟨mi, u, rfl⟩ := hu
        have XM : Mat h0.objs.size hi a rows mm n B := SI3.st _ _ SI3.dat X.dat.1.1
        have ec : ((step : Int) + 1 + (j : Int)) = ((step + 1 + j : Nat) : Int) := by solve_by_elim (maxDepth := 3) only [*, Nat.le_of_lt, Nat.lt_of_lt_of_le, Nat.lt_of_le_of_lt, Nat.le_trans, Nat.pos_of_ne_zero, Nat.ne_of_gt, Nat.le_refl, Nat.lt_trans, Nat.succ_ne_zero, Nat.le_add_right, Nat.ne_of_lt, Ne.symm, Nat.succ_le_of_lt, Nat.lt_irrefl, absurd]
        rw [ec] at X
        have hcn : step + 1 + j < n := by grind
        refine T_tests1 <| T_tcmp <| T_bin <| T_sub <| T_sub <| T_cel X (by rw [← ec]; exact (hm "s" rfl).trans (un n1)) <| T_cel X (by rw [← ec]; exact (hm "row" rfl).trans upd_same) <| T_itemR XM.outer rfl hrm (by exact Nat.le_trans (by assumption) (by decide)) <| T_loc X upd_same <| T_itemI (XM.row r hrm) rfl hcn (by exact Nat.le_trans (by assumption) (by decide)) fun _ =>
          T_sub <| T_sub <| T_cel X (by rw [← ec]; exact (hm "s" rfl).trans (un n1)) <| T_cel X (by rw [← ec]; exact (hm "step" rfl).trans (un n2)) <| T_itemR XM.outer rfl hs1 (by exact Nat.le_trans (by assumption) (by decide)) <| T_cel X (by rw [← ec]; exact (hm "step" rfl).trans (un n2)) <| T_itemI (XM.row step hs1) rfl hs2 (by exact Nat.le_trans (by assumption) (by decide)) fun _ => T_mod hne fun _ => T_int fun _ => T_ne <| T_truthyB ?_
        by_cases hz : (B r (step + 1 + j)).fmod (B step step) = 0
        · rw [if_neg (by simp [hz])]
          rw [ec]
          refine X.with ((StableX.kd.stable.and .const).and (Stable.list _ _)) ⟨⟨X.dat.1.1, X.dat.1.2.1, X.dat.1.2.2.trans ⟨fun g c h1 h2 => ?_, fun g c h1 h2 => g c h1 (by lia)⟩⟩, X.dat.2⟩
          rcases Nat.lt_or_ge c (step + 1 + j) with h | h
          · exact g c h1 h
          · obtain rfl : c = step + 1 + j := by lia
            exact hz
        · rw [if_pos (by simpa using hz)]
          rw [ec]
          refine T_int fun tv => X.with ((StableX.kd.stable.and .const).and (Stable.list _ _)) ⟨⟨X.dat.1.1, X.dat.1.2.1.imp' (· ++ [1]) fun l hl => hl.snoc, ?_⟩, X.dat.2⟩
          simp only [List.append_eq_nil_iff, List.cons_ne_nil, and_false, false_iff]
          exact fun g => hz (g _ (by solve_by_elim (maxDepth := 3) only [*, Nat.le_of_lt, Nat.lt_of_lt_of_le, Nat.lt_of_le_of_lt, Nat.le_trans, Nat.pos_of_ne_zero, Nat.ne_of_gt, Nat.le_refl, Nat.lt_trans, Nat.succ_ne_zero, Nat.le_add_right, Nat.ne_of_lt, Ne.symm, Nat.succ_le_of_lt, Nat.lt_irrefl, absurd]) (by solve_by_elim (maxDepth := 3) only [*, Nat.le_of_lt, Nat.lt_of_lt_of_le, Nat.lt_of_le_of_lt, Nat.le_trans, Nat.pos_of_ne_zero, Nat.ne_of_gt, Nat.le_refl, Nat.lt_trans, Nat.succ_ne_zero, Nat.le_add_right, Nat.ne_of_lt, Ne.symm, Nat.succ_le_of_lt, Nat.lt_irrefl, absurd]))
      · have XM : Mat h0.objs.size h' a rows mm n B := SI3.st _ _ SI3.dat X.dat.1.1
        obtain ⟨⟨_, ⟨l, hl⟩, hiff⟩, hLst⟩ := X.dat
        have eN : step + 1 + (n - (step + 1)) = n := by grind
        rw [eN] at hiff
        have hll := hl.len
        refine ⟨acc, l, rfl, X.with ((Stable.mat _ _ _ _ _ _).and (Stable.intL _ _)) ⟨XM, _, hLst, by simpa using hl⟩, ?_⟩
        rw [← hiff]
        exact ⟨fun e => by subst e; exact List.length_eq_zero_iff.mp hll, fun e => by subst e; exact List.length_eq_zero_iff.mp hll.symm⟩
    · intro v h' hv
      obtain ⟨acc, l, rfl, Y, hiff⟩ := hv
      refine T_lst <| T_sp0 <| T_newList Y fun p h13 _ Y => T_neI R1 (x := l) (y := []) Y.dat.1.2 ⟨_, Y.dat.2, trivial⟩ <| T_truthyB ?_
      by_cases hz : l = []
      · rw [if_neg (by simp [hz])]
        refine T_nil <| T_nil ⟨_, Y.with (Stable.const.and (Stable.const.and (Stable.mat _ _ _ _ _ _))) ⟨⟨un n1, un n2, un n3⟩, fun r' c h1 h2 h3 h4 => ?_, Y.dat.1.1⟩⟩
        rcases Nat.lt_or_ge r' r with g | g
        · exact hall r' c h1 g h3 h4
        · obtain rfl : r' = r := by lia
          exact hiff.mp hz c h3 h4
      · rw [if_pos (by simpa using hz)]
        refine T_cons <| T_ret <| T_cel Y upd_same <| q (some r) _ _ (jn'.join Y).back ⟨⟨_, rfl⟩, hsr, hrm, ?_⟩
        exact Classical.byContradiction fun g => hz (hiff.mpr fun c h1 h2 => Classical.byContradiction fun h3 => g ⟨c, h1, h2, h3⟩)
  · obtain ⟨_, hall, _⟩ := Sf.dat
    exact T_cons <| T_ret <| T_none <| q none _ _ Sf.back ⟨rfl, fun r c h1 h2 h3 h4 => hall r c h1 (by grind) h3 h4⟩
end
end Mine
namespace Mine
section
variable {prog : Program} {w : World} {h0 : Heap} {fa : Nat → Addr} {cd : Nat → Value}
set_option maxHeartbeats 4000000 in
theorem diagonal_walk {A : Around} {k : Nat} {h : Heap} {a : Addr} {rows : Nat → Addr} {mm n : Nat} {B : Nat → Nat → Int} {tn : Tok} {Q : Value → Heap → Prop} (G : Gr prog h0 fa cd)
    (R : Rm A (k + 1)) (hb : ∀ b o, h0.get? b = some o → h.get? b = some o) (hsz : h0.objs.size ≤ h.objs.size) (M : Mat h0.objs.size h a rows mm n B)
    (hm : mm ≤ 100) (hn : n ≤ 100)
    (q : ∀ r h', Ext (fun _ => False) h h' → h.objs.size ≤ r → IntRow h' r (min mm n) (fun i => B i i) → Q (.ref r) h') :
    Tr prog w A (call (.ref (fa 14)) [.ref a, .int (n : Int) tn]) h Q := by
  refine T_fn (P := fun h => Mat h0.objs.size h a rows mm n B) G.diagonal hb hsz G.nolimit R (fun _ => False) (fun _ f => f.elim) (Stable.mat _ _ _ _ _ _) M
    (binds := [("s", .ref a), ("width", .int (n : Int) tn)]) (fun _ _ _ _ _ => rfl) (by rfl) fun L h1 hL S R1 => ?_
  subst hL
  have hR := R1.handled
  have SI := S.inner
  refine T_cons <| T_ret <| T_compE <| T_call <| T_glo SI G.nm.range <| T_cwT <| T_sp <| T_call <| T_glo SI G.nm.min <| T_cwB <| T_sp <| T_call <| T_glo SI G.nm.len <| T_cwB <| T_sp <| T_cel SI rfl <| T_sp0 <| T_lenR SI.dat.outer (by exact Nat.le_trans (by assumption) (by decide)) fun _ => T_sp <| T_loc SI rfl <| T_sp0 <| T_min hR SI fun _ h2 SI _ => T_sp0 <|
    T_range1 SI fun r h3 _ _ _ SI2 hr => ?_
  have em : min (mm : Int) (n : Int) = ((min mm n : Nat) : Int) := by omega
  rw [em] at hr
  refine T_iterRange SI2 hr (by exact Int.natCast_nonneg _) (by exact Int.natCast_nonneg _) (by exact Int.natCast_nonneg _) (by lia) fun I h4 S3 hI0 hIge hI => ?_
  have e0 : (((min mm n : Nat) : Int) - 0).toNat = min mm n := by rfl
  rw [e0] at hI
  refine compInts (n := min mm n) (fun i => B i i) S S3 (St := fun i h => IsRangeIter h I (0 + (i : Int)) (((min mm n : Nat) : Int) - (i : Int)) 1) (by simpa using hI)
    (fun C hC => drawRange hR (.inl ⟨rfl, rfl, S3.nw _ (by have := S3.ext.size; show _ ≤ C; lia)⟩) (new_none SI2 hIge)) (hU1 (by decide)) (fun _ _ => trivial) (by rw [sizeLine_eq]; lia)
    (fun C j m' hj hlt2 hm2 hu Y => ?_) (fun acc h' e Y => ?_)
  · obtain ⟨mj, u, rfl⟩ := hu
    have ej : ((0 : Int) + (j : Int)) = (j : Int) := by simp +arith only [*]
    rw [ej] at Y
    exact T_sub <| T_sub <| T_cel Y (by rw [← ej]; exact (hm2 "s" rfl).trans rfl) <| T_loc Y upd_same <| T_itemR Y.dat.outer rfl (by grind) (by exact Nat.le_trans (by assumption) (by decide)) <| T_loc Y upd_same <| T_itemI (Y.dat.row j (by omega)) rfl (by grind) (by exact Nat.le_trans (by assumption) (by decide)) fun t => ⟨rfl, t, rfl⟩
  · exact q acc h' Y.back (by have := S3.ext.size; have := S.ext.size; lia) Y.dat.2
end
end Mine
namespace Mine
section
variable {prog : Program} {w : World} {h0 : Heap} {fa : Nat → Addr} {cd : Nat → Value}
/-- what smith_form holds between two turns -/
structure SMst (N : Nat) (hc : Heap) (aS aU aV : Addr) (m n : Nat) (I : Nat → Nat → (Nat → Nat → Int) → (Nat → Nat → Int) → (Nat → Nat → Int) → Prop) (k step : Nat) (h : Heap) (rS rU rV : Nat → Addr) (S U V : Nat → Nat → Int) : Prop where
  three : Three N aS aU aV rS rU rV m n S U V h
  inv : I k step S U V
  nw : ∀ b, Foot3 aS aU aV rS rU rV m n b → hc.objs.size ≤ b
theorem Stable.smst {N hc aS aU aV m n I k step rS rU rV S U V} : Stable (fun h => SMst N hc aS aU aV m n I k step h rS rU rV S U V) := fun h h' x q => { x with three := Stable.three h h' x.three q }
structure SMn (m : Str → Option Value) (aS aU aV : Addr) (step n : Nat) (tn : Tok) : Prop where
  s : m "s" = some (.ref aS)
  u : m "u" = some (.ref aU)
  v : m "v" = some (.ref aV)
  width : m "width" = some (.int (n : Int) tn)
  step : ∃ t, m "step" = some (.int (step : Int) t)
theorem SMn.upd {m : Str → Option Value} {aS aU aV : Addr} {step n : Nat} {tn : Tok} {x : Str} {v : Value} (X : SMn m aS aU aV step n tn) (h : x = "row" ∨ x = "spot" ∨ x = "b") : SMn (upd m x v) aS aU aV step n tn := by
  have k : ∀ y : Str, y ≠ "row" → y ≠ "spot" → y ≠ "b" → Mine.upd m x v y = m y := fun y h1 h2 h3 => upd_ne (fun e => by subst e; rcases h with h | h | h <;> contradiction) rfl
  exact ⟨(k "s" (by decide) (by decide) (by decide)).trans X.s, (k "u" (by decide) (by decide) (by decide)).trans X.u, (k "v" (by decide) (by decide) (by decide)).trans X.v, (k "width" (by decide) (by decide) (by decide)).trans X.width,
    X.step.imp fun _ e => (k "step" (by decide) (by decide) (by decide)).trans e⟩
theorem Foot3Ok.nw {h hc : Heap} {aS aU aV rS rU rV m n rS' rU' rV'} (x : Foot3Ok h aS aU aV rS rU rV m n rS' rU' rV') (hz : hc.objs.size ≤ h.objs.size) (w : ∀ b, Foot3 aS aU aV rS rU rV m n b → hc.objs.size ≤ b) : ∀ b, Foot3 aS aU aV rS' rU' rV' m n b → hc.objs.size ≤ b :=
  fun b hb => (x b hb).elim (w b) (Nat.le_trans hz)
noncomputable def wbody : List Stmt := match (bodyN 13).drop 2 with | .While _ b _ _ :: _ => b | _ => []
set_option maxHeartbeats 8000000 in
theorem smith_walk {A : Around} {k k0 : Nat} {h : Heap} {a : Addr} {rows : Nat → Addr} {mm n : Nat} {B : Nat → Nat → Int} {tn : Tok} {Q : Value → Heap → Prop} {I : Nat → Nat → (Nat → Nat → Int) → (Nat → Nat → Int) → (Nat → Nat → Int) → Prop} {Rs : (Nat → Nat → Int) → Prop} (G : Gr prog h0 fa cd)
    (R : Rm A (k + 3)) (hb : ∀ b o, h0.get? b = some o → h.get? b = some o) (hsz : h0.objs.size ≤ h.objs.size) (M : RefRow h a mm rows ∧ ∀ i, i < mm → IntRow h (rows i) n (B i))
    (hm : mm ≤ 100) (hn : n ≤ 100) (plan : SPlan IntMulOk mm n I Rs) (h00 : I k0 0 B unitM unitM)
    (q : ∀ p h' aS aU aV rS S, Ext (fun _ => False) h h' → h'.IsTuple p #[.ref aS, .ref aU, .ref aV] → Mat h0.objs.size h' aS rS mm n S → Rs S → Q (.ref p) h') :
    Tr prog w A (call (.ref (fa 13)) [.ref a, .int (n : Int) tn]) h Q := by
  refine T_fn (P := fun h => RefRow h a mm rows ∧ ∀ i, i < mm → IntRow h (rows i) n (B i)) G.smith_form hb hsz G.nolimit R (fun _ => False) (fun _ f => f.elim)
    ((Stable.refRow _ _ _).and (Stable.all fun _ => Stable.imp (Stable.intRow _ _ _))) M (binds := [("a", .ref a), ("width", .int (n : Int) tn)]) (fun _ _ _ _ _ => rfl) (by rfl) fun L h1 hL S R1 => ?_
  subst hL
  have hR := R1.handled
  obtain ⟨oU, fU, kU⟩ := fnAtOf G.unit_rows
  obtain ⟨oL, fL, kL⟩ := fnAtOf G.least_spot
  obtain ⟨oB, fB, kB⟩ := fnAtOf G.bring
  obtain ⟨oC, fC, kC⟩ := fnAtOf G.clear_cross
  obtain ⟨oD, fD, kD⟩ := fnAtOf G.undivided_row
  refine T_cons <| T_asSwap (names := ["s", "u", "v"]) <| T_tup <| T_sp <| T_copyComp (a := a) (rows := rows) (mm := mm) (n := n) (B := B) S hR G.nm (fun _ q => q) (by exact Nat.le_trans (by assumption) (by decide)) (by exact Nat.le_trans (by assumption) (by decide)) (fun D' Q' Si q => T_loc Si rfl q) fun aS rS h2 hge hgr S2 => ?_
  have geS : h.objs.size ≤ aS := Nat.le_trans S.ext.size hge
  refine T_sp <| T_call <| T_glo S2 G.nm.unit_rows <| T_cwF <| T_sp <| T_call <| T_glo S2 G.nm.len <| T_cwB <| T_sp <| T_loc S2 rfl <| T_sp0 <| T_lenR S2.dat.1.1 (by exact Nat.le_trans (by assumption) (by decide)) fun t1 => T_sp0 ⟨kU _ S2.base, ?_⟩
  refine unit_rows_walk G R1 S2.base S2.gsz (by exact Nat.le_trans (by assumption) (by decide)) fun aU rU h3 e3 geU MU hrU => ?_
  have hz2 := S2.ext.size
  have hz3 : h2.objs.size ≤ h3.objs.size := e3.size
  have S3 := (S2.after0 e3).with ((Stable.mat h0.objs.size aS rS mm n B).and (Stable.mat h0.objs.size aU rU mm mm unitM)) ⟨S2.dat.2.ext e3 (fun _ _ f => f), MU⟩
  refine T_sp <| T_call <| T_glo S3 G.nm.unit_rows <| T_cwF <| T_sp <| T_loc S3 rfl <| T_sp0 ⟨kU _ S3.base, ?_⟩
  refine unit_rows_walk G R1 S3.base S3.gsz (by exact Nat.le_trans (by assumption) (by decide)) fun aV rV h4 e4 geV MV hrV => ?_
  have fS : ∀ x, Foot aS rS mm x → x < h2.objs.size := fun x q => S2.dat.2.foot_lt q
  have fU' : ∀ x, Foot aU rU mm x → h2.objs.size ≤ x ∧ x < h3.objs.size := fun x q => ⟨by
    rcases q with e | ⟨i, hi, e⟩
    · rw [e]; exact geU
    · rw [e]; exact hrU i hi, MU.foot_lt q⟩
  have fV : ∀ x, Foot aV rV n x → h3.objs.size ≤ x := fun x q => by
    rcases q with e | ⟨i, hi, e⟩
    · rw [e]; exact geV
    · rw [e]; exact hrV i hi
  have T0 : Three h0.objs.size aS aU aV rS rU rV mm n B unitM unitM h4 :=
    { s := S3.dat.1.ext e4 (fun _ _ f => f), u := S3.dat.2.ext e4 (fun _ _ f => f), v := MV
      su := fun x q1 q2 => Nat.lt_irrefl _ (Nat.lt_of_lt_of_le (fS x q1) (fU' x q2).1)
      sv := fun x q1 q2 => Nat.lt_irrefl _ (Nat.lt_of_lt_of_le (fS x q1) (Nat.le_trans hz3 (fV x q2)))
      uv := fun x q1 q2 => Nat.lt_irrefl _ (Nat.lt_of_lt_of_le (fU' x q1).2 (fV x q2)) }
  have nw0 : ∀ b, Foot3 aS aU aV rS rU rV mm n b → h.objs.size ≤ b := by
    rintro b ((e | ⟨i, hi, e⟩) | q | q)
    · rw [e]; exact geS
    · rw [e]; exact Nat.le_trans geS (Nat.le_of_lt (hgr i hi))
    · exact Nat.le_trans hz2 (fU' b q).1
    · exact Nat.le_trans hz2 (Nat.le_trans hz3 (fV b q))
  have S4 := (S3.after0 e4).with (Stable.smst (I := I)) ⟨T0, h00, nw0⟩
  refine T_sp0 <| T_newTuple S4 fun p h4 _ S => T_unpackItems hR S S.dat.2 rfl fun h5 S _ => ?_
  refine T_ao <| T_bindName <| T_st S asgL fun h6 S => T_ao <| T_bindName <| T_st S asgL fun h7 S => T_ao <| T_bindName <| T_st S asgL fun h8 S => T_ao0 ?_
  have S := S.with (Stable.smst (I := I)) S.dat.1
  refine T_cons <| T_asName <| T_int fun t0 => T_st S asgL fun h8 S => ?_
  -- the end
  have rest : ∀ (m : Str → Option Value) h2 k step rS rU rV X U V, SMn m aS aU aV step n tn → Rs X →
      Ses h0 h (Dn (fun _ => False) h) (envF "smith_form" (scopeN 13) h.objs.size (fa 13) (cd 13)) m (fun hh => SMst h0.objs.size h aS aU aV mm n I k step hh rS rU rV X U V) h2 →
      ∀ st, Tr prog w (A.deeper (envF "smith_form" (scopeN 13) h.objs.size (fa 13) (cd 13))) (execs ((bodyN 13).drop 3) (envF "smith_form" (scopeN 13) h.objs.size (fa 13) (cd 13))) h2 (fun fl h2 => st = true → Q (retOf fl) h2) := by
    intro m h2 k step rS rU rV X U V N hR S st
    refine T_cons <| T_ret <| T_tup <| T_sp <| T_loc S N.s <| T_sp <| T_loc S N.u <| T_sp <| T_loc S N.v <| T_sp0 <| T_newTuple S fun p h' _ S' => fun _ => ?_
    exact q p h' aS aU aV rS X S'.back S'.dat.2 S'.dat.1.three.s hR
  refine T_cons <| T_while (fun k hh => ∃ m step rS rU rV X U V, SMn m aS aU aV step n tn ∧ Ses h0 h (Dn (fun _ => False) h) (envF "smith_form" (scopeN 13) h.objs.size (fa 13) (cd 13)) m (fun hh => SMst h0.objs.size h aS aU aV mm n I k step hh rS rU rV X U V) hh)
    (fun kk h9 hI => ?_) k0 ⟨_, 0, rS, rU, rV, B, unitM, unitM, ⟨rfl, rfl, rfl, rfl, _, upd_same⟩, S⟩
  obtain ⟨m, step, rS, rU, rV, X, U, V, N, S⟩ := hI
  have inv := S.dat.inv
  have nw := S.dat.nw
  obtain ⟨tst, nst⟩ := N.step
  refine T_tcmp <| T_loc S nst <| T_call <| T_glo S G.nm.min <| T_cwB <| T_sp <| T_call <| T_glo S G.nm.len <| T_cwB <| T_sp <| T_loc S N.s <| T_sp0 <| T_lenR S.dat.three.s.outer (by exact Nat.le_trans (by assumption) (by decide)) fun _ => T_sp <| T_loc S N.width <| T_sp0 <| T_min hR S fun _ h10 S _ => T_lt <| T_truthyB ?_
  by_cases hlt : ¬ step < min mm n
  · rw [if_neg (by simp; omega)]
    exact (rest m _ kk step rS rU rV X U V N (plan.fin inv fun h => absurd h hlt) S true).mono fun _ _ q => q rfl
  have hlt : step < min mm n := by lia
  rw [if_pos (by simp; omega)]
  have hs1 : step < mm := by grind
  have hs2 : step < n := by lia
  refine T_cons <| T_asName <| T_call <| T_glo S G.nm.least_spot <| T_cwF <| T_sp <| T_loc S N.s <| T_sp <| T_loc S nst <| T_sp <| T_loc S N.width <| T_sp0 ⟨kL _ S.base, ?_⟩
  refine least_spot_walk G (R1.le (by simp +arith only [*]) : Rm _ (k + 1)) S.base S.gsz S.dat.three.s hm hn (by exact Nat.le_of_lt (by assumption)) (by exact Nat.le_of_lt (by assumption)) fun f v h' e sp ls => ?_
  have S := (S.after0 e).also Stable.isSpot sp
  refine T_st S asgL fun h11 S => ?_
  have N := N.upd (x := "spot") (v := v) (.inr (.inl rfl))
  obtain ⟨tst, nst⟩ := N.step
  match f, sp, ls, S with
  | none, sp, ls, S =>
    obtain rfl : v = .none := sp
    refine T_cons <| T_if <| T_tcmp <| T_loc S upd_same <| T_none <| T_isNoneN <| T_truthyB ?_
    rw [if_pos rfl]
    refine T_cons <| T_ret <| T_tup <| T_sp <| T_loc S N.s <| T_sp <| T_loc S N.u <| T_sp <| T_loc S N.v <| T_sp0 <| T_newTuple S fun p h' _ S' => ?_
    exact q p h' aS aU aV rS X S'.back S'.dat.2 S'.dat.1.1.three.s (plan.fin inv fun _ => ls)
  | some (r, c), sp, ls, S =>
    obtain ⟨p, tr, tc, rfl, _⟩ := sp
    obtain ⟨p', tr, tc, ep, hp⟩ := S.dat.2
    obtain rfl : p = p' := by injection ep
    refine T_cons <| T_if <| T_tcmp <| T_loc S upd_same <| T_none <| T_isNoneR <| T_truthyB ?_
    rw [if_neg (by simp)]
    refine T_nil ?_
    obtain ⟨l1, l2, l3, l4, l5, _⟩ := id ls
    have hrm : r < mm := by rcases l4 with l4 | l4 <;> omega
    have hne : swC (swR X r step) c step step step ≠ 0 := by
      show X (swp r step step) (swp c step step) ≠ 0
      rw [swp_right, swp_right]; exact l5
    obtain ⟨fit1, fit2, fit3, fit4⟩ := plan.fit inv hlt ls
    refine T_cons <| T_expr <| T_call <| T_glo S G.nm.bring <| T_cwF <| T_sp <| T_loc S N.s <| T_sp <| T_loc S N.u <| T_sp <| T_loc S N.v <| T_sp <| T_loc S upd_same <| T_sp <| T_loc S nst <| T_sp0 ⟨kB _ S.base, ?_⟩
    refine bring_walk G R1 S.base S.gsz S.dat.1.three hp hm hn hrm l3 hs1 hs2 fun h' e T' => ?_
    have S := S.after e (fun b hb => .inr (nw b hb)) (fun b hb => S.dat.1.three.isList hb) Stable.three T'
    have nw : ∀ b, Foot3 aS aU aV (fun x => rS (swp r step x)) (fun x => rU (swp r step x)) rV mm n b → h.objs.size ≤ b := fun b hb => nw b (by
      rcases hb with q | q | q
      · exact .inl (foot_swp hrm hs1 q)
      · exact .inr (.inl (foot_swp hrm hs1 q))
      · exact .inr (.inr q))
    have hu := plan.undone inv hlt ls
    have hd := fun q => plan.undiv (q := q) inv hlt ls
    have hx := plan.next inv hlt ls
    clear ls l1 l2 l4 l5 T'
    revert S nw hne fit1 fit2 fit3 fit4 hu hd hx
    generalize swC (swR X r step) c step = X1
    generalize swR U r step = U1
    generalize swC V c step = V1
    generalize (fun x => rS (swp r step x)) = rS1
    generalize (fun x => rU (swp r step x)) = rU1
    intro hne fit1 fit2 fit3 fit4 S nw hu hd hx
    have hz12 := S.ext.size
    refine T_cons <| T_if <| T_tnot <| T_tval <| T_call <| T_glo S G.nm.clear_cross <| T_cwF <| T_sp <| T_loc S N.s <| T_sp <| T_loc S N.u <| T_sp <| T_loc S N.v <| T_sp <| T_loc S nst <| T_sp <| T_loc S N.width <| T_sp0 ⟨kC _ S.base, ?_⟩
    refine clear_cross_walk G R1 S.base S.gsz S.dat hm hn hs1 hs2 hne fit1 fit2 fit3 fit4 fun b rS2 rU2 h' e fo T' hb => T_truthyB ?_
    have S := S.after e (fun b hb => .inr (nw b hb)) (fun b hb => S.dat.isList hb) Stable.three T'
    have nw := fo.nw hz12 nw
    cases b with
    | false =>
      rw [if_pos (by simp)]
      obtain ⟨k', hk', inv'⟩ := hu fun q => by simpa using hb.mpr q
      exact T_cons <| T_cont ⟨k', hk', _, step, rS2, rU2, rV, _, _, _, N, S.with Stable.smst ⟨T', inv', nw⟩⟩
    | true =>
      rw [if_neg (by simp)]
      refine T_nil ?_
      have hdone := hb.mp rfl
      have hlead : ccS X1 step mm n step step ≠ 0 := by unfold ccS; rw [redC_at (.inr (Nat.le_refl step)), redR_at (.inr (Nat.le_refl step))]; exact hne
      refine T_cons <| T_asName <| T_call <| T_glo S G.nm.undivided_row <| T_cwF <| T_sp <| T_loc S N.s <| T_sp <| T_loc S nst <| T_sp <| T_loc S N.width <| T_sp0 ⟨kD _ S.base, ?_⟩
      refine undivided_walk G (R1.le (by simp +arith only [*]) : Rm _ (k + 1)) S.base S.gsz S.dat.s hm hn hs1 hs2 hlead fun f v h' e und => ?_
      have S := S.after0 e
      refine T_st S asgC fun h13 S => ?_
      have hz13 := S.ext.size
      have N := N.upd (x := "row") (v := v) (.inl rfl)
      obtain ⟨tst, nst⟩ := N.step
      match f, und with
      | none, ⟨ev, hall⟩ =>
        subst ev
        refine T_cons <| T_if <| T_tcmp <| T_cel S upd_same <| T_none <| T_isNotNoneN <| T_truthyB ?_
        rw [if_neg (by simp)]
        refine T_nil ?_
        obtain ⟨k', hk', inv'⟩ := hx hdone fun q c' h1 h2 h3 h4 => hall q c' h1 h2 h3 h4
        have fin : ∀ (m : Str → Option Value) h2 rS3 rU3, SMn m aS aU aV step n tn → (∀ b, Foot3 aS aU aV rS3 rU3 rV mm n b → h.objs.size ≤ b) →
            Ses h0 h (Dn (fun _ => False) h) (envF "smith_form" (scopeN 13) h.objs.size (fa 13) (cd 13)) m (fun hh => Three h0.objs.size aS aU aV rS3 rU3 rV mm n (negM (decide (ccS X1 step mm n step step < 0)) (ccS X1 step mm n) step) (negM (decide (ccS X1 step mm n step step < 0)) (ccU X1 U1 step mm) step) (ccV X1 V1 step n) hh) h2 →
            Tr prog w (A.deeper (envF "smith_form" (scopeN 13) h.objs.size (fa 13) (cd 13))) (execs (wbody.drop 7) (envF "smith_form" (scopeN 13) h.objs.size (fa 13) (cd 13))) h2
              (fun f h2 => ∃ k', k' < kk ∧ f = .next ∧ ∃ m step rS rU rV X U V, SMn m aS aU aV step n tn ∧ Ses h0 h (Dn (fun _ => False) h) (envF "smith_form" (scopeN 13) h.objs.size (fa 13) (cd 13)) m (fun hh => SMst h0.objs.size h aS aU aV mm n I k' step hh rS rU rV X U V) h2) := by
          intro m h2 rS3 rU3 N nw S
          obtain ⟨tst, nst⟩ := N.step
          refine T_cons <| T_asName <| T_bin <| T_loc S nst <| T_int fun _ => T_add fun ta => T_st S asgL fun h14 S => T_nil ⟨k', hk', rfl, _, step + 1, rS3, rU3, rV, _, _, _, ⟨un N.s, un N.u, un N.v, un N.width, ta, upd_same⟩, S.with Stable.smst ⟨S.dat, inv', nw⟩⟩
        generalize ccS X1 step mm n = X2 at *
        generalize ccU X1 U1 step mm = U2 at *
        generalize ccV X1 V1 step n = V2 at *
        refine T_cons <| T_if <| T_tcmp <| T_sub <| T_sub <| T_loc S N.s <| T_loc S nst <| T_itemR S.dat.s.outer rfl hs1 (by exact Nat.le_trans (by assumption) (by decide)) <| T_loc S nst <| T_itemI (S.dat.s.row _ hs1) rfl hs2 (by exact Nat.le_trans (by assumption) (by decide)) fun _ => T_int fun _ => T_lt <| T_truthyB ?_
        by_cases hz : X2 step step < 0
        · rw [if_pos (by simpa using hz)]
          refine T_cons <| T_forPairC (v1 := .ref aS) (v2 := .ref aU) hR S asgC (fun Q' q => T_loc S N.s q) (fun Q' q => T_loc S N.u q)
            (fun hh => ∃ rS3, (∀ b, Foot3 aS aU aV rS3 rU2 rV mm n b → h.objs.size ≤ b) ∧ Three h0.objs.size aS aU aV rS3 rU2 rV mm n (setRow X2 step (fun c => -(X2 step c))) U2 V2 hh)
            (fun hh => ∃ rS3 rU3, (∀ b, Foot3 aS aU aV rS3 rU3 rV mm n b → h.objs.size ≤ b) ∧ Three h0.objs.size aS aU aV rS3 rU3 rV mm n (setRow X2 step (fun c => -(X2 step c))) (setRow U2 step (fun c => -(U2 step c))) V2 hh)
            (Stable.ex fun _ => Stable.const.and Stable.three) (Stable.ex fun _ => Stable.ex fun _ => Stable.const.and Stable.three) (fun h8 hz8 S => ?_) (fun h8 hz8 S => ?_) (fun h8 S => ?_)
          · refine T_cons <| T_asSub <| T_intComp (r := rS2 step) (n := n) (g := X2 step) (fun c => -(X2 step c)) S hR (fun h M => M.s.row step hs1) (by exact Nat.le_trans (by assumption) (by decide))
              (fun D' Q' Si q => T_sub <| T_cel Si upd_same <| T_loc Si (un nst) <| T_itemR Si.dat.s.outer rfl hs1 (by exact Nat.le_trans (by assumption) (by decide)) q) (fun C c mi t1 hi' hc hf Y => T_un <| T_loc Y upd_same <| T_neg fun _ => ⟨rfl, _, rfl⟩) (fun acc h6 hacc S6 => ?_)
            exact T_cel S6 upd_same <| T_loc S6 (un nst) <| T_putS S6 S6.dat.1 S6.dat.2 S.dat hacc rfl hs1 (by exact Nat.le_trans (by assumption) (by decide)) (.inr (nw _ (.inl (.inl rfl)))) fun rS3 h7 fo3 S7 => T_nil ⟨rfl, S7.with (Stable.ex fun _ => Stable.const.and Stable.three) ⟨rS3, fo3.nw (Nat.le_trans hz13 hz8) nw, S7.dat⟩⟩
          · obtain ⟨rS3, nw3, T3⟩ := S.dat
            have S := S.with Stable.three T3
            refine T_cons <| T_asSub <| T_intComp (r := rU2 step) (n := mm) (g := U2 step) (fun c => -(U2 step c)) S hR (fun h M => M.u.row step hs1) (by exact Nat.le_trans (by assumption) (by decide))
              (fun D' Q' Si q => T_sub <| T_cel Si upd_same <| T_loc Si (un nst) <| T_itemR Si.dat.u.outer rfl hs1 (by exact Nat.le_trans (by assumption) (by decide)) q) (fun C c mi t1 hi' hc hf Y => T_un <| T_loc Y upd_same <| T_neg fun _ => ⟨rfl, _, rfl⟩) (fun acc h6 hacc S6 => ?_)
            exact T_cel S6 upd_same <| T_loc S6 (un nst) <| T_putU S6 S6.dat.1 S6.dat.2 S.dat hacc rfl hs1 (by exact Nat.le_trans (by assumption) (by decide)) (.inr (nw _ (.inr (.inl (.inl rfl))))) fun rU3 h7 fo3 S7 => T_nil ⟨rfl, S7.with (Stable.ex fun _ => Stable.ex fun _ => Stable.const.and Stable.three) ⟨rS3, rU3, fo3.nw (Nat.le_trans hz13 hz8) nw3, S7.dat⟩⟩
          · obtain ⟨rS3, rU3, nw3, T3⟩ := S.dat
            refine T_nil <| (fin _ _ rS3 rU3 (N.upd (.inr (.inr rfl))) nw3 (S.with Stable.three ?_)).mono fun f h2 ⟨k', hk', e, I⟩ => by subst e; exact ⟨k', hk', I⟩
            simp only [negM, decide_eq_true hz, if_true]
            exact T3
        · rw [if_neg (by simpa using hz)]
          refine T_nil <| (fin _ _ rS2 rU2 N nw (S.with Stable.three ?_)).mono fun f h2 ⟨k', hk', e, I⟩ => by subst e; exact ⟨k', hk', I⟩
          simp only [negM, decide_eq_false hz, Bool.false_eq_true, if_false]
          exact S.dat
      | some q', ⟨⟨tq, ev⟩, hq1, hq2, hq3⟩ =>
        subst ev
        refine T_cons <| T_if <| T_tcmp <| T_cel S upd_same <| T_none <| T_isNotNoneI <| T_truthyB ?_
        rw [if_pos rfl]
        obtain ⟨k', hk', inv'⟩ := hd q' hdone hq1 hq2 hq3
        generalize ccS X1 step mm n = X2 at *
        generalize ccU X1 U1 step mm = U2 at *
        generalize ccV X1 V1 step n = V2 at *
        refine T_cons <| T_forPairC (v1 := .ref aS) (v2 := .ref aU) hR S asgC (fun Q' q => T_loc S N.s q) (fun Q' q => T_loc S N.u q)
          (fun hh => ∃ rS3, (∀ b, Foot3 aS aU aV rS3 rU2 rV mm n b → h.objs.size ≤ b) ∧ Three h0.objs.size aS aU aV rS3 rU2 rV mm n (addM X2 step q') U2 V2 hh)
          (fun hh => ∃ rS3 rU3, (∀ b, Foot3 aS aU aV rS3 rU3 rV mm n b → h.objs.size ≤ b) ∧ Three h0.objs.size aS aU aV rS3 rU3 rV mm n (addM X2 step q') (addM U2 step q') V2 hh)
          (Stable.ex fun _ => Stable.const.and Stable.three) (Stable.ex fun _ => Stable.ex fun _ => Stable.const.and Stable.three) (fun h8 hz8 S => ?_) (fun h8 hz8 S => ?_) (fun h8 S => ?_)
        · refine T_cons <| T_asSub <| T_enumComp (r := rS2 step) (n := n) (g := X2 step) (fun c => X2 step c + X2 q' c) S hR G.nm (fun h M => M.s.row step hs1) (by exact Nat.le_trans (by assumption) (by decide))
            (fun D' Q' Si q => T_sub <| T_cel Si upd_same <| T_loc Si (un nst) <| T_itemR Si.dat.s.outer rfl hs1 (by exact Nat.le_trans (by assumption) (by decide)) q) (fun C c mi t0 t1 hi' hc hf Y => ?_) (fun acc h6 hacc S6 => ?_)
          · exact T_bin <| T_loc Y upd_same <| T_sub <| T_sub <| T_cel Y ((hf "b" rfl).trans upd_same) <| T_cel Y ((hf "row" rfl).trans (un upd_same)) <| T_itemR Y.dat.s.outer rfl hq2 (by exact Nat.le_trans (by assumption) (by decide)) <| T_loc Y (un upd_same) <| T_itemI (Y.dat.s.row q' hq2) rfl hc (by exact Nat.le_trans (by assumption) (by decide)) fun _ => T_add fun _ => ⟨rfl, _, rfl⟩
          · exact T_cel S6 upd_same <| T_loc S6 (un nst) <| T_putS S6 S6.dat.1 S6.dat.2 S.dat hacc rfl hs1 (by exact Nat.le_trans (by assumption) (by decide)) (.inr (nw _ (.inl (.inl rfl)))) fun rS3 h7 fo3 S7 => T_nil ⟨rfl, S7.with (Stable.ex fun _ => Stable.const.and Stable.three) ⟨rS3, fo3.nw (Nat.le_trans hz13 hz8) nw, S7.dat⟩⟩
        · obtain ⟨rS3, nw3, T3⟩ := S.dat
          have S := S.with Stable.three T3
          refine T_cons <| T_asSub <| T_enumComp (r := rU2 step) (n := mm) (g := U2 step) (fun c => U2 step c + U2 q' c) S hR G.nm (fun h M => M.u.row step hs1) (by exact Nat.le_trans (by assumption) (by decide))
            (fun D' Q' Si q => T_sub <| T_cel Si upd_same <| T_loc Si (un nst) <| T_itemR Si.dat.u.outer rfl hs1 (by exact Nat.le_trans (by assumption) (by decide)) q) (fun C c mi t0 t1 hi' hc hf Y => ?_) (fun acc h6 hacc S6 => ?_)
          · exact T_bin <| T_loc Y upd_same <| T_sub <| T_sub <| T_cel Y ((hf "b" rfl).trans upd_same) <| T_cel Y ((hf "row" rfl).trans (un upd_same)) <| T_itemR Y.dat.u.outer rfl hq2 (by exact Nat.le_trans (by assumption) (by decide)) <| T_loc Y (un upd_same) <| T_itemI (Y.dat.u.row q' hq2) rfl hc (by exact Nat.le_trans (by assumption) (by decide)) fun _ => T_add fun _ => ⟨rfl, _, rfl⟩
          · exact T_cel S6 upd_same <| T_loc S6 (un nst) <| T_putU S6 S6.dat.1 S6.dat.2 S.dat hacc rfl hs1 (by exact Nat.le_trans (by assumption) (by decide)) (.inr (nw _ (.inr (.inl (.inl rfl))))) fun rU3 h7 fo3 S7 => T_nil ⟨rfl, S7.with (Stable.ex fun _ => Stable.ex fun _ => Stable.const.and Stable.three) ⟨rS3, rU3, fo3.nw (Nat.le_trans hz13 hz8) nw3, S7.dat⟩⟩
        · obtain ⟨rS3, rU3, nw3, T3⟩ := S.dat
          exact T_cons <| T_cont ⟨k', hk', _, step, rS3, rU3, rV, _, _, _, N.upd (.inr (.inr rfl)), S.with Stable.smst ⟨T3, inv', nw3⟩⟩
end
end Mine
namespace Mine
/-- the box of draws: a list of ints and a counter of at most C -/
noncomputable def BoxLe (b l : Addr) (xs : List Int) (C : Nat) (h : Heap) : Prop := ∃ (c : Nat) (t : Tok), c ≤ C ∧ h.IsList b #[.ref l, .int (c : Int) t] ∧ IntL h l xs
theorem Stable.boxLe {b l xs C} : Stable (BoxLe b l xs C) := fun h h' ⟨c, t, x, y, z⟩ k => ⟨c, t, x, Stable.list _ _ h h' y k, Stable.intL _ _ h h' z k⟩
theorem StableX.list' {acc a : Addr} {vs : Array Value} (hne : a ≠ acc) : StableX acc (fun h => h.IsList a vs) := fun h h' ⟨o, ho, hc, r⟩ k => ⟨o, k a o hne ho ⟨_, r⟩, hc, r⟩
theorem StableX.intL' {acc a : Addr} {l : List Int} (hne : a ≠ acc) : StableX acc (fun h => IntL h a l) := fun h h' ⟨vs, hl, x⟩ k => ⟨vs, StableX.list' hne h h' hl k, x⟩
theorem StableX.boxLe {acc b l xs C} (h1 : b ≠ acc) (h2 : l ≠ acc) : StableX acc (BoxLe b l xs C) := fun h h' ⟨c, t, x, y, z⟩ k => ⟨c, t, x, StableX.list' h1 h h' y k, StableX.intL' h2 h h' z k⟩
theorem StableX.ex {acc : Addr} {α : Type} {P : α → Heap → Prop} (x : ∀ a, StableX acc (P a)) : StableX acc (fun h => ∃ a, P a h) := fun h h' ⟨a, p⟩ k => ⟨a, x a h h' p k⟩
theorem BoxLe.up {b l xs C C' h} (x : BoxLe b l xs C h) (hC : C ≤ C') : BoxLe b l xs C' h := let ⟨c, t, h1, r⟩ := x; ⟨c, t, Nat.le_trans h1 hC, r⟩
theorem BoxLe.lt {b l xs C h} (x : BoxLe b l xs C h) : b < h.objs.size := let ⟨c, t, h1, ⟨o, ho, _⟩, _⟩ := x; Heap.lt_size ho
theorem BoxLe.ltl {b l xs C h} (x : BoxLe b l xs C h) : l < h.objs.size := let ⟨c, t, h1, _, _, ⟨o, ho, _⟩, _⟩ := x; Heap.lt_size ho
theorem BoxLe.isList {b l xs C h} (x : BoxLe b l xs C h) : ∃ vs, h.IsList b vs := let ⟨c, t, h1, hl, _⟩ := x; ⟨_, hl⟩
theorem Ints.at : ∀ {vs : List Value} {l : List Int} (_ : Ints vs l) (i : Nat) (x : Int), l[i]? = some x → ∃ t, vs[i]? = some (.int x t)
  | v :: vs, y :: ys, ⟨⟨t, e⟩, r⟩, 0, x, h => by simp at h; subst h; exact ⟨t, by simp [e]⟩
  | v :: vs, y :: ys, ⟨_, r⟩, i + 1, x, h => by simpa using Ints.at r i x (by simpa using h)
  | [], [], _, _, _, h => by simp at h
  | [], _ :: _, x, _, _, _ => x.elim
  | _ :: _, [], x, _, _, _ => x.elim
section
variable {prog : Program} {w : World} {A : Around} {h0 hs h : Heap} {D : Addr → Prop} {env : Env} {m : Str → Option Value} {P : Heap → Prop} {fa : Nat → Addr} {cd : Nat → Value}
theorem T_lenL {a : Addr} {l : List Int} {Q : Value → Heap → Prop} (x : IntL h a l) (hsm : l.length ≤ 1000) (q : ∀ t, Q (.int (l.length : Int) t) h) : Tr prog w A (call (.builtin "len") [.ref a]) h Q := by
  obtain ⟨vs, hl, hi⟩ := x
  have e : vs.size = l.length := by simpa using hi.len
  exact T_len hl (by omega) fun t => e ▸ q t
theorem T_itemIL {value slice : Expr} {a : Addr} {l : List Int} {k : Int} {t : Tok} {j : Nat} {Q : Value → Heap → Prop} (x : IntL h a l) (hk : k = (j : Int)) (hj : j < l.length) (hsm : l.length ≤ 1000) (q : ∀ x t, l[j]? = some x → Q (.int x t) h)
    (hs : subscripted slice false (.ref a) (.int k t) = operate [.ref a, .int k t] (getItem (.ref a) (.int k t)) := by with_unfolding_all rfl) :
    Tr prog w A (subscriptTail value slice (.ref a) (.int k t)) h Q := by
  subst hk
  obtain ⟨vs, hl, hi⟩ := x
  obtain ⟨x, hx⟩ : ∃ x, l[j]? = some x := ⟨l[j], by simp [hj]⟩
  obtain ⟨u, hu⟩ := hi.at j x hx
  exact T_itemL hl (by omega) (by omega) (by simpa using hu) (q x u hx) hs
end
end Mine
namespace Mine
section
variable {prog : Program} {w : World} {h0 : Heap} {fa : Nat → Addr} {cd : Nat → Value}
theorem ok5 {x y : Int} {k l : Nat} (hx : x.natAbs ≤ 2 ^ k) (hy : y.natAbs ≤ 2 ^ l) (h : k + l ≤ 134217726) : IntMulOk x y := mulOk hx hy h
set_option maxHeartbeats 2000000 in
theorem take_walk {A : Around} {k : Nat} {h : Heap} {b l : Addr} {xs : List Int} {C : Nat} {wide : Int} {tw : Tok} {Q : Value → Heap → Prop} (G : Gr prog h0 fa cd)
    (R : Rm A (k + 1)) (hb : ∀ b o, h0.get? b = some o → h.get? b = some o) (hsz : h0.objs.size ≤ h.objs.size) (B : BoxLe b l xs C h) (hC : C ≤ 1000) (hbn : h0.objs.size ≤ b) (hbl : b ≠ l) (hxs : xs.length ≤ 1000) (hw : 0 < wide)
    (q : ∀ v t h', Ext (fun x => x = b) h h' → BoxLe b l xs (C + 1) h' → 0 ≤ v → v < wide → Q (.int v t) h') :
    Tr prog w A (call (.ref (fa 16)) [.ref b, .int wide tw]) h Q := by
  refine T_fn (P := BoxLe b l xs C) G.law_take hb hsz G.nolimit R (fun x => x = b) (fun x e => e ▸ hbn) Stable.boxLe B
    (binds := [("box", .ref b), ("wide", .int wide tw)]) (fun _ _ _ _ _ => rfl) (by rfl) fun L h1 hL S R1 => ?_
  subst hL
  obtain ⟨c, t, hc, hl, hx⟩ := S.dat
  have S := S.with ((Stable.list b _).and (Stable.intL l xs)) ⟨hl, hx⟩
  refine T_cons <| T_asName <| T_sub <| T_loc S rfl <| T_int fun _ => T_itemL hl (by decide) (by decide) rfl <| T_st S asgL fun h2 S => ?_
  refine T_cons <| T_asSub <| T_bin <| T_loc S upd_same <| T_int fun _ => T_add fun ta => T_loc S (un rfl) <| T_int fun _ => T_setItem S S.dat.1 (.inl rfl) (by decide) (by decide) (by simp) (P' := BoxLe b l xs (C + 1)) Stable.boxLe
    (fun h' hl' kb => ⟨c + 1, ta, by omega, by simpa using hl', by obtain ⟨vs, hv, hi⟩ := S.dat.2; exact ⟨vs, IsList.but hv kb hbl.symm, hi⟩⟩) fun h3 S => ?_
  obtain ⟨c', t', hc', hl, hx⟩ := S.dat
  have fin : ∀ x t, Tr prog w (A.deeper (envF "_law_take" (scopeN 16) h.objs.size (fa 16) (cd 16))) (binaryOp .Mod (.int x t) (.int wide tw)) h3 (fun v h' => Q (retOf (.ret v)) h') := fun x t =>
    T_mod (Int.ne_of_gt hw) fun t => q _ t _ S.back S.dat (fmod_pos x hw).1 (fmod_pos x hw).2
  refine T_cons <| T_ret <| T_bin <| T_ifexp <| T_tcmp <| T_loc S upd_same <| T_call <| T_glo S G.nm.len <| T_cwB <| T_sp <| T_sub <| T_loc S (un rfl) <| T_int fun _ => T_itemL hl (by decide) (by decide) rfl <| T_sp0 <| T_lenL hx hxs fun _ => T_lt <| T_truthyB ?_
  by_cases hlt : c < xs.length
  · rw [if_pos (by simp; omega)]
    refine T_call <| T_glo S G.nm.abs <| T_cwB <| T_sp <| T_sub <| T_sub <| T_loc S (un rfl) <| T_int fun _ => T_itemL hl (by decide) (by decide) rfl <| T_loc S upd_same <| T_itemIL hx rfl hlt hxs fun x t _ => T_sp0 <| T_abs fun t => T_loc S (un rfl) (fin _ _)
  · rw [if_neg (by simp; omega)]
    have h10 : (c : Int).natAbs ≤ 2 ^ 10 := by omega
    refine T_bin <| T_bin <| T_bin <| T_bin <| T_bin <| T_int fun _ => T_loc S upd_same <| T_mul (ok5 (k := 3) (l := 10) (by decide) h10 (by decide)) fun _ => T_loc S upd_same <| T_mul (ok5 (k := 13) (l := 10) (by omega) h10 (by decide)) fun _ => T_bin <| T_int fun _ => T_loc S upd_same <|
      T_mul (ok5 (k := 2) (l := 10) (by decide) h10 (by decide)) fun _ => T_add fun _ => T_int fun _ => T_add fun _ => T_int fun _ => T_mod (by decide) fun _ => T_loc S (un rfl) (fin _ _)
end
end Mine
namespace Mine
/-- a matrix stands at a, its rows not shared out -/
noncomputable def Grid (h : Heap) (a : Addr) (m n : Nat) (B : Nat → Nat → Int) : Prop := ∃ rows, RefRow h a m rows ∧ ∀ i, i < m → IntRow h (rows i) n (B i)
theorem Stable.grid {a m n B} : Stable (fun h => Grid h a m n B) := Stable.ex fun _ => (Stable.refRow _ _ _).and (Stable.all fun _ => Stable.imp (Stable.intRow _ _ _))
theorem Mat.grid {N h a rows m n B} (M : Mat N h a rows m n B) : Grid h a m n B := ⟨rows, M.outer, M.row⟩
theorem Grid.congr {h a m n B C} (x : Grid h a m n B) (e : ∀ i j, i < m → j < n → B i j = C i j) : Grid h a m n C := let ⟨r, a, b⟩ := x; ⟨r, a, fun i hi => (b i hi).congr fun j hj => e i j hi hj⟩
theorem Grid.reads {h a m n B} (x : Grid h a m n B) : ∃ as, Reads h (.ref a) (matP (matL m n B)) as := let ⟨_, a, b⟩ := x; mat_reads a b
noncomputable def fOf (l : List Int) : Nat → Int := fun j => l.getD j 0
theorem Ints.row {h : Heap} {r : Addr} {ys : List Value} {l : List Int} (hl : h.IsList r ys.toArray) (x : Ints ys l) : IntRow h r l.length (fOf l) := by
  refine ⟨_, hl, by simpa using x.len, fun j hj => ?_⟩
  obtain ⟨t, e⟩ := x.at j l[j] (by simp [hj])
  refine ⟨t, ?_⟩
  have : fOf l j = l[j] := by unfold fOf; simp [List.getD, hj]
  rw [this]; simpa using e
/-- the addresses of a call's frame and of the comprehensions in it are new -/
theorem frame_new {name : Str} {scope : Scope} {L f : Addr} {cd : Value} {x : Addr} (h : FrameOf (envF name scope L f cd) x) : L ≤ x := by
  rcases h with h | ⟨y, h⟩
  · exact Nat.le_of_eq h.symm
  · exact cellsFrom_ge L _ _ [] (fun _ _ h => nomatch h) (Nat.le_succ _) y x (mem_of_lookup h)
theorem frame_newC {scope : Scope} {env : Env} {C L : Addr} {x : Addr} (he : ∀ y, FrameOf env y → L ≤ y) (hf : (scope.names.all fun x => x.2 != .free || (env.cells.lookup x.1).isSome) = true) (hC : L ≤ C) (h : FrameOf (cenvOf scope env C) x) : L ≤ x := by
  rcases h with h | ⟨y, h⟩
  · exact Nat.le_trans hC (Nat.le_of_eq h.symm)
  · refine cellsFrom_ge L scope.names (C + 1) (clOf env.cells scope.names []) (fun y c hm => ?_) (Nat.le_succ_of_le hC) y x (mem_of_lookup h)
    rcases clOf_mem _ _ _ _ _ hm with q | ⟨q, e⟩
    · cases q
    · have := List.all_eq_true.mp hf _ q
      have : (env.cells.lookup y).isSome = true := by simpa using this
      obtain ⟨c', hc'⟩ := Option.isSome_iff_exists.mp this
      rw [hc'] at e
      exact he c (.inr ⟨y, by rw [e]; exact hc'⟩)
end Mine
namespace Mine
section
variable {prog : Program} {w : World} {h0 : Heap} {fa : Nat → Addr} {cd : Nat → Value}
noncomputable def RowIn (n : Nat) (h : Heap) (r : Addr) : Prop := ∃ f : Nat → Int, IntRow h r n f ∧ ∀ j, j < n → (f j).natAbs ≤ 6
/-- rows that a comprehension at acc has made so far, the ints small -/
noncomputable def RowsIn (acc : Addr) (ys : List Value) (i n : Nat) (h : Heap) : Prop := ys.length = i ∧ ∀ j, j < i → ∃ r, ys[j]? = some (.ref r) ∧ acc < r ∧ RowIn n h r
theorem StableX.rowsIn {acc : Addr} {ys i n} : StableX acc (RowsIn acc ys i n) := fun h h' ⟨a, b⟩ k => ⟨a, fun j hj => by
  obtain ⟨r, b1, b3, f, ⟨vs, ⟨o, ho, hcl, nn, hd⟩, z⟩, b4⟩ := b j hj
  exact ⟨r, b1, b3, f, ⟨vs, ⟨o, k _ o (Nat.ne_of_gt b3) ho ⟨vs, nn, hd⟩, hcl, nn, hd⟩, z⟩, b4⟩⟩
theorem picks {j : Nat} (hj : j < 10) : ∃ x, ([0, 1, 2, 3, -1, 4, -2, 6, 0, 5] : List Int)[j]? = some x ∧ x.natAbs ≤ 6 := by
  match j, hj with
  | 0, _ => exact ⟨_, rfl, by decide⟩
  | 1, _ => exact ⟨_, rfl, by decide⟩
  | 2, _ => exact ⟨_, rfl, by decide⟩
  | 3, _ => exact ⟨_, rfl, by decide⟩
  | 4, _ => exact ⟨_, rfl, by decide⟩
  | 5, _ => exact ⟨_, rfl, by decide⟩
  | 6, _ => exact ⟨_, rfl, by decide⟩
  | 7, _ => exact ⟨_, rfl, by decide⟩
  | 8, _ => exact ⟨_, rfl, by decide⟩
  | 9, _ => exact ⟨_, rfl, by decide⟩
/-- every list and tuple but b stands as it stood -/
noncomputable def KDb (b : Addr) (h h' : Heap) : Prop := ∀ x o, x ≠ b → h.get? x = some o → (∃ vs n, o.data = .seq vs n) → h'.get? x = some o
theorem KDb.refl (b : Addr) (h : Heap) : KDb b h h := fun _ _ _ e _ => e
theorem KDb.kd {b h h' h''} (x : KDb b h h') (y : KD h' h'') : KDb b h h'' := fun a o q e z => y a o (x a o q e z) z
theorem KDb.ext {b h h' h''} (x : KDb b h h') (y : Ext (fun x => x = b) h' h'') : KDb b h h'' := fun a o q e z => y.get a o (.inl q) (x a o q e z)
theorem StableX.kdb {b : Addr} {h2 : Heap} : StableX h2.objs.size (fun h => KDb b h2 h) := fun h h' p k x o q e z => k x o (Nat.ne_of_lt (Heap.lt_size e)) (p x o q e z) z
theorem KDb.list {b h h' a vs} (x : KDb b h h') (y : h.IsList a vs) (hne : a ≠ b) : h'.IsList a vs := let ⟨o, ho, hc, n, hd⟩ := y; ⟨o, x a o hne ho ⟨_, n, hd⟩, hc, n, hd⟩
theorem KDb.rowsIn {b h h' acc ys i n} (x : KDb b h h') (y : RowsIn acc ys i n h) (hb : b ≤ acc) : RowsIn acc ys i n h' := ⟨y.1, fun j hj => by
  obtain ⟨r, b1, b3, f, ⟨vs, hl, z⟩, b4⟩ := y.2 j hj
  exact ⟨r, b1, b3, f, ⟨vs, x.list hl (Nat.ne_of_gt (Nat.lt_of_le_of_lt hb b3)), z⟩, b4⟩⟩
theorem ane {a b : Nat} (h : a < b) : a ≠ b := Nat.ne_of_lt h
theorem ang {a b : Nat} (h : b < a) : a ≠ b := Nat.ne_of_gt h
theorem pick {α : Type} [Inhabited α] {m : Nat} {P : Nat → α → Prop} (h : ∀ j, j < m → ∃ a, P j a) : ∃ f : Nat → α, ∀ j, j < m → P j (f j) :=
  ⟨fun j => if hj : j < m then Classical.choose (h j hj) else default, fun j hj => by
    show P j (if hj : j < m then Classical.choose (h j hj) else default)
    rw [dif_pos hj]; exact Classical.choose_spec (h j hj)⟩
noncomputable def RowOutQ (h0 hi : Heap) (D : Addr → Prop) (env : Env) (m : Str → Option Value) (P : Heap → Prop) (n : Nat) (v : Value) (h' : Heap) : Prop :=
  ∃ r, v = .ref r ∧ hi.objs.size ≤ r ∧ Ses h0 hi D env m (fun h => P h ∧ RowIn n h r) h'
theorem outQ {A : Around} {hi h : Heap} {D : Addr → Prop} {env : Env} {m : Str → Option Value} {P : Heap → Prop} {t : Sem Value} {Q : Value → Heap → Prop} (X : Ses h0 hi D env m P h) (P' : Heap → Prop) (n : Nat)
    (x : Tr prog w A t h (RowOutQ h0 hi D env m P' n)) (y : ∀ v h', RowOutQ h0 hi D env m P' n v h' → Q v h') : Tr prog w A t h Q := x.mono y
set_option maxHeartbeats 4000000 in
theorem matrix_walk {A : Around} {k : Nat} {h : Heap} {b l : Addr} {xs : List Int} {C : Nat} {Q : Value → Heap → Prop} (G : Gr prog h0 fa cd)
    (R : Rm A (k + 2)) (hb : ∀ b o, h0.get? b = some o → h.get? b = some o) (hsz : h0.objs.size ≤ h.objs.size) (B : BoxLe b l xs C h) (hC : C ≤ 100) (hbn : h0.objs.size ≤ b) (hbl : b ≠ l) (hxs : xs.length ≤ 1000)
    (q : ∀ a m n X h', Ext (fun x => x = b) h h' → h.objs.size ≤ a → Grid h' a m n X → 1 ≤ m → m ≤ 3 → 1 ≤ n → n ≤ 3 → (∀ i j, i < m → j < n → (X i j).natAbs ≤ 6) → BoxLe b l xs (C + 11) h' → Q (.ref a) h') :
    Tr prog w A (call (.ref (fa 17)) [.ref b]) h Q := by
  refine T_fn (P := BoxLe b l xs C) G.law_matrix hb hsz G.nolimit R (fun x => x = b) (fun x e => e ▸ hbn) Stable.boxLe B
    (binds := [("box", .ref b)]) (fun _ _ _ _ _ => rfl) (by rfl) fun L h1 hL S R1 => ?_
  subst hL
  have hR := R1.handled
  have hbh : h.objs.size > b := B.lt
  have hlh : h.objs.size > l := B.ltl
  obtain ⟨oT, fT, kT⟩ := fnAtOf G.law_take
  refine T_cons <| T_asTuple <| T_tup <| T_sp <| T_bin <| T_int fun _ => T_call <| T_glo S G.nm.law_take <| T_cwF <| T_sp <| T_cel S rfl <| T_sp <| T_int fun _ => T_sp0 ⟨kT _ S.base, ?_⟩
  refine take_walk G R1 S.base S.gsz S.dat (by exact Nat.le_trans (by assumption) (by decide)) hbn hbl hxs (by decide) fun v1 tv h2 e B1 v10 v13 => T_add fun ta => ?_
  have S := S.after e (fun x q => .inl q) (fun x q => q ▸ S.dat.isList) Stable.boxLe B1
  refine T_sp <| T_bin <| T_int fun _ => T_call <| T_glo S G.nm.law_take <| T_cwF <| T_sp <| T_cel S rfl <| T_sp <| T_int fun _ => T_sp0 ⟨kT _ S.base, ?_⟩
  refine take_walk G R1 S.base S.gsz S.dat (by exact Nat.lt_of_le_of_lt (by assumption) (by decide)) hbn hbl hxs (by decide) fun v2 tv2 h3 e B2 v20 v23 => T_add fun ta2 => ?_
  have S := S.after e (fun x q => .inl q) (fun x q => q ▸ S.dat.isList) Stable.boxLe B2
  refine T_sp0 <| T_newTuple S fun p h4 _ S => T_toTuple hR S S.dat.2 rfl rfl fun h5 S _ => ?_
  obtain ⟨mm, hmm⟩ : ∃ mm : Nat, 1 + v1 = (mm : Int) := ⟨(1 + v1).toNat, by grind⟩
  obtain ⟨nn, hnn⟩ : ∃ nn : Nat, 1 + v2 = (nn : Int) := ⟨(1 + v2).toNat, by grind⟩
  have hmm3 : 1 ≤ mm ∧ mm ≤ 3 ∧ 1 ≤ nn ∧ nn ≤ 3 := by lia
  rw [hmm, hnn]
  refine T_ao <| T_toName <| T_st S asgL fun h6 S => T_ao <| T_toName <| T_st S asgC fun h7 S => T_ao0 ?_
  have S := S.with Stable.boxLe S.dat.1
  have Si := S.inner
  have fe0 : ∀ y, FrameOf (envF "_law_matrix" (scopeN 17) h.objs.size (fa 17) (cd 17)) y → h.objs.size ≤ y := fun y => frame_new
  refine T_cons <| T_ret <| T_compE <| T_call <| T_glo Si G.nm.range <| T_cwT <| T_sp <| T_loc Si rfl <| T_sp0 <| T_range1 Si fun r h8 _ _ _ S2 hr => ?_
  refine T_iterRange S2 hr (by exact Int.natCast_nonneg _) (by exact Int.natCast_nonneg _) (by exact Int.natCast_nonneg _) (by grind) fun I h9 S3 hI0 hIge hI => ?_
  have e0 : ((mm : Int) - 0).toNat = mm := by rfl
  rw [e0] at hI
  have hz7 : h.objs.size ≤ h7.objs.size := S.ext.size
  have hz9 : h7.objs.size ≤ h9.objs.size := S3.ext.size
  refine compGoE S S3 (n := mm) (St := fun i h => IsRangeIter h I (0 + (i : Int)) ((mm : Int) - (i : Int)) 1) (by simpa using hI)
    (fun C hC => drawRange hR (.inl ⟨rfl, rfl, S3.nw _ (by show _ ≤ C; lia)⟩) (new_none S2 hIge)) (hU1 (by decide))
    (fun i ys h => RowsIn h9.objs.size ys i nn h ∧ BoxLe b l xs (C + 1 + 1 + 3 * i) h) (fun i ys => StableX.rowsIn.and (StableX.boxLe (ane (by lia)) (ane (by lia)))) (fun _ _ _ _ => trivial)
    ⟨⟨rfl, fun j hj => absurd hj (Nat.not_lt_zero _)⟩, S3.dat⟩ (by rw [sizeLine_eq]; grind)
    (fun acc C' i ys m' hi ea eC hlt hlen hm hu X => T_tests0 ?_) (fun acc ys h' ea hlen X => ?_)
  · rw [if_pos rfl]
    obtain ⟨mi, u, rfl⟩ := hu
    subst ea
    have XI := X.inner
    have hzi : h9.objs.size < hi.objs.size := by
      obtain ⟨o, ho, _⟩ := X.dat.2
      exact Heap.lt_size ho
    have hC' : h.objs.size ≤ C' := by lia
    have fe1 : ∀ (sc : Scope), (sc.names.all fun x => x.2 != .free || ((envF "_law_matrix" (scopeN 17) h.objs.size (fa 17) (cd 17)).cells.lookup x.1).isSome) = true → ∀ y, FrameOf (cenvOf sc (envF "_law_matrix" (scopeN 17) h.objs.size (fa 17) (cd 17)) C') y → h.objs.size ≤ y := fun sc hf y => frame_newC fe0 hf hC'
    refine outQ X (fun h => (RowsIn h9.objs.size ys i nn h ∧ BoxLe b l xs (C + 1 + 1 + 3 * (i + 1)) h) ∧ h.IsList h9.objs.size ys.toArray) nn ?_ ?_
    · refine T_compE <| T_call <| T_glo XI G.nm.range <| T_cwT <| T_sp <| T_cel XI ((hm "wide" rfl).trans rfl) <| T_sp0 <| T_range1 XI fun r2 h11 _ _ _ X2 hr2 => ?_
      refine T_iterRange X2 hr2 (by exact Int.natCast_nonneg _) (by exact Int.natCast_nonneg _) (by exact Int.natCast_nonneg _) (by grind) fun I2 h12 X3 hI02 hIge2 hI2 => ?_
      have e0 : ((nn : Int) - 0).toNat = nn := by rfl
      rw [e0] at hI2
      have hz12 : hi.objs.size ≤ h12.objs.size := X3.ext.size
      refine compGoE X X3 (n := nn) (St := fun i h => IsRangeIter h I2 (0 + (i : Int)) ((nn : Int) - (i : Int)) 1) (by simpa using hI2)
        (fun C hC => drawRange hR (.inl ⟨rfl, rfl, X3.nw _ (by show _ ≤ C; lia)⟩) (new_none X2 hIge2)) (hU1 (by decide))
        (fun j zs h => (∃ L, Ints zs L ∧ L.length = j ∧ ∀ x ∈ L, x.natAbs ≤ 6) ∧ KDb b h12 h ∧ BoxLe b l xs (C + 1 + 1 + 3 * i + j) h)
        (fun j zs => StableX.const.and (StableX.kdb.and (StableX.boxLe (ane (by lia)) (ane (by lia))))) (fun _ _ _ _ => trivial)
        ⟨⟨[], trivial, rfl, fun _ h => nomatch h⟩, KDb.refl _ _, X3.dat.1.2⟩ (by rw [sizeLine_eq]; grind)
        (fun acc2 C2 j zs m2 hi2 ea2 eC2 hlt2 hlen2 hm2 hu2 Y => T_tests0 ?_) (fun acc2 zs h' ea2 hlen2 Y => ?_)
      · rw [if_pos rfl]
        obtain ⟨mi2, u2, rfl⟩ := hu2
        obtain ⟨⟨⟨L, hL1, hL2, hL3⟩, hkd, hbx⟩, hacc⟩ := Y.dat
        refine T_sub <| T_lst <| T_sp <| T_int fun t0 => T_sp <| T_int fun t1 => T_sp <| T_int fun t2 => T_sp <| T_int fun t3 => T_sp <| T_un <| T_int fun _ => T_neg fun t4 => T_sp <| T_int fun t5 => T_sp <| T_un <| T_int fun _ => T_neg fun t6 => T_sp <| T_int fun t7 => T_sp <| T_int fun t8 => T_sp <| T_int fun t9 => T_sp0 <| T_newList Y fun p h13 ep Y2 => ?_
        refine T_call <| T_glo Y2 G.nm.law_take <| T_cwF <| T_sp <| T_cel Y2 ((hm2 "box" rfl).trans ((hm "box" rfl).trans rfl)) <| T_sp <| T_int fun _ => T_sp0 ⟨kT _ Y2.base, ?_⟩
        have hp13 : p ≠ b := by
          have : hi2.objs.size > b := hbx.lt
          exact ang (by simp +arith only [*])
        refine take_walk G R1 Y2.base Y2.gsz Y2.dat.1.1.2.2 (by lia) hbn hbl hxs (by decide) fun v tv h14 e B3 v0 v10 => ?_
        obtain ⟨jj, hjj⟩ : ∃ jj : Nat, v = (jj : Int) := ⟨v.toNat, by lia⟩
        have hjj10 : jj < 10 := by lia
        have Y3 := Y2.after e (fun x q => by rw [q]; exact ⟨⟨.inl rfl, fun z => absurd (fe0 _ z) (Nat.not_le_of_lt hbh)⟩, fun z => absurd (fe1 _ rfl _ z) (Nat.not_le_of_lt hbh)⟩) (fun x q => q ▸ Y2.dat.1.1.2.2.isList) Stable.boxLe B3
        have hpl : IntL h14 p [0, 1, 2, 3, -1, 4, -2, 6, 0, 5] := ⟨_, IsList.ext Y2.dat.2 e hp13, ⟨t0, rfl⟩, ⟨t1, rfl⟩, ⟨t2, rfl⟩, ⟨t3, rfl⟩, ⟨t4, rfl⟩, ⟨t5, rfl⟩, ⟨t6, rfl⟩, ⟨t7, rfl⟩, ⟨t8, rfl⟩, ⟨t9, rfl⟩, trivial⟩
        refine T_itemIL hpl hjj (by simpa using hjj10) (by decide) fun x tx hx => ?_
        obtain ⟨x', hx', hx6⟩ := picks hjj10
        rw [hx] at hx'
        obtain rfl := Option.some.inj hx'
        refine Y3.with ((Stable.const.and ((StableX.stable StableX.kdb).and Stable.boxLe)).and (Stable.list _ _)) ⟨⟨⟨L ++ [x], hL1.snoc, by simp [hL2], fun y hy => ?_⟩, Y2.dat.1.1.2.1.ext e, B3⟩, IsList.ext Y2.dat.1.2 e (ang (by lia))⟩
        rcases List.mem_append.mp hy with hy | hy
        · exact hL3 y hy
        · rw [List.mem_singleton.mp hy]; exact hx6
      · obtain ⟨⟨⟨L, hL1, hL2, hL3⟩, hkd, hbx⟩, hacc⟩ := Y.dat
        refine ⟨acc2, rfl, by simp +arith only [*], Y.with (((StableX.stable StableX.rowsIn).and Stable.boxLe).and (Stable.list _ _) |>.and ?_) ⟨⟨⟨hkd.rowsIn X3.dat.1.1 (Nat.le_of_lt (by lia)), hbx.up (by simp +arith only [*])⟩, hkd.list X3.dat.2 (ang (by omega))⟩, fOf L, hL2 ▸ hL1.row hacc, fun j hj => ?_⟩⟩
        · exact Stable.ex fun _ => (Stable.intRow _ _ _).and Stable.const
        · unfold fOf
          rw [List.getD_eq_getElem?_getD, List.getElem?_eq_getElem (by simp +arith only [*])]
          exact hL3 _ (List.getElem_mem _)
    · rintro v h' ⟨r, rfl, hr, Y⟩
      refine Y.with (((StableX.stable StableX.rowsIn).and Stable.boxLe).and (Stable.list _ _)) ⟨⟨⟨by rw [List.length_append, List.length_singleton, Y.dat.1.1.1.1], fun j hj => ?_⟩, Y.dat.1.1.2⟩, Y.dat.1.2⟩
      have hlen := Y.dat.1.1.1.1
      by_cases hji : j < i
      · obtain ⟨r', b1, b2, b3⟩ := Y.dat.1.1.1.2 j hji
        exact ⟨r', by rw [List.getElem?_append_left (by simp +arith only [*])]; exact b1, b2, b3⟩
      · obtain rfl : j = i := by lia
        refine ⟨r, ?_, Nat.lt_of_lt_of_le hzi hr, Y.dat.2⟩
        rw [List.getElem?_append_right (by omega), hlen, Nat.sub_self]; rfl
  · obtain ⟨⟨hrows, hbx⟩, hacc⟩ := X.dat
    obtain ⟨rows, hrow⟩ := pick hrows.2
    obtain ⟨f, hf⟩ := pick (P := fun j (f : Nat → Int) => IntRow h' (rows j) nn f ∧ ∀ c, c < nn → (f c).natAbs ≤ 6) fun j hj => (hrow j hj).2.2
    refine q acc mm nn f h' X.back (by lia) ⟨rows, ⟨_, hacc, by simpa using hrows.1, fun i hi => by simpa using (hrow i hi).1⟩, fun i hi => (hf i hi).1⟩ (by simp +arith only [*]) (by simp +arith only [*]) (by simp +arith only [*]) (by simp +arith only [*]) (fun i j hi hj => (hf i hi).2 j hj) (hbx.up (by lia))
end
end Mine
namespace Mine
section
variable {prog : Program} {w : World} {A : Around} {h0 hs h : Heap} {D : Addr → Prop} {env : Env} {m : Str → Option Value} {P : Heap → Prop} {fa : Nat → Addr} {cd : Nat → Value}
theorem ses_push (S : Ses h0 hs D env m P h) (vs : Array Value) : Ses h0 hs D env m (fun h' => P h' ∧ h'.IsList h.objs.size vs) (h.push { cls := .type "list", data := .seq vs }) :=
  S.on (S.st.and (Stable.list _ _)) ⟨S.st _ _ S.dat (KD.push _ _), _, Heap.get?_push_size _ rfl, rfl, _, rfl⟩ (by rw [Heap.size_push]; exact Nat.le_succ _) fun _ _ e => Heap.get?_push_of_some _ e
theorem T_addL {l b : Addr} {vs ws : Array Value} {Q : Value → Heap → Prop} (S : Ses h0 hs D env m P h) (hl : h.IsList l vs) (hb : h.IsList b ws) (hz : vs.size + ws.size ≤ sizeLine)
    (q : ∀ a h', a = h.objs.size → Ses h0 hs D env m (fun h => P h ∧ h.IsList a (vs ++ ws)) h' → Q (.ref a) h') : Tr prog w A (binaryOp .Add (.ref l) (.ref b)) h Q := fun s e => by
  subst e
  obtain ⟨⟨cls, dd, data, sl⟩, ho, hc, n, hd⟩ := id hl
  obtain ⟨⟨cls2, dd2, data2, sl2⟩, ho2, hc2, n2, hd2⟩ := id hb
  simp only at hc hd hc2 hd2
  subst hc hd hc2 hd2
  exact concat_meets ⟨_, ho, rfl⟩ ⟨_, ho2, rfl⟩ noFill_list_add seq_list_add PySem.F.slot_list_add PySem.F.entry_list_add (PySem.F.args_list_add_2 _ _) (list_addW l b vs ws n n2 dd dd2 sl sl2 hz) ⟨ho, ho2, ⟨rfl, rfl, rfl⟩, q _ _ rfl (ses_push S _)⟩
theorem T_mulL {l : Addr} {vs : List Value} {x : Int} {u : Tok} {Q : Value → Heap → Prop} (S : Ses h0 hs D env m P h) (hl : h.IsList l vs.toArray) (hlo : 0 ≤ x) (hhi : x < 2 ^ 62) (hsz : vs.length * x.toNat ≤ 256)
    (q : ∀ a h', a = h.objs.size → Ses h0 hs D env m (fun h => P h ∧ h.IsList a (List.replicate x.toNat vs).flatten.toArray) h' → Q (.ref a) h') : Tr prog w A (binaryOp .Mult (.ref l) (.int x u)) h Q := fun s e => by
  subst e
  obtain ⟨⟨cls, d, data, sl⟩, ho, hc, k, hd⟩ := id hl
  simp only at hc hd
  subst hc hd
  have hsz' : vs.toArray.size * x.toNat ≤ 256 := by simpa using hsz
  refine wpAny_binaryOp_repeat_ref (T := "list") (U := "int") (by decide) ⟨_, ho, rfl⟩ (fun s' => typeIs_int s' x u) noFill_list_mul F.fills_int_mul F.slot_int_rmul repeat_list F.slot_int_index.lookup
    (call_meets F.slot_int_rmul (typeIs_int s x u) F.entry_int_rmul (F.args_int_rmul_2 _ _) (lm_int_rmul_list_any x u l vs.toArray k d sl)
      ⟨ho, rfl, ⟨_, ho, rfl⟩, call_meets F.slot_list_mul ⟨_, ho, rfl⟩ F.entry_list_mul (F.args_list_mul_2 _ _)
        (lm_list_mul_any l vs.toArray k d sl x u (by simp [Builtin.List.listFitsIndex]; omega) (by omega) (by simp [Builtin.List.listTooLong, sizeLine]; omega))
        ⟨ho, ?_⟩⟩)
  rw [listMul_foldl_if]
  exact ⟨⟨rfl, rfl, rfl⟩, q _ _ rfl (ses_push S _)⟩
end
end Mine
namespace Mine
section
variable {prog : Program} {w : World} {h0 : Heap} {fa : Nat → Addr} {cd : Nat → Value}
/-- a matrix that has no list in common with the box -/
noncomputable def GridB (b : Addr) (h : Heap) (a : Addr) (m n : Nat) (B : Nat → Nat → Int) : Prop := ∃ rows, RefRow h a m rows ∧ (∀ i, i < m → IntRow h (rows i) n (B i)) ∧ a ≠ b ∧ ∀ i, i < m → rows i ≠ b
theorem Stable.gridB {b a m n B} : Stable (fun h => GridB b h a m n B) := Stable.ex fun _ => (Stable.refRow _ _ _).and ((Stable.all fun _ => Stable.imp (Stable.intRow _ _ _)).and Stable.const)
theorem BoxLe.but {b l xs C c} {h h' : Heap} (x : BoxLe b l xs C h) (k : ∀ b, b ≠ c → h'.get? b = h.get? b) (h1 : b ≠ c) (h2 : l ≠ c) : BoxLe b l xs C h' := by
  obtain ⟨n, t, a1, a2, vs, a3, a4⟩ := x
  exact ⟨n, t, a1, IsList.but a2 k h1, vs, IsList.but a3 k h2, a4⟩
set_option maxHeartbeats 4000000 in
theorem deed_walk {A : Around} {k : Nat} {h : Heap} {b l a : Addr} {xs : List Int} {C m n : Nat} {X : Nat → Nat → Int} {Q : Value → Heap → Prop} (G : Gr prog h0 fa cd)
    (R : Rm A (k + 2)) (hb : ∀ b o, h0.get? b = some o → h.get? b = some o) (hsz : h0.objs.size ≤ h.objs.size) (B : BoxLe b l xs C h) (hab : GridB b h a m n X) (hC : C ≤ 100) (hbn : h0.objs.size ≤ b) (hbl : b ≠ l) (hxs : xs.length ≤ 1000)
    (hm : m ≤ 100) (hm0 : 0 < m) (hn : n ≤ 100)
    (q : ∀ a' X' h', Ext (fun x => x = b) h h' → GridB b h' a' m n X' → RowDeed m X X' → BoxLe b l xs (C + 4) h' → Q (.ref a') h') :
    Tr prog w A (call (.ref (fa 18)) [.ref b, .ref a]) h Q := by
  obtain ⟨rows, hrr, hir, hab, hrb⟩ := hab
  have stG : Stable (fun h => RefRow h a m rows ∧ ∀ i, i < m → IntRow h (rows i) n (X i)) := (Stable.refRow _ _ _).and (Stable.all fun _ => Stable.imp (Stable.intRow _ _ _))
  refine T_fn (P := fun h => BoxLe b l xs C h ∧ RefRow h a m rows ∧ ∀ i, i < m → IntRow h (rows i) n (X i)) G.law_deed hb hsz G.nolimit R (fun x => x = b) (fun x e => e ▸ hbn) (Stable.boxLe.and stG) ⟨B, hrr, hir⟩
    (binds := [("box", .ref b), ("grid", .ref a)]) (fun _ _ _ _ _ => rfl) (by rfl) fun L h1 hL S R1 => ?_
  subst hL
  have hR := R1.handled
  obtain ⟨oT, fT, kT⟩ := fnAtOf G.law_take
  have ext : ∀ {h h' : Heap}, Ext (fun x => x = b) h h' → (RefRow h a m rows ∧ ∀ i, i < m → IntRow h (rows i) n (X i)) → (RefRow h' a m rows ∧ ∀ i, i < m → IntRow h' (rows i) n (X i)) := fun e x => ⟨x.1.ext e hab, fun i hi => (x.2 i hi).ext e (hrb i hi)⟩
  refine T_cons <| T_asName <| T_call <| T_glo S G.nm.len <| T_cwB <| T_sp <| T_cel S rfl <| T_sp0 <| T_lenR S.dat.2.1 (by exact Nat.le_trans (by assumption) (by decide)) fun tm => T_st S asgL fun h2 S => ?_
  refine T_cons <| T_asTuple <| T_tup <| T_sp <| T_call <| T_glo S G.nm.law_take <| T_cwF <| T_sp <| T_loc S rfl <| T_sp <| T_int fun _ => T_sp0 ⟨kT _ S.base, ?_⟩
  refine take_walk G R1 S.base S.gsz S.dat.1 (by exact Nat.le_trans (by assumption) (by decide)) hbn hbl hxs (by decide) fun v1 t1 h3 e B1 v10 v13 => ?_
  have S := S.after e (fun x q => .inl q) (fun x q => q ▸ S.dat.1.isList) (Stable.boxLe.and stG) ⟨B1, ext e S.dat.2⟩
  refine T_sp <| T_call <| T_glo S G.nm.law_take <| T_cwF <| T_sp <| T_loc S rfl <| T_sp <| T_loc S upd_same <| T_sp0 ⟨kT _ S.base, ?_⟩
  refine take_walk G R1 S.base S.gsz S.dat.1 (by exact Nat.lt_of_le_of_lt (by assumption) (by decide)) hbn hbl hxs (by exact Int.ofNat_lt.mpr (by assumption)) fun v2 t2 h4 e B2 v20 v23 => ?_
  have S := S.after e (fun x q => .inl q) (fun x q => q ▸ S.dat.1.isList) (Stable.boxLe.and stG) ⟨B2, ext e S.dat.2⟩
  refine T_sp <| T_call <| T_glo S G.nm.law_take <| T_cwF <| T_sp <| T_loc S rfl <| T_sp <| T_loc S upd_same <| T_sp0 ⟨kT _ S.base, ?_⟩
  refine take_walk G R1 S.base S.gsz S.dat.1 (by lia) hbn hbl hxs (by exact Int.ofNat_lt.mpr (by assumption)) fun v3 t3 h5 e B3 v30 v33 => ?_
  have S := S.after e (fun x q => .inl q) (fun x q => q ▸ S.dat.1.isList) (Stable.boxLe.and stG) ⟨B3, ext e S.dat.2⟩
  obtain ⟨i, rfl⟩ : ∃ i : Nat, v2 = (i : Int) := ⟨v2.toNat, by lia⟩
  obtain ⟨j, rfl⟩ : ∃ j : Nat, v3 = (j : Int) := ⟨v3.toNat, by lia⟩
  have hi : i < m := by lia
  have hj : j < m := by lia
  refine T_sp0 <| T_newTuple S fun p h6 _ S => T_toTuple hR S S.dat.2 rfl rfl fun h7 S _ => T_ao <| T_toName <| T_st S asgL fun h8 S => T_ao <| T_toName <| T_st S asgL fun h9 S => T_ao <| T_toName <| T_st S asgC fun h10 S => T_ao0 ?_
  have S := S.with (Stable.boxLe.and stG) S.dat.1
  have hbx10 := S.dat.1
  have hrr10 := S.dat.2.1
  have hir10 := S.dat.2.2
  have hz10p := S.ext.size
  refine T_cons <| T_copyCompA (a := a) (rows := rows) (mm := m) (n := n) (B := X) S hR G.nm (fun _ q => q.2) (by exact Nat.le_trans (by assumption) (by decide)) (by exact Nat.le_trans (by assumption) (by decide)) (fun D' Q' Si q => T_cel Si rfl q) asgL fun g rg h11 hge hgr S => ?_
  have hz10 := S.ext.size
  have hz10' : h.objs.size ≤ h10.objs.size := hz10p
  have hgm11 := S.dat.2
  have hz11 : h10.objs.size ≤ h11.objs.size := Nat.le_trans hge (Nat.le_of_lt hgm11.outer.lt)
  have hgb : g ≠ b := ang (Nat.lt_of_lt_of_le hbx10.lt hge)
  have hrgb : ∀ i, i < m → rg i ≠ b := fun i hi => ang (Nat.lt_trans (Nat.lt_of_lt_of_le hbx10.lt hge) (hgr i hi))
  have hlg : l ≠ g := ane (Nat.lt_of_lt_of_le hbx10.ltl hge)
  have hagl : g ≠ a := ang (Nat.lt_of_lt_of_le hrr10.lt hge)
  have hrgl : ∀ i, i < m → g ≠ rows i := fun i hi => ang (Nat.lt_of_lt_of_le (hir10 i hi).lt hge)
  have hDg : Dn (fun x => x = b) h g := .inr (Nat.le_trans hz10' hge)
  have ret : ∀ m1 h' X', m1 "grown" = some (.ref g) → Ses h0 h (Dn (fun x => x = b) h) (envF "_law_deed" (scopeN 18) h.objs.size (fa 18) (cd 18)) m1 (fun h => BoxLe b l xs (C + 4) h ∧ GridB b h g m n X') h' → RowDeed m X X' →
      Tr prog w (A.deeper (envF "_law_deed" (scopeN 18) h.objs.size (fa 18) (cd 18))) (execs ((bodyN 18).drop 4) (envF "_law_deed" (scopeN 18) h.objs.size (fa 18) (cd 18))) h' (fun fl h2 => Q (retOf fl) h2) := fun m1 h' X' hg S hd =>
    T_cons <| T_ret <| T_loc S hg <| q g X' _ S.back S.dat.2 hd S.dat.1
  refine T_cons <| T_if <| T_tcmp <| T_loc S rfl <| T_int fun _ => T_eq <| T_truthyB ?_
  by_cases hf0 : v1 = 0
  · rw [if_pos (by simpa using hf0)]
    refine T_cons <| T_asTuple <| T_tup <| T_sp <| T_sub <| T_cel S rfl <| T_cel S rfl <| T_itemR S.dat.1.2.1 rfl hj (by exact Nat.le_trans (by assumption) (by decide)) <| T_sp <| T_sub <| T_cel S rfl <| T_loc S rfl <| T_itemR S.dat.1.2.1 rfl hi (by exact Nat.le_trans (by assumption) (by decide)) <| T_sp0 <| T_newTuple S fun p h12 _ S => T_toTuple hR S S.dat.2 rfl rfl fun h13 S _ => ?_
    obtain ⟨vs, hl, hz, hv⟩ := id S.dat.1.2.outer
    have hbx := S.dat.1.1.1
    have hrr := S.dat.1.1.2.1
    have hir := S.dat.1.1.2.2
    have hgm := S.dat.1.2
    refine T_ao <| T_toSub <| T_loc S rfl <| T_loc S rfl <| T_setItem S hl hDg (by omega) (by lia) (by simp +arith only [*]) (P' := fun h => (BoxLe b l xs (C + 1 + 1 + 1) h ∧ (∀ i, i < m → IntRow h (rows i) n (X i))) ∧ h.IsList g (vs.setIfInBounds i (.ref (rows j))) ∧ (∀ i, i < m → IntRow h (rg i) n (X i)))
      ((Stable.boxLe.and (Stable.all fun _ => Stable.imp (Stable.intRow _ _ _))).and ((Stable.list _ _).and (Stable.all fun _ => Stable.imp (Stable.intRow _ _ _)))) (fun h' hl' kb => ⟨⟨hbx.but kb hgb.symm hlg, fun i hi => (hir i hi).but kb (hrgl i hi).symm⟩, hl', fun i hi => (hgm.row i hi).but kb (hgm.ne i hi)⟩) fun h14 S2 => ?_
    obtain ⟨⟨hbx2, hir2⟩, hl2, hgm2⟩ := S2.dat
    refine T_ao <| T_toSub <| T_loc S2 rfl <| T_cel S2 rfl <| T_setItem S2 hl2 hDg (by omega) (by lia) (by rw [Array.size_setIfInBounds]; (simp +arith only [*])) (P' := fun h => BoxLe b l xs (C + 4) h ∧ GridB b h g m n (swR X j i)) (Stable.boxLe.and Stable.gridB)
      (fun h' hl' kb => ⟨(hbx2.but kb hgb.symm hlg).up (by simp +arith only [*]), fun r => if r = j then rows i else if r = i then rows j else rg r, ⟨_, hl', by simp [hz], fun r hr => ?_⟩, fun r hr => ?_, hgb, fun r hr => ?_⟩) fun h15 S => T_ao0 (T_nil (ret _ _ _ rfl S (.swap hj hi)))
    · simp only [Int.toNat_natCast]
      rw [Array.getElem?_setIfInBounds]
      by_cases e1 : j = r
      · subst e1; rw [if_pos rfl, if_pos (by simp; (simp +arith only [*])), if_pos rfl]
      · rw [if_neg e1, Array.getElem?_setIfInBounds]
        simp only [if_neg (fun q => e1 q.symm : ¬ r = j)]
        by_cases e2 : i = r
        · subst e2; rw [if_pos rfl, if_pos (by simp +arith only [*]), if_pos rfl]
        · rw [if_neg e2]; simp only [if_neg (fun q => e2 q.symm : ¬ r = i)]; exact hv r hr
    · unfold swR swp
      by_cases e1 : r = j
      · simp only [if_pos e1]; exact (hir2 i hi).but kb (hrgl i hi).symm
      · by_cases e2 : r = i
        · simp only [if_neg e1, if_pos e2]; exact (hir2 j hj).but kb (hrgl j hj).symm
        · simp only [if_neg e1, if_neg e2]; exact (hgm2 r hr).but kb (hgm.ne r hr)
    · by_cases e1 : r = j
      · simp only [if_pos e1]; exact hrb i hi
      · by_cases e2 : r = i
        · simp only [if_neg e1, if_pos e2]; exact hrb j hj
        · simp only [if_neg e1, if_neg e2]; exact hrgb r hr
  rw [if_neg (by simpa using hf0)]
  refine T_cons <| T_if <| T_tcmp <| T_loc S rfl <| T_int fun _ => T_eq <| T_truthyB ?_
  by_cases hf1 : v1 = 1
  · rw [if_pos (by simpa using hf1)]
    have hbx := S.dat.1.1
    refine T_cons <| T_asSub <| T_intComp (r := rows i) (n := n) (g := X i) (fun c => 0 - X i c) S hR (fun h M => M.1.2.2 i hi) (by exact Nat.le_trans (by assumption) (by decide))
      (fun D' Q' Si q => T_sub <| T_cel Si rfl <| T_loc Si rfl <| T_itemR Si.dat.1.2.1 rfl hi (by exact Nat.le_trans (by assumption) (by decide)) q) (fun C c mi t1 hi' hc hf Y => T_bin <| T_int fun _ => T_loc Y upd_same <| T_subi fun _ => ⟨rfl, _, rfl⟩) (fun acc h12 hacc S => ?_)
    refine T_loc S rfl <| T_loc S rfl <| T_putRow S S.dat.1.2 S.dat.2 rfl hi (by exact Nat.le_trans (by assumption) (by decide)) hDg ?_ ?_ ?_ (P' := fun h => BoxLe b l xs (C + 4) h ∧ GridB b h g m n (setRow X i (fun c => 0 - X i c))) (Stable.boxLe.and Stable.gridB)
      (fun h' kb M' => ⟨(S.dat.1.1.1.but kb hgb.symm hlg).up (by simp +arith only [*]), _, M'.outer, M'.row, hgb, fun r hr => ?_⟩) fun h13 S => T_nil (T_nil (ret _ _ _ rfl S (.neg hi)))
    · exact Nat.ne_of_gt (Nat.lt_of_lt_of_le hgm11.outer.lt hacc)
    · exact fun r hr _ => Nat.ne_of_gt (Nat.lt_of_lt_of_le (hgm11.row r hr).lt hacc)
    · exact Nat.le_trans hgm11.lo (Nat.le_of_lt (Nat.lt_of_lt_of_le hgm11.outer.lt hacc))
    · split
      · exact ang (Nat.lt_of_lt_of_le (Nat.lt_of_lt_of_le hbx10.lt hz11) hacc)
      · exact hrgb r hr
  rw [if_neg (by simpa using hf1)]
  refine T_cons <| T_if <| T_tcmp <| T_loc S rfl <| T_cel S rfl <| T_ne <| T_truthyB ?_
  by_cases hij : i = j
  · rw [if_neg (by simp [hij])]
    have hgm := S.dat.2
    refine T_nil (T_nil (T_nil (ret _ _ X rfl (S.with (Stable.boxLe.and Stable.gridB) ⟨S.dat.1.1.up (by simp +arith only [*]), rg, hgm.outer, hgm.row, hgb, hrgb⟩) .same)))
  rw [if_pos (by simp; lia)]
  refine T_cons <| T_asName <| T_bin <| T_call <| T_glo S G.nm.law_take <| T_cwF <| T_sp <| T_loc S rfl <| T_sp <| T_int fun _ => T_sp0 ⟨kT _ S.base, ?_⟩
  refine take_walk G R1 S.base S.gsz S.dat.1.1 (by lia) hbn hbl hxs (by decide) fun v4 t4 h12 e B4 v40 v43 => T_int fun _ => T_subi fun tt => ?_
  have S := S.after e (fun x q => .inl q) (fun x q => q ▸ S.dat.1.1.isList) ((Stable.boxLe.and stG).and (Stable.mat h0.objs.size g rg m n X)) ⟨⟨B4, ext e S.dat.1.2⟩, S.dat.2.ext e fun x hx q => by
    subst q
    rcases hx with hx | ⟨r, hr, hx⟩
    · exact hgb hx.symm
    · exact hrgb r hr hx.symm⟩
  refine T_st S asgC fun h13 S => ?_
  have hgm13 := S.dat.2
  have hbx13 := S.dat.1.1
  refine T_cons <| T_asSub <| T_enumComp (r := rows i) (n := n) (g := X i) (fun c => X i c + (v4 - 3) * X j c) S hR G.nm (fun h M => M.1.2.2 i hi) (by exact Nat.le_trans (by assumption) (by decide))
    (fun D' Q' Si q => T_sub <| T_cel Si (un rfl) <| T_loc Si (un rfl) <| T_itemR Si.dat.1.2.1 rfl hi (by exact Nat.le_trans (by assumption) (by decide)) q) (fun C' c mi t0 t1 hi' hc hf Y => ?_) (fun acc h14 hacc S => ?_)
  · exact T_bin <| T_loc Y upd_same <| T_bin <| T_cel Y ((hf "times" rfl).trans upd_same) <| T_sub <| T_sub <| T_cel Y ((hf "grid" rfl).trans (un rfl)) <| T_cel Y ((hf "other" rfl).trans (un rfl)) <| T_itemR Y.dat.1.2.1 rfl hj (by exact Nat.le_trans (by assumption) (by decide)) <| T_loc Y (un upd_same) <| T_itemI (Y.dat.1.2.2 j hj) rfl hc (by exact Nat.le_trans (by assumption) (by decide)) fun _ =>
      T_mul (.of_left (intBits_le_64 (by lia) (by lia))) fun _ => T_add fun _ => ⟨rfl, _, rfl⟩
  · refine T_loc S (un rfl) <| T_loc S (un rfl) <| T_putRow S S.dat.1.2 S.dat.2 rfl hi (by exact Nat.le_trans (by assumption) (by decide)) hDg ?_ ?_ ?_ (P' := fun h => BoxLe b l xs (C + 4) h ∧ GridB b h g m n (setRow X i (fun c => X i c + (v4 - 3) * X j c))) (Stable.boxLe.and Stable.gridB)
      (fun h' kb M' => ⟨(S.dat.1.1.1.but kb hgb.symm hlg).up (by simp +arith only [*]), _, M'.outer, M'.row, hgb, fun r hr => ?_⟩) fun h13 S => T_nil (T_nil (T_nil (ret _ _ _ (un rfl) S (.add hi hj hij (by lia)))))
    · exact Nat.ne_of_gt (Nat.lt_of_lt_of_le hgm13.outer.lt hacc)
    · exact fun r hr _ => Nat.ne_of_gt (Nat.lt_of_lt_of_le (hgm13.row r hr).lt hacc)
    · exact Nat.le_trans hgm13.lo (Nat.le_of_lt (Nat.lt_of_lt_of_le hgm13.outer.lt hacc))
    · split
      · exact ang (Nat.lt_of_lt_of_le hbx13.lt hacc)
      · exact hrgb r hr
end
end Mine
namespace Mine
section
variable {prog : Program} {w : World} {h0 : Heap} {fa : Nat → Addr} {cd : Nat → Value}
set_option maxHeartbeats 4000000 in
theorem flipped_walk {A : Around} {k : Nat} {h : Heap} {a : Addr} {rows : Nat → Addr} {m n : Nat} {X : Nat → Nat → Int} {Q : Value → Heap → Prop} (G : Gr prog h0 fa cd)
    (R : Rm A (k + 1)) (hb : ∀ b o, h0.get? b = some o → h.get? b = some o) (hsz : h0.objs.size ≤ h.objs.size) (M : RefRow h a m rows ∧ ∀ i, i < m → IntRow h (rows i) n (X i)) (hm : m ≤ 100) (hm0 : 0 < m) (hn : n ≤ 100)
    (q : ∀ a' rows' h', Ext (fun _ => False) h h' → h.objs.size ≤ a' → Mat h0.objs.size h' a' rows' n m (fun i j => X j i) → (∀ i, i < n → h.objs.size ≤ rows' i) → Q (.ref a') h') :
    Tr prog w A (call (.ref (fa 19)) [.ref a]) h Q := by
  refine T_fn (P := fun h => RefRow h a m rows ∧ ∀ i, i < m → IntRow h (rows i) n (X i)) G.law_flipped hb hsz G.nolimit R (fun _ => False) (fun _ f => f.elim) ((Stable.refRow _ _ _).and (Stable.all fun _ => Stable.imp (Stable.intRow _ _ _))) M
    (binds := [("grid", .ref a)]) (fun _ _ _ _ _ => rfl) (by rfl) fun L h1 hL S R1 => ?_
  subst hL
  have hR := R1.handled
  have Si := S.inner
  refine T_cons <| T_ret <| T_compE <| T_call <| T_glo Si G.nm.range <| T_cwT <| T_sp <| T_call <| T_glo Si G.nm.len <| T_cwB <| T_sp <| T_sub <| T_cel Si rfl <| T_int fun _ => T_itemR Si.dat.1 (i := 0) rfl hm0 (by exact Nat.le_trans (by assumption) (by decide)) <| T_sp0 <| T_lenI (Si.dat.2 0 hm0) (by exact Nat.le_trans (by assumption) (by decide)) fun _ => T_sp0 <| T_range1 Si fun r h2 t1 t2 t3 S2 hr => ?_
  refine T_iterRange S2 hr (by decide) (by decide) (by exact Int.natCast_nonneg _) (by lia) fun I h3 S3 hI0 hIge hI => ?_
  have e0 : (((n : Int) - 0).toNat) = n := by rfl
  rw [e0] at hI
  refine compRows (n := m) (fun i j => X j i) S S3 (St := fun i h => IsRangeIter h I (0 + (i : Int)) ((n : Int) - (i : Int)) 1) (by simpa using hI)
    (fun C hC => drawRange hR (.inr ⟨rfl, _, rfl, S3.nw _ (by have := S3.ext.size; lia)⟩) (new_none S2 hIge)) (hU1 (by decide)) (fun _ _ => trivial) (by rw [sizeLine_eq]; (exact Nat.le_trans (by assumption) (by decide)))
    (fun C i m' hi P' hC hlt hm' hu hP Y => ?_) (fun acc C mC rows' h' e1 e2 Y hrows hN => ?_)
  · obtain ⟨mi, t, rfl⟩ := hu
    have Yi := Y.inner
    have ei : ((0 : Int) + (i : Int)) = (i : Int) := by simp +arith only [*]
    obtain ⟨vs, hl, hz, hv⟩ := (hP hi Y.dat).1
    subst hz
    refine T_compE <| T_cel Yi ((hm' "grid" rfl).trans rfl) <| T_iterList Yi hl fun I2 h4 X2 hge hI2 hl2 => ?_
    have X2' := X2.with (X2.st.and (Stable.list a vs)) ⟨X2.dat, hl2⟩
    refine compInts (n := vs.size) (fun j => X j i) Y X2' (St := fun i h => h.IsListIter I2 a i) hI2
      (fun C hC => drawList hR (.inl ⟨rfl, rfl, X2'.nw C (by have := X2'.ext.size; lia)⟩) (none_above hge)) (hUv (by decide)) (fun _ q => q.2) (by rw [sizeLine_eq]; (exact Nat.le_trans (by assumption) (by decide)))
      (fun C j m2 hj hlt2 hm2 hu2 Z => ?_) (fun acc h' e Z => ⟨acc, rfl, ?_, Z.with (Y.st.and (Stable.intRow _ _ _)) ⟨Z.dat.1.1, Z.dat.2⟩⟩)
    · obtain ⟨mj, v, hvj, rfl⟩ := hu2
      rw [hv j hlt2] at hvj
      obtain rfl := Option.some.inj hvj
      have hrow := (hP hj Z.dat.1).2 j hlt2
      exact T_sub <| T_loc Z upd_same <| T_cel Z ((hm2 "spot" rfl).trans upd_same) <| T_itemI hrow ei hlt (by exact Nat.le_trans (by assumption) (by decide)) fun t => ⟨rfl, t, rfl⟩
    · have := X2.ext.size; (simp +arith only [*])
  · refine ⟨mC, hN, fun h'' hs' => ?_⟩
    have hCs : h1.objs.size ≤ C := by have := S3.ext.size; lia
    have Z := Y.sameButC hN hs' (S.nw C (Nat.le_trans S.ext.size hCs)) fun q => Nat.lt_irrefl _ (Nat.lt_of_lt_of_le (S.frame_lt q) hCs)
    have ha : h.objs.size ≤ acc := by have := S3.ext.size; have := S.ext.size; lia
    exact q acc rows' h'' Z.back ha Z.dat.2 fun i hi => Nat.le_trans ha (Nat.le_of_lt (hrows i hi))
end
end Mine
namespace Mine
section
variable {prog : Program} {w : World} {A : Around} {h0 hs h : Heap} {D : Addr → Prop} {env : Env} {m : Str → Option Value} {P : Heap → Prop} {fa : Nat → Addr}
/-- z = [elt for x, y in enumerate(E)], E a list of ints -/
theorem T_enumCompA {elt E : Expr} {x y z : Str} {px py pz pt ep ec pos spos : Pos} {kk : Nat} {scope : Scope} {r : Addr} {n : Nat} {g : Nat → Int} {Q : Flow → Heap → Prop} (f : Nat → Int)
    (S : Ses h0 hs D env m P h) (hh : A.handled = none) (N : Nm h0 fa) (hr : ∀ h, P h → IntRow h r n g) (hn : n ≤ 1000)
    (ev : ∀ (D' : Addr → Prop) (Q' : Value → Heap → Prop), Ses h0 h D' env m P h → Q' (.ref r) h → Tr prog w A (eval E env) h Q')
    (step : ∀ C j mi t t' hi, j < n → (∀ z, scope.names.lookup z = some .free → upd (upd mi x (.int (j : Int) t)) y (.int (g j) t') z = m z) → Ses h0 hi (Dc D env) (cenvOf scope env C) (upd (upd mi x (.int (j : Int) t)) y (.int (g j) t')) P hi →
      Tr prog w A (eval elt (cenvOf scope env C)) hi (fun v h' => h' = hi ∧ ∃ t, v = .int (f j) t))
    (ha : Asg env D z)
    (fin : ∀ acc h', h.objs.size ≤ acc → Ses h0 hs D env (upd m z (.ref acc)) (fun h => P h ∧ IntRow h acc n f) h' → Q .next h')
    (hsw : swapsWith (.ListComp elt [⟨.Tuple [.Name x px, .Name y py] kk pt, .Call (.Name "enumerate" ep) [E] [] ec, [], 0⟩] scope pos) (some (.Name z pz)) spos.line env = pure true := by rfl)
    (hx : (relabel scope env).names.lookup x = some .local := by rfl) (hy : (relabel scope env).names.lookup y = some .local := by rfl)
    (hxc : ∀ C, (cenvOf scope env C).cells.lookup x = none := by intro _; rfl) (hyc : ∀ C, (cenvOf scope env C).cells.lookup y = none := by intro _; rfl)
    (hxf : scope.names.lookup x ≠ some .free := by decide) (hyf : scope.names.lookup y ≠ some .free := by decide)
    (hg : env.kindOf "enumerate" = some .globalImplicit := by rfl)
    (he : starEach [E] env = (false, eval E env) :: starEach [] env := by rfl)
    (hf : (scope.names.all fun x => x.2 != .free || (env.cells.lookup x.1).isSome) = true := by rfl)
    (hc : (scope.names.all fun x => scope.names.lookup x.1 == some x.2) = true := by rfl) (hk : scope.kind = .function := by rfl)
    (hs' : ∀ z, foldedSetIterable (.Call (.Name "enumerate" ep) [E] [] ec) env z = pure z := by intro _; rfl) :
    Tr prog w A (exec (.Assign [.Name z pz] (.ListComp elt [⟨.Tuple [.Name x px, .Name y py] kk pt, .Call (.Name "enumerate" ep) [E] [] ec, [], 0⟩] scope pos) spos) env) h Q := by
  have Si := S.inner
  refine T_asComp (T_call <| T_glo Si N.enumerate (T_cwT (T_sp (ev _ _ Si (T_sp0 ?_)) he) he) hg) hsw hf (rows_ok hc) hk hs'
  obtain ⟨vs, hl, hz, hv⟩ := hr h S.dat
  refine T_enum Si hl fun e I h2 S2 hge hlt hE hI hl2 => T_iterEnum hE ?_
  have S2' := S2.with (S2.st.and (Stable.list r vs)) ⟨S2.dat, hl2⟩
  subst hz
  refine compIntsA f S S2' (St := fun i h => (∃ old, IsEnum h e I (i : Int) old) ∧ h.IsListIter I r i) ⟨⟨_, hE⟩, hI⟩
    (fun C hC => drawEnum hh (.inl ⟨hx, hxc C, S2'.nw C (by have := S2'.ext.size; lia)⟩) (.inl ⟨hy, hyc C, S2'.nw C (by have := S2'.ext.size; lia)⟩)
      (none_above hge) (none_above (Nat.le_trans hge (Nat.le_of_lt hlt))) (Nat.ne_of_gt hlt))
    (hUe hxf hyf) (fun _ q => q.2) (by rw [sizeLine_eq]; (exact Nat.le_trans (by assumption) (by decide))) (fun C j m' hi hj hm hu X => ?_) ha (fun acc h' e1 X => fin acc h' (by have := S2'.ext.size; (simp +arith only [*])) (X.with (S.st.and (Stable.intRow _ _ _)) ⟨X.dat.1.1, X.dat.2⟩)) hf hc hk
  obtain ⟨mi, t, v, hvj, rfl⟩ := hu
  obtain ⟨t', ht'⟩ := hv j hj
  rw [ht'] at hvj
  obtain rfl := Option.some.inj hvj
  exact step C j mi t t' hi hj hm (X.with S.st X.dat.1)
end
section
variable {prog : Program} {w : World} {h0 : Heap} {fa : Nat → Addr} {cd : Nat → Value}
theorem zeros {h : Heap} {a : Addr} {t : Tok} {x : Nat} (hl : h.IsList a (List.replicate x [Value.int 0 t]).flatten.toArray) : IntRow h a x (fun _ => 0) := by
  have e : (List.replicate x [Value.int 0 t]).flatten = List.replicate x (Value.int 0 t) := by simp
  rw [e] at hl
  exact ⟨_, hl, by simp, fun j hj => ⟨t, by simp [hj]⟩⟩
set_option maxHeartbeats 4000000 in
theorem hanging_walk {A : Around} {k : Nat} {h : Heap} {b l a : Addr} {xs : List Int} {C m n : Nat} {X : Nat → Nat → Int} {Q : Value → Heap → Prop} (G : Gr prog h0 fa cd)
    (R : Rm A (k + 2)) (hb : ∀ b o, h0.get? b = some o → h.get? b = some o) (hsz : h0.objs.size ≤ h.objs.size) (B : BoxLe b l xs C h) (hab : GridB b h a m n X) (hC : C ≤ 100) (hbn : h0.objs.size ≤ b) (hbl : b ≠ l) (hxs : xs.length ≤ 1000)
    (hm : m ≤ 100) (hm0 : 0 < m) (hn : n ≤ 100)
    (q : ∀ a' t h', Ext (fun x => x = b) h h' → GridB b h' a' (m + 1) n (hangM m X t) → (∀ i, i < m → (t i).natAbs ≤ 2) → BoxLe b l xs (C + m) h' → Q (.ref a') h') :
    Tr prog w A (call (.ref (fa 20)) [.ref b, .ref a]) h Q := by
  obtain ⟨rows, hrr, hir, hab, hrb⟩ := hab
  have stG : Stable (fun h => RefRow h a m rows ∧ ∀ i, i < m → IntRow h (rows i) n (X i)) := (Stable.refRow _ _ _).and (Stable.all fun _ => Stable.imp (Stable.intRow _ _ _))
  refine T_fn (P := fun h => BoxLe b l xs C h ∧ RefRow h a m rows ∧ ∀ i, i < m → IntRow h (rows i) n (X i)) G.law_hanging hb hsz G.nolimit R (fun x => x = b) (fun x e => e ▸ hbn) (Stable.boxLe.and stG) ⟨B, hrr, hir⟩
    (binds := [("box", .ref b), ("grid", .ref a)]) (fun _ _ _ _ _ => rfl) (by rfl) fun L h1 hL S R1 => ?_
  subst hL
  have hR := R1.handled
  obtain ⟨oT, fT, kT⟩ := fnAtOf G.law_take
  have hbh : h.objs.size > b := B.lt
  refine T_cons <| T_asName <| T_bin <| T_lst <| T_sp <| T_int fun t0 => T_sp0 <| T_newList S fun p h2 _ S => T_call <| T_glo S G.nm.len <| T_cwB <| T_sp <| T_sub <| T_loc S rfl <| T_int fun _ => T_itemR S.dat.1.2.1 (i := 0) rfl hm0 (by exact Nat.le_trans (by assumption) (by decide)) <| T_sp0 <| T_lenI (S.dat.1.2.2 0 hm0) (by exact Nat.le_trans (by assumption) (by decide)) fun _ =>
    T_mulL S S.dat.2 (by exact Int.natCast_nonneg _) (by lia) (by simp; (exact Nat.le_trans (by assumption) (by decide))) fun s h3 es S3 => ?_
  have hsb : s ≠ b := ang (by have : h.objs.size ≤ h2.objs.size := S.ext.size; lia)
  have hs0 := zeros S3.dat.2
  have e0 : ((n : Int)).toNat = n := by rfl
  rw [e0] at hs0
  have S := S3.with ((Stable.boxLe.and stG).and (Stable.intRow s n (fun _ => 0))) ⟨S3.dat.1.1, hs0⟩
  refine T_st S asgL fun h4 S => ?_
  obtain ⟨vs, hl, hz, hv⟩ := id S.dat.1.2.1
  subst hz
  refine T_cons <| T_for <| T_loc S rfl <| T_iterList S hl fun I h5 S2 hge hI hl2 => ?_
  refine T_forD (drawList (vs := vs) hR asgC (new_none S hge)) S2 hI
    (fun k m hh => (m "box" = some (.ref b) ∧ m "grid" = some (.ref a)) ∧ hh.IsList a vs ∧ ∃ s t, (m "sums" = some (.ref s) ∧ s ≠ b ∧ ∀ i, i < k → (t i).natAbs ≤ 2) ∧ IntRow hh s n (hangS X t k) ∧ BoxLe b l xs (C + k) hh ∧ RefRow hh a vs.size rows ∧ ∀ i, i < vs.size → IntRow hh (rows i) n (X i))
    (fun k m => Stable.const.and ((Stable.list _ _).and (Stable.ex fun _ => Stable.ex fun _ => Stable.const.and ((Stable.intRow _ _ _).and (Stable.boxLe.and stG))))) (fun _ _ _ q => q.2.1) ?_ (fun k m m' h3 hlt hu Si jn => ?_) (fun m h3 Sf => ?_)
  · exact ⟨⟨rfl, rfl⟩, hl2, s, fun _ => 0, ⟨rfl, hsb, fun i hi => absurd hi (Nat.not_lt_zero _)⟩, S2.dat.2, S2.dat.1⟩
  · obtain ⟨v, hvk, rfl⟩ := hu
    rw [hv k hlt] at hvk
    obtain rfl := Option.some.inj hvk
    obtain ⟨⟨n1, n2⟩, hL, s, t, ⟨n3, hsb, ht⟩, hs, hbx, hG⟩ := Si.dat
    have S := Si.with ((Stable.intRow s n (hangS X t k)).and (Stable.boxLe.and (stG.and (Stable.list a vs)))) ⟨hs, hbx, hG, hL⟩
    refine T_cons <| T_asName <| T_bin <| T_call <| T_glo S G.nm.law_take <| T_cwF <| T_sp <| T_loc S (un n1) <| T_sp <| T_int fun _ => T_sp0 ⟨kT _ S.base, ?_⟩
    refine take_walk G R1 S.base S.gsz S.dat.2.1 (by lia) hbn hbl hxs (by decide) fun v4 t4 h12 e B4 v40 v43 => T_int fun _ => T_subi fun tt => ?_
    have S := S.after e (fun x q => .inl q) (fun x q => q ▸ S.dat.2.1.isList) ((Stable.intRow s n (hangS X t k)).and (Stable.boxLe.and (stG.and (Stable.list a vs)))) ⟨S.dat.1.ext e hsb, B4, ⟨S.dat.2.2.1.1.ext e hab, fun i hi => (S.dat.2.2.1.2 i hi).ext e (hrb i hi)⟩, IsList.ext S.dat.2.2.2 e hab⟩
    refine T_st S asgC fun h13 S => ?_
    have hbx13 := S.dat.2.1
    refine T_cons <| T_enumCompA (r := s) (n := n) (g := hangS X t k) (fun c => hangS X t k c + (v4 - 2) * X k c) S hR G.nm (fun h M => M.1) (by exact Nat.le_trans (by assumption) (by decide))
      (fun D' Q' Si q => T_loc Si (un (un n3)) q) (fun C' c mi t0 t1 hi' hc hf Y => ?_) asgL (fun acc h14 hacc S => T_nil ?_)
    · exact T_bin <| T_loc Y upd_same <| T_bin <| T_cel Y ((hf "times" rfl).trans upd_same) <| T_sub <| T_cel Y ((hf "line" rfl).trans (un upd_same)) <| T_loc Y (un upd_same) <| T_itemI (Y.dat.2.2.1.2 k hlt) rfl hc (by exact Nat.le_trans (by assumption) (by decide)) fun _ =>
        T_mul (.of_left (intBits_le_64 (by lia) (by lia))) fun _ => T_add fun _ => ⟨rfl, _, rfl⟩
    · refine ⟨_, S.with (Stable.const.and ((Stable.list _ _).and (Stable.ex fun _ => Stable.ex fun _ => Stable.const.and ((Stable.intRow _ _ _).and (Stable.boxLe.and stG))))) ⟨⟨un (un (un n1)), un (un (un n2))⟩, S.dat.1.2.2.2, acc, fun i => if i = k then v4 - 2 else t i, ⟨upd_same, ang (Nat.lt_of_lt_of_le hbx13.lt hacc), fun i hi => ?_⟩, ?_, S.dat.1.2.1, S.dat.1.2.2.1⟩⟩
      · dsimp only
        split
        · lia
        · exact ht i (by lia)
      · refine S.dat.2.congr fun c hc => ?_
        show _ = hangS X _ k c + _ * _
        rw [hangS_congr (t := t) (t' := fun i => if i = k then v4 - 2 else t i) (fun i hi => by rw [if_neg (by exact Nat.ne_of_lt (by assumption))]) c]
        simp
  · obtain ⟨⟨n1, n2⟩, hL, s, t, ⟨n3, hsb, ht⟩, hs, hbx, hG⟩ := Sf.dat
    have S := Sf.with ((Stable.intRow s n (hangS X t vs.size)).and (Stable.boxLe.and (stG.and (Stable.list a vs)))) ⟨hs, hbx, hG, hL⟩
    refine T_cons <| T_ret <| T_bin <| T_loc S n2 <| T_lst <| T_sp <| T_loc S n3 <| T_sp0 <| T_newList S fun p h6 ep S => ?_
    have hb6 : b < h6.objs.size := S.dat.1.2.1.lt
    refine T_addL S S.dat.1.2.2.2 S.dat.2 (by rw [sizeLine_eq]; simp; (exact Nat.le_trans (by assumption) (by decide))) fun a' h7 ea S => ?_
    obtain ⟨⟨⟨hs, hbx, hG, hL⟩, _⟩, hl'⟩ := S.dat
    refine q a' t _ S.back ⟨fun i => if i < vs.size then rows i else s, ⟨_, hl', by simp, fun i hi => ?_⟩, fun i hi => ?_, ?_, fun i hi => ?_⟩ ht hbx
    · show (vs ++ #[Value.ref s])[i]? = some (Value.ref (if i < vs.size then rows i else s))
      by_cases e : i < vs.size
      · rw [if_pos e, Array.getElem?_append_left e]; exact hv i e
      · obtain rfl : i = vs.size := by lia
        rw [if_neg e, Array.getElem?_append_right (Nat.le_refl _), Nat.sub_self]; rfl
    · unfold hangM
      by_cases e : i < vs.size
      · simp only [if_pos e]; exact hG.2 i e
      · simp only [if_neg e]; exact hs
    · rw [ea]; exact ang hb6
    · dsimp only
      split
      · exact hrb i (by assumption)
      · exact hsb
end
end Mine
namespace Mine
theorem box_ne_row {b l : Addr} {xs : List Int} {C : Nat} {h : Heap} {r : Addr} {n : Nat} {f : Nat → Int} (B : BoxLe b l xs C h) (x : IntRow h r n f) (hn : 0 < n) : r ≠ b := by
  rintro rfl
  obtain ⟨c, t, _, ⟨o, ho, _, k, hd⟩, _⟩ := B
  obtain ⟨vs, ⟨o', ho', _, k', hd'⟩, hz, hv⟩ := x
  rw [ho] at ho'; cases ho'
  rw [hd] at hd'
  obtain ⟨u, hu⟩ := hv 0 hn
  injection hd' with e1 _
  rw [← e1] at hu
  simp at hu
theorem box_ne_ref {b l : Addr} {xs : List Int} {C : Nat} {h : Heap} {a : Addr} {m : Nat} {rows : Nat → Addr} (B : BoxLe b l xs C h) (x : RefRow h a m rows) : a ≠ b := by
  rintro rfl
  obtain ⟨c, t, _, ⟨o, ho, _, k, hd⟩, _⟩ := B
  obtain ⟨vs, ⟨o', ho', _, k', hd'⟩, hz, hv⟩ := x
  rw [ho] at ho'; cases ho'
  rw [hd] at hd'
  injection hd' with e1 _
  subst e1
  have : m = 2 := by simpa using hz.symm
  subst this
  have := hv 1 (by decide)
  simp at this
theorem Grid.box {b l : Addr} {xs : List Int} {C : Nat} {h : Heap} {a : Addr} {m n : Nat} {X : Nat → Nat → Int} (x : Grid h a m n X) (B : BoxLe b l xs C h) (hn : 0 < n) : GridB b h a m n X := by
  obtain ⟨rows, r1, r2⟩ := x
  exact ⟨rows, r1, r2, box_ne_ref B r1, fun i hi => box_ne_row B (r2 i hi) hn⟩
theorem GridB.grid {b h a m n X} (x : GridB b h a m n X) : Grid h a m n X := let ⟨r, a, b, _⟩ := x; ⟨r, a, b⟩
theorem GridB.ext {b a m n X} {h h' : Heap} (x : GridB b h a m n X) (e : Ext (fun x => x = b) h h') : GridB b h' a m n X := let ⟨r, x1, x2, x3, x4⟩ := x; ⟨r, x1.ext e x3, fun i hi => (x2 i hi).ext e (x4 i hi), x3, x4⟩
theorem Grid.kd {a m n X} {h h' : Heap} (x : Grid h a m n X) (k : KD h h') : Grid h' a m n X := Stable.grid h h' x k
theorem matL_congr {m n : Nat} {B C : Nat → Nat → Int} (h : ∀ i j, i < m → j < n → B i j = C i j) : matL m n B = matL m n C := by
  unfold matL
  refine List.map_congr_left fun i hi => List.map_congr_left fun j hj => h i j (List.mem_range.mp hi) (List.mem_range.mp hj)
section
variable {prog : Program} {w : World} {A : Around} {h0 hs h : Heap} {D : Addr → Prop} {env : Env} {m : Str → Option Value} {P : Heap → Prop} {fa : Nat → Addr}
/-- l[:k] -/
theorem T_slice {value : Expr} {k : Nat} {kk : Nat} {cp sp pos : Pos} {Q : Value → Heap → Prop} (S0 : Ses h0 hs D env m P h)
    (q : Tr prog w A (eval value env) h (fun o h1 => ∃ l vs, o = .ref l ∧ Ses h0 hs D env m (fun h => P h ∧ h.IsList l vs) h1 ∧ vs.size ≤ sizeLine ∧ ∀ a h2, h1.objs.size ≤ a → Ses h0 hs D env m (fun h => P h ∧ h.IsList a (vs.toList.take k).toArray) h2 → Q (.ref a) h2))
    : Tr prog w A (eval (.Subscript value (.Slice none (some (.Constant (.int (k : Int)) kk cp)) none sp) pos) env) h Q := by
  refine T_sub (q.mono fun o h1 q1 => ?_)
  obtain ⟨l, vs, rfl, S, hz, fin⟩ := q1
  intro s e
  subst e
  refine wpAny_Slice ?_
  rw [evalPart_none, evalPart_some]
  refine wpAny_pure (wpAny_Constant_int ?_)
  refine wpAny_pure ⟨⟨rfl, rfl, rfl⟩, ?_⟩
  intro s2 e2
  have hl := S.dat.2.push { cls := .type "slice", data := .fields #[.none, .int (k : Int) s.toks, .none] }
  have S2 := (S.push { cls := .type "slice", data := .fields #[.none, .int (k : Int) s.toks, .none] }).with S0.st (S0.st _ _ S.dat.1 (KD.push _ _))
  have hsl : (s.heap.push { cls := .type "slice", data := .fields #[.none, .int (k : Int) s.toks, .none] }).IsSliceOf s.heap.objs.size .none (.int (k : Int) s.toks) .none := Heap.IsSliceOf.new ..
  have e2' : s2.heap = s.heap.push { cls := .type "slice", data := .fields #[.none, .int (k : Int) s.toks, .none] } := e2
  rw [← e2'] at hl S2 hsl
  refine tail_any (Heap.IsList.typeIs hl) list_getitem_lookup (wpAny_getItem_list_slice hl hsl .none (.int _ _) .none (by simp) ⟨⟨rfl, rfl, rfl⟩, ?_⟩ hz) (by rfl)
  rw [slicePick_upto']
  exact fin _ _ (by rw [e2', Heap.size_push]; exact Nat.le_succ _) (ses_push S2 _)
/-- [x for x in E if x != 0], E a list of ints -/
noncomputable def FilterOut (h0 hs : Heap) (D : Addr → Prop) (env : Env) (m : Str → Option Value) (P : Heap → Prop) (K : List Int → Prop) (v : Value) (h : Heap) : Prop := ∃ acc l, v = .ref acc ∧ K l ∧ Ses h0 hs D env m (fun h => P h ∧ IntL h acc (l.filter (fun x => x != 0))) h
theorem Ints.take_succ : ∀ {vs : List Value} {l : List Int}, Ints vs l → ∀ i (x : Value), vs[i]? = some x → ∃ y t, x = .int y t ∧ l.take (i + 1) = l.take i ++ [y]
  | v :: vs, y :: ys, ⟨⟨t, e⟩, r⟩, 0, x, h => by simp at h; subst h; exact ⟨y, t, e, by simp⟩
  | v :: vs, y :: ys, ⟨_, r⟩, i + 1, x, h => by
    obtain ⟨z, t, e, h2⟩ := Ints.take_succ r i x (by simpa using h)
    exact ⟨z, t, e, by rw [List.take_succ_cons, List.take_succ_cons, h2]; rfl⟩
  | [], [], _, _, _, h => by simp at h
  | [], _ :: _, x, _, _, _ => x.elim
  | _ :: _, [], x, _, _, _ => x.elim
theorem T_filterComp {E : Expr} {x : Str} {px p1 p2 p3 p4 pos : Pos} {kk : Nat} {scope : Scope} {K : List Int → Prop} {P2 : Heap → Prop}
    (S : Ses h0 hs D env m P h) (hh : A.handled = none) (hn : ∀ l, K l → l.length ≤ 1000)
    (ev : ∀ (Q' : Value → Heap → Prop), (∀ r l h2, K l → Ses h0 h (Dc D env) env m (fun h => P2 h ∧ IntL h r l) h2 → Q' (.ref r) h2) → Tr prog w A (eval E env) h Q')
    (hx : (relabel scope env).names.lookup x = some .local)
    (hxc : ∀ C, (cenvOf scope env C).cells.lookup x = none)
    (hxf : scope.names.lookup x ≠ some .free)
    (hdb : (x == ("__debug__" : Str)) = false)
    (hbm : behindInMarks .NotEq (.Constant (.int 0) kk p2) = false)
    (hf : (scope.names.all fun x => x.2 != .free || (env.cells.lookup x.1).isSome) = true)
    (hc : (scope.names.all fun x => scope.names.lookup x.1 == some x.2) = true) (hk : scope.kind = .function)
    (hs' : ∀ z, foldedSetIterable E env z = pure z) (stP : Stable P2) :
    Tr prog w A (eval (.ListComp (.Name x p3) [⟨.Name x px, E, [.Compare (.Name x p1) [.NotEq] [.Constant (.int 0) kk p2] p4], 0⟩] scope pos) env) h (FilterOut h0 hs D env m P2 K) := by
  refine T_compE (ev _ fun r l h2 hK S2 => ?_) hf (rows_ok hc) hk hs'
  obtain ⟨vs, hl, hi⟩ := S2.dat.2
  have hlen : vs.size = l.length := by simpa using hi.len
  have hn := hn l hK
  have S2 := S2.with (stP.and (Stable.list r vs)) ⟨S2.dat.1, hl⟩
  refine T_iterList S2 hl fun I h3 S3 hge hI hl2 => ?_
  refine compGoE S S3 (St := fun i h => h.IsListIter I r i) hI
    (fun C hC => drawList hh (.inl ⟨hx, hxc C, S3.nw C (by have := S3.ext.size; omega)⟩) (new_none S2 hge)) (hUv hxf)
    (fun i ys h => (KD h3 h ∧ Ints ys ((l.take i).filter (fun x => x != 0))) ∧ h.IsList r vs) (fun i ys => ((StableX.kd.and .const).and (StableX.list' (ane ?_)))) (fun _ _ _ q => q.2)
    ⟨⟨KD.refl _, trivial⟩, hl2⟩ (by rw [sizeLine_eq]; omega)
    (fun acc C i ys m' hi2 ea eC hlt hlen2 hm hu X => ?_) (fun acc ys h' ea hlen2 X => ?_) hf hc hk
  · obtain ⟨o, ho, _⟩ := hl2; exact Heap.lt_size ho
  · obtain ⟨mi, v, hvi, rfl⟩ := hu
    obtain ⟨y, t, rfl, htk⟩ := hi.take_succ i v (by simpa using hvi)
    refine T_tests1 <| T_tcmp (T_loc X upd_same (T_int fun _ => T_ne <| T_truthyB ?_) hx hdb) hbm
    by_cases hz : y = 0
    · rw [if_neg (by simp [hz])]
      refine X.with (((StableX.kd.stable.and .const).and (Stable.list _ _)).and (Stable.list _ _)) ⟨⟨⟨X.dat.1.1.1, ?_⟩, X.dat.1.2⟩, X.dat.2⟩
      rw [htk, List.filter_append]
      simpa [hz] using X.dat.1.1.2
    · rw [if_pos (by simpa using hz)]
      refine T_loc X upd_same (X.with (((StableX.kd.stable.and .const).and (Stable.list _ _)).and (Stable.list _ _)) ⟨⟨⟨X.dat.1.1.1, ?_⟩, X.dat.1.2⟩, X.dat.2⟩) hx hdb
      rw [htk, List.filter_append]
      have e : [y].filter (fun x => x != 0) = [y] := by simp [hz]
      rw [e]
      exact X.dat.1.1.2.snoc
  · have e : (l.take vs.size) = l := by rw [hlen]; simp
    have hy := X.dat.1.1.2
    rw [e] at hy
    exact ⟨acc, l, rfl, hK, X.with (stP.and (Stable.intL _ _)) ⟨stP _ _ S3.dat.1 X.dat.1.1.1, _, X.dat.2, by simpa using hy⟩⟩
end
end Mine
namespace Mine
section
variable {prog : Program} {w : World} {h0 : Heap} {fa : Nat → Addr} {cd : Nat → Value}
theorem unitM_eq : unitM = unitM' := rfl
/-- the names of the law's frame that stay -/
structure LwN (m : Str → Option Value) (b aS aP : Addr) (mm n : Nat) : Prop where
  box : m "box" = some (.ref b)
  high : ∃ t, m "high" = some (.int (mm : Int) t)
  wide : ∃ t, m "wide" = some (.int (n : Int) t)
  steps : m "steps" = some (.ref aS)
  parts : m "parts" = some (.ref aP)
theorem LwN.upd {m : Str → Option Value} {b aS aP : Addr} {mm n : Nat} {x : Str} {v : Value} (X : LwN m b aS aP mm n) (h : x = "turned_about" ∨ x = "turn" ∨ x = "grown" ∨ x = "flipped") : LwN (upd m x v) b aS aP mm n := by
  have k : ∀ y : Str, y ≠ "turned_about" → y ≠ "turn" → y ≠ "grown" → y ≠ "flipped" → Mine.upd m x v y = m y := fun y h1 h2 h3 h4 => upd_ne (fun e => by subst e; rcases h with h | h | h | h <;> contradiction) rfl
  exact ⟨(k "box" (by decide) (by decide) (by decide) (by decide)).trans X.box, X.high.imp fun _ e => (k "high" (by decide) (by decide) (by decide) (by decide)).trans e, X.wide.imp fun _ e => (k "wide" (by decide) (by decide) (by decide) (by decide)).trans e,
    (k "steps" (by decide) (by decide) (by decide) (by decide)).trans X.steps, (k "parts" (by decide) (by decide) (by decide) (by decide)).trans X.parts⟩
/-- what stands for the law behind its first lines -/
structure LwH (b l aS aP : Addr) (xs : List Int) (mm n C : Nat) (H : Nat → Nat → Int) (d : Nat → Int) (h : Heap) : Prop where
  box : BoxLe b l xs C h
  steps : GridB b h aS mm n H
  parts : IntRow h aP (min mm n) d
  neP : aP ≠ b
theorem Stable.lwH {b l aS aP xs mm n C H d} : Stable (LwH b l aS aP xs mm n C H d) := fun h h' x k => ⟨Stable.boxLe h h' x.box k, Stable.gridB h h' x.steps k, Stable.intRow _ _ _ h h' x.parts k, x.neP⟩
theorem LwH.ext {b l aS aP xs mm n C C' H d} {h h' : Heap} (x : LwH b l aS aP xs mm n C H d h) (e : Ext (fun x => x = b) h h') (y : BoxLe b l xs C' h') : LwH b l aS aP xs mm n C' H d h' := ⟨y, x.steps.ext e, x.parts.ext e x.neP, x.neP⟩
theorem sz_of {m n k K : Nat} {B : Nat → Nat → Int} (h : ∀ i j, i < m → j < n → (B i j).natAbs ≤ 2 ^ k) (hk : k + 4 ≤ K) : Sz K m n B := ⟨k, hk, h⟩
set_option maxHeartbeats 1000000 in
theorem law_end {A : Around} {k : Nat} {h h1 : Heap} {f b l aH aP aT: Addr} {cdv : Value} {m : Str → Option Value} {xs : List Int} {mm n C : Nat} {X Y H D1 : Nat → Nat → Int} {SO : Nat → Nat → (Nat → Nat → Int) → (Nat → Nat → Int) → Prop} (G : Gr prog h0 fa cd) (MM : Maths IntMulOk SO)
    (R : Rm A (k + 6)) (hm1 : 1 ≤ mm) (hm3 : mm ≤ 3) (hn1 : 1 ≤ n) (hn3 : n ≤ 3) (h6X : ∀ i j, i < mm → j < n → (X i j).natAbs ≤ 6) (hY : DeedsN mm X 3 Y) (HS : SO mm n X D1) (hbn : h0.objs.size ≤ b) (hbD : h.objs.size ≤ b) (hbl : b ≠ l) (hx1000 : xs.length ≤ 1000) (hC : C ≤ 60)
    (N : LwN m b aH aP mm n) (nT : m "turned_about" = some (.ref aT)) 
    (S : Ses h0 h (Dn (fun _ => False) h) (envF "law" (scopeN 21) h.objs.size f cdv) m (fun h => LwH b l aH aP xs mm n C H (fun i => D1 i i) h ∧ GridB b h aT mm n Y) h1) :
    Tr prog w A (execs ((bodyN 21).drop 9) (envF "law" (scopeN 21) h.objs.size f cdv)) h1 (fun fl h' => fl = .ret (.bool true) ∧ ∀ b o, h0.get? b = some o → h'.get? b = some o) := by
  have hR := R.handled
  have R3 : Rm A (k + 3 + 3) := R
  obtain ⟨oS, fS, kS⟩ := fnAtOf G.smith_form
  obtain ⟨oG, fG, kG⟩ := fnAtOf G.diagonal
  obtain ⟨oD, fD, kD⟩ := fnAtOf G.law_deed
  obtain ⟨oF, fF, kF⟩ := fnAtOf G.law_flipped
  have hDb : ∀ x, x = b → Dn (fun _ => False) h x := fun x q => .inr (by rw [q]; exact hbD)
  -- the turned matrix
  obtain ⟨rows, hr1, hr2, _, _⟩ := id S.dat.2
  refine T_cons <| T_asName <| T_call <| T_glo S G.nm.law_flipped <| T_cwF <| T_sp <| T_loc S nT <| T_sp0 ⟨kF _ S.base, ?_⟩
  refine flipped_walk G (R.le (by simp +arith only [*]) : Rm _ (k + 1)) S.base S.gsz ⟨hr1, hr2⟩ (by exact Nat.le_trans (by assumption) (by decide)) (by assumption) (by exact Nat.le_trans (by assumption) (by decide)) fun aF rF h30 e _ MF _ => ?_
  have S := (S.after0 e).also Stable.grid MF.grid
  have S := S.with (Stable.lwH.and Stable.gridB) ⟨S.dat.1.1, S.dat.2.box S.dat.1.1.box (by assumption)⟩
  refine T_st S asgL fun h31 S => ?_
  have N := N.upd (x := "flipped") (v := .ref aF) (.inr (.inr (.inr rfl)))
  refine T_cons <| T_for <| T_call <| T_glo S G.nm.range <| T_cwT <| T_sp <| T_int fun _ => T_sp0 <| T_range1 S fun r h32 _ _ _ S2 hr => ?_
  refine T_iterRange S2 hr (by exact Int.natCast_nonneg _) (by exact Int.natCast_nonneg _) (by exact Int.natCast_nonneg _) (by exact Int.natCast_nonneg _) fun I h33 S3 hI0 hIge hI => ?_
  have e0 : ((2 : Int) - 0).toNat = 2 := rfl
  rw [e0] at hI
  refine T_forD (n := 2) (drawRange (a := 0) hR asgL (new_none S2 hIge)) S3 (by simpa using hI)
    (fun i m hh => LwN m b aH aP mm n ∧ ∃ aF Z, (m "flipped" = some (.ref aF) ∧ DeedsN n (fun i j => Y j i) i Z) ∧ LwH b l aH aP xs mm n (C + 4 * i) H (fun i => D1 i i) hh ∧ GridB b hh aF n mm Z)
    (fun i m => Stable.const.and (Stable.ex fun _ => Stable.ex fun _ => Stable.const.and (Stable.lwH.and Stable.gridB))) (fun _ _ _ _ => trivial) ?_ (fun i m m' hi hlt hu Si jn => ?_) (fun m h34 Sf => ?_)
  · exact ⟨N, aF, _, ⟨upd_same, .zero⟩, S3.dat⟩
  · obtain ⟨t, rfl⟩ := hu
    obtain ⟨N, aF, Z, ⟨nF, hZ⟩, hL, gZ⟩ := Si.dat
    have N := N.upd (x := "turn") (v := .int (0 + (i : Int)) t) (.inr (.inl rfl))
    have S := Si.with (Stable.lwH.and Stable.gridB) ⟨hL, gZ⟩
    refine T_cons <| T_asName <| T_call <| T_glo S G.nm.law_deed <| T_cwF <| T_sp <| T_loc S N.box <| T_sp <| T_loc S (un nF) <| T_sp0 ⟨kD _ S.base, ?_⟩
    refine deed_walk G (R.le (by simp +arith only [*]) : Rm _ (k + 4 + 2)) S.base S.gsz S.dat.1.box S.dat.2 (by lia) hbn hbl hx1000 (by exact Nat.le_trans (by assumption) (by decide)) (by assumption) (by exact Nat.le_trans (by assumption) (by decide)) fun aF' Z' h23 e gZ' hd bx => ?_
    have S := S.after e hDb (fun x q => q ▸ S.dat.1.box.isList) (Stable.lwH.and Stable.gridB) (⟨S.dat.1.ext e bx, gZ'⟩ : LwH b l aH aP xs mm n (C + 4 * i + 4) H (fun i => D1 i i) _ ∧ GridB b _ aF' n mm Z')
    refine T_st S asgL fun h24 S => T_nil ⟨_, S.with (Stable.const.and (Stable.ex fun _ => Stable.ex fun _ => Stable.const.and (Stable.lwH.and Stable.gridB))) ⟨N.upd (.inr (.inr (.inr rfl))), aF', Z', ⟨upd_same, hZ.succ hd⟩, S.dat⟩⟩
  obtain ⟨N, aF, Z, ⟨nF, hZ⟩, hL, gZ⟩ := Sf.dat
  have S := Sf.with (Stable.lwH.and Stable.gridB) ⟨hL, gZ⟩
  obtain ⟨th, nh⟩ := N.high
  obtain ⟨rows, hr1, hr2, _, _⟩ := id S.dat.2
  obtain ⟨I3, k3, plan3, hI3⟩ := MM.plan3 hm1 hm3 hn1 hn3 h6X hY hZ
  refine T_cons <| T_ret <| T_cmp <| T_call <| T_glo S G.nm.diagonal <| T_cwF (o := oG) (fd := fG) <| T_sp <| T_sub <| T_call <| T_glo S G.nm.smith_form <| T_cwF <| T_sp <| T_loc S nF <| T_sp <| T_loc S nh <| T_sp0 ⟨kS _ S.base, ?_⟩
  refine smith_walk G R3 S.base S.gsz ⟨hr1, hr2⟩ (by exact Nat.le_trans (by assumption) (by decide)) (by exact Nat.le_trans (by assumption) (by decide)) plan3 hI3 fun p h13 sS sU sV rS D3 e hp MS HS3 => T_int fun _ => T_itemT hp (by decide) (by decide) rfl rfl ?_
  have S := (S.after0 e).also (Stable.mat _ _ _ _ _ _) MS
  refine T_sp <| T_loc S nh <| T_sp0 ⟨kG _ S.base, ?_⟩
  refine diagonal_walk G (R.le (by simp +arith only [*]) : Rm _ (k + 1)) S.base S.gsz S.dat.2 (by exact Nat.le_trans (by assumption) (by decide)) (by exact Nat.le_trans (by assumption) (by decide)) fun aP3 h14 e _ iP => ?_
  have S := (S.after0 e).also (Stable.intL _ _) iP.intL
  refine T_loc S N.parts <| T_eqI R S.dat.2 S.dat.1.1.1.parts.intL ?_
  have := MM.same3 hY hZ HS HS3
  unfold diagL at this
  refine ⟨?_, S.base⟩
  rw [this]
  simp
end
end Mine
namespace Mine
section
variable {prog : Program} {w : World} {h0 : Heap} {fa : Nat → Addr} {cd : Nat → Value}
set_option maxHeartbeats 1000000 in
theorem law_mid {A : Around} {k : Nat} {h h1 : Heap} {f b l aH aP aT aN : Addr} {cdv : Value} {m : Str → Option Value} {xs : List Int} {mm n C : Nat} {X Y H D1 : Nat → Nat → Int} {tt : Nat → Int} {SO : Nat → Nat → (Nat → Nat → Int) → (Nat → Nat → Int) → Prop} (G : Gr prog h0 fa cd) (MM : Maths IntMulOk SO)
    (R : Rm A (k + 6)) (hm1 : 1 ≤ mm) (hm3 : mm ≤ 3) (hn1 : 1 ≤ n) (hn3 : n ≤ 3) (h6X : ∀ i j, i < mm → j < n → (X i j).natAbs ≤ 6) (hY : DeedsN mm X 3 Y) (HS : SO mm n X D1) (hbn : h0.objs.size ≤ b) (hbD : h.objs.size ≤ b) (hbl : b ≠ l) (hx1000 : xs.length ≤ 1000) (hC : C ≤ 60)
    (N : LwN m b aH aP mm n) (nT : m "turned_about" = some (.ref aT)) (nN : m "grown" = some (.ref aN)) (ht : ∀ i, i < mm → (tt i).natAbs ≤ 2)
    (S : Ses h0 h (Dn (fun _ => False) h) (envF "law" (scopeN 21) h.objs.size f cdv) m (fun h => (LwH b l aH aP xs mm n C H (fun i => D1 i i) h ∧ GridB b h aT mm n Y) ∧ GridB b h aN (mm + 1) n (hangM mm Y tt)) h1) :
    Tr prog w A (execs ((bodyN 21).drop 8) (envF "law" (scopeN 21) h.objs.size f cdv)) h1 (fun fl h' => fl = .ret (.bool true) ∧ ∀ b o, h0.get? b = some o → h'.get? b = some o) := by
  have hR := R.handled
  have R3 : Rm A (k + 3 + 3) := R
  obtain ⟨oS, fS, kS⟩ := fnAtOf G.smith_form
  obtain ⟨oG, fG, kG⟩ := fnAtOf G.diagonal
  obtain ⟨oD, fD, kD⟩ := fnAtOf G.law_deed
  obtain ⟨oF, fF, kF⟩ := fnAtOf G.law_flipped
  have hDb : ∀ x, x = b → Dn (fun _ => False) h x := fun x q => .inr (by rw [q]; exact hbD)
  obtain ⟨tw, nw⟩ := N.wide
  -- the divisors of the grown matrix
  obtain ⟨I2, k2, plan2, hI2⟩ := MM.plan2 hm1 hm3 hn1 hn3 h6X hY ht
  obtain ⟨rows, hr1, hr2, _, _⟩ := id S.dat.2
  have stP2 : Stable (fun h => LwH b l aH aP xs mm n (C) H (fun i => D1 i i) h ∧ GridB b h aT mm n Y) := Stable.lwH.and Stable.gridB
  refine T_cons <| T_if <| T_tcmp <| Tr.mono (T_filterComp (K := fun l => ∃ D2, SO (mm + 1) n (hangM mm Y tt) D2 ∧ l = diagL (mm + 1) n D2) S hR (fun l ⟨D2, _, e⟩ => by subst e; unfold diagL; simp; omega) (fun Q' q => ?_) (by rfl) (by intro _; rfl) (by decide) (by decide) (by rfl) (by rfl) (by rfl) (by rfl) (by intro _; rfl) stP2) fun v h' hv => ?_
  · have SI := S.inner
    refine T_call <| T_glo SI G.nm.diagonal <| T_cwF (o := oG) (fd := fG) <| T_sp <| T_sub <| T_call <| T_glo SI G.nm.smith_form <| T_cwF <| T_sp <| T_loc SI nN <| T_sp <| T_loc SI nw <| T_sp0 ⟨kS _ SI.base, ?_⟩
    refine smith_walk G R3 SI.base SI.gsz ⟨hr1, hr2⟩ (by omega) (by omega) plan2 hI2 fun p h13 sS sU sV rS D2 e hp MS HS => T_int fun _ => T_itemT hp (by decide) (by decide) rfl rfl ?_
    have SI := (SI.after0 e).also (Stable.mat _ _ _ _ _ _) MS
    refine T_sp <| T_loc SI nw <| T_sp0 ⟨kG _ SI.base, ?_⟩
    refine diagonal_walk G (R.le (by omega) : Rm _ (k + 1)) SI.base SI.gsz SI.dat.2 (by omega) (by omega) fun aP2 h14 e _ iP => ?_
    exact q aP2 _ h14 ⟨D2, HS, rfl⟩ (((SI.after0 e).also (Stable.intL _ _) iP.intL).with (stP2.and (Stable.intL _ _)) ⟨((SI.after0 e).dat).1.1, iP.intL⟩)
  obtain ⟨acc, l2, rfl, ⟨D2, HS2, rfl⟩, S⟩ := hv
  refine Tr.mono (T_filterComp (P2 := fun h => (LwH b l aH aP xs mm n (C) H (fun i => D1 i i) h ∧ GridB b h aT mm n Y) ∧ IntL h acc ((diagL (mm + 1) n D2).filter (fun x => x != 0))) (K := fun l => l = diagL mm n D1) S hR (fun l e => by subst e; unfold diagL; simp; omega) (fun Q' q => ?_) (by rfl) (by intro _; rfl) (by decide) (by decide) (by rfl) (by rfl) (by rfl) (by rfl) (by intro _; rfl) (stP2.and (Stable.intL _ _))) fun v h' hv => ?_
  · have SI := S.inner
    exact T_loc SI N.parts (q aP _ _ rfl (SI.with ((stP2.and (Stable.intL _ _)).and (Stable.intL _ _)) ⟨SI.dat, SI.dat.1.1.parts.intL⟩))
  obtain ⟨acc2, _, rfl, rfl, S⟩ := hv
  refine T_neI R S.dat.1.2 S.dat.2 <| T_truthyB ?_
  rw [if_neg (by simp [MM.same2 hY HS HS2])]
  refine T_nil ?_
  have S := S.with stP2 S.dat.1.1
  exact law_end G MM R hm1 hm3 hn1 hn3 h6X hY HS hbn hbD hbl hx1000 hC N nT S
end
end Mine
namespace Mine
section
variable {prog : Program} {w : World} {h0 : Heap} {fa : Nat → Addr} {cd : Nat → Value}
set_option maxHeartbeats 2000000 in
theorem law_body {A : Around} {k : Nat} {h h1 : Heap} {f sc : Addr} {cdv : Value} {m0 : Str → Option Value} {ns : List Int} {SO : Nat → Nat → (Nat → Nat → Int) → (Nat → Nat → Int) → Prop} (G : Gr prog h0 fa cd) (MM : Maths IntMulOk SO)
    (R : Rm A (k + 6)) (S : Ses h0 h (Dn (fun _ => False) h) (envF "law" (scopeN 21) h.objs.size f cdv) m0 (fun h => IntL h sc ns) h1) (hm0 : m0 "script" = some (.ref sc)) (hns : ns.length ≤ 1000) :
    Tr prog w A (execs (bodyN 21) (envF "law" (scopeN 21) h.objs.size f cdv)) h1 (fun fl h' => fl = .ret (.bool true) ∧ ∀ b o, h0.get? b = some o → h'.get? b = some o) := by
  have hR := R.handled
  obtain ⟨oM, fM, kM⟩ := fnAtOf G.law_matrix
  obtain ⟨oH, fH, kH⟩ := fnAtOf G.hermite_form
  obtain ⟨oS, fS, kS⟩ := fnAtOf G.smith_form
  obtain ⟨oG, fG, kG⟩ := fnAtOf G.diagonal
  obtain ⟨oD, fD, kD⟩ := fnAtOf G.law_deed
  obtain ⟨oN, fN, kN⟩ := fnAtOf G.law_hanging
  obtain ⟨oF, fF, kF⟩ := fnAtOf G.law_flipped
  refine T_cons <| T_asName <| T_lst <| T_sp <| T_slice (k := 40) S (T_call <| T_glo S G.nm.list <| T_cwT <| T_sp <| T_loc S hm0 <| T_sp0 ?_)
  obtain ⟨vs, hl, hi⟩ := S.dat
  have hlen : vs.size = ns.length := by simpa using hi.len
  refine T_copy S hl (by rw [sizeLine_eq]; lia) fun l0 h2 el S2 => ⟨l0, vs, rfl, S2, by rw [sizeLine_eq]; lia, fun l h3 hge S3 => ?_⟩
  have hxs : IntL h3 l (ns.take 40) := ⟨_, S3.dat.2, by
    have : ∀ {vs : List Value} {l : List Int} (k : Nat), Ints vs l → Ints (vs.take k) (l.take k) := by
      intro vs l k x
      induction k generalizing vs l with
      | zero => simp [Ints]
      | succ k ih =>
        match vs, l, x with
        | [], [], _ => simp [Ints]
        | v :: vs, y :: ys, ⟨e, r⟩ => exact ⟨e, ih r⟩
    simpa using this 40 hi⟩
  have S := S3.with (Stable.intL l (ns.take 40)) hxs
  refine T_sp <| T_int fun t0 => T_sp0 <| T_newList S fun b h4 eb S => ?_
  have hbl : b ≠ l := by
    obtain ⟨ws, ⟨o, ho, _⟩, _⟩ := hxs
    exact ang (by have : l < h3.objs.size := Heap.lt_size ho; rw [eb]; exact this)
  have hx1000 : (ns.take 40).length ≤ 1000 := by rw [List.length_take]; lia
  have hbn : h0.objs.size ≤ b := by have : h0.objs.size ≤ h3.objs.size := S3.gsz; (simp +arith only [*])
  have hbD : h.objs.size ≤ b := by have : h.objs.size ≤ h3.objs.size := S3.ext.size; (simp +arith only [*])
  have S := S.with (Stable.boxLe (b := b) (l := l) (xs := ns.take 40) (C := 0)) ⟨0, t0, Nat.le_refl _, S.dat.2, S.dat.1⟩
  generalize ns.take 40 = xs at *
  refine T_st S asgL fun h5 S => ?_
  refine T_cons <| T_asName <| T_call <| T_glo S G.nm.law_matrix <| T_cwF <| T_sp <| T_loc S upd_same <| T_sp0 ⟨kM _ S.base, ?_⟩
  refine matrix_walk G (R.le (by simp +arith only [*]) : Rm _ (k + 4 + 2)) S.base S.gsz S.dat (by decide) hbn hbl hx1000 fun aG mm n X h6 e hge gX hm1 hm3 hn1 hn3 h6X bx => ?_
  have S := S.after e (fun x q => .inr (by rw [q]; exact hbD)) (fun x q => q ▸ S.dat.isList) (Stable.boxLe.and Stable.gridB) ⟨bx, gX.box bx (by assumption)⟩
  refine T_st S asgL fun h7 S => ?_
  obtain ⟨rows, hr1, hr2, _, _⟩ := id S.dat.2
  refine T_cons <| T_asSwap (names := ["high", "wide"]) <| T_tup <| T_sp <| T_call <| T_glo S G.nm.len <| T_cwB <| T_sp <| T_loc S upd_same <| T_sp0 <| T_lenR hr1 (by exact Nat.le_trans (by assumption) (by decide)) fun th => T_sp <| T_call <| T_glo S G.nm.len <| T_cwB <| T_sp <| T_sub <| T_loc S upd_same <| T_int fun _ => T_itemR hr1 (i := 0) rfl (by assumption) (by exact Nat.le_trans (by assumption) (by decide)) <| T_sp0 <|
    T_lenI (hr2 0 (by assumption)) (by exact Nat.le_trans (by assumption) (by decide)) fun tw => T_sp0 <| T_newTuple S fun p h8 _ S => T_unpackItems hR S S.dat.2 rfl fun h9 S _ => T_ao <| T_bindName <| T_st S asgL fun h10 S => T_ao <| T_bindName <| T_st S asgL fun h11 S => T_ao0 ?_
  have S := S.with (Stable.boxLe.and Stable.gridB) S.dat.1
  clear hr1 hr2
  -- steps, parts
  have R3 : Rm A (k + 3 + 3) := R
  obtain ⟨rows, hr1, hr2, _, _⟩ := id S.dat.2
  refine T_cons <| T_asSwap (names := ["steps", "parts"]) <| T_tup <| T_sp <| T_sub <| T_call <| T_glo S G.nm.hermite_form <| T_cwF <| T_sp <| T_loc S (un (un upd_same)) <| T_sp <| T_loc S (un upd_same) <| T_sp0 ⟨kH _ S.base, ?_⟩
  refine hermite_walk (K := 8) G R3 S.base S.gsz ⟨hr1, hr2⟩ (by exact Nat.le_trans (by assumption) (by decide)) (by exact Nat.le_trans (by assumption) (by decide)) (sz_of (k := 3) (fun i j hi hj => Nat.le_trans (h6X i j hi hj) (by decide)) (by decide)) ?_ (by decide) fun p h12 aH aU rH H e hp MH HE => T_int fun _ => T_itemT hp (by decide) (by decide) rfl rfl ?_
  · exact szK (by exact Nat.le_trans (by assumption) (by decide)) (by omega) (by decide)
  have S := (S.after0 e).also Stable.grid MH.grid
  have gS := S.dat.2.box S.dat.1.1 (by assumption)
  have S := S.with ((Stable.boxLe.and Stable.gridB).and Stable.gridB) ⟨S.dat.1, gS⟩
  obtain ⟨rows, hr1, hr2, _, _⟩ := id S.dat.1.2
  obtain ⟨I1, k1, plan1, hI1⟩ := MM.plan1 hm1 hm3 hn1 hn3 h6X
  refine T_sp <| T_call <| T_glo S G.nm.diagonal <| T_cwF (o := oG) (fd := fG) <| T_sp <| T_sub <| T_call <| T_glo S G.nm.smith_form <| T_cwF <| T_sp <| T_loc S (un (un upd_same)) <| T_sp <| T_loc S (un upd_same) <| T_sp0 ⟨kS _ S.base, ?_⟩
  refine smith_walk G R3 S.base S.gsz ⟨hr1, hr2⟩ (by exact Nat.le_trans (by assumption) (by decide)) (by exact Nat.le_trans (by assumption) (by decide)) plan1 hI1 fun p h13 sS sU sV rS D1 e hp MS HS => T_int fun _ => T_itemT hp (by decide) (by decide) rfl rfl ?_
  have S := (S.after0 e).also (Stable.mat _ _ _ _ _ _) MS
  refine T_sp <| T_loc S (un upd_same) <| T_sp0 ⟨kG _ S.base, ?_⟩
  refine diagonal_walk G (R.le (by simp +arith only [*]) : Rm _ (k + 1)) S.base S.gsz S.dat.2 (by exact Nat.le_trans (by assumption) (by decide)) (by exact Nat.le_trans (by assumption) (by decide)) fun aP h14 e _ iP => ?_
  have S := (S.after0 e).also (Stable.intRow _ _ _) iP
  have neP : aP ≠ b := box_ne_row S.dat.1.1.1.1 S.dat.2 (by lia)
  have S := S.with (Stable.lwH.and Stable.gridB) (⟨⟨S.dat.1.1.1.1, S.dat.1.1.2, S.dat.2, neP⟩, S.dat.1.1.1.2⟩ : LwH b l aH aP xs mm n 11 H (fun i => D1 i i) _ ∧ GridB b _ aG mm n X)
  refine T_sp0 <| T_newTuple S fun p h15 _ S => T_unpackItems hR S S.dat.2 rfl fun h16 S _ => T_ao <| T_bindName <| T_st S asgL fun h17 S => T_ao <| T_bindName <| T_st S asgL fun h18 S => T_ao0 ?_
  have S := S.with (Stable.lwH.and Stable.gridB) S.dat.1
  refine T_cons <| T_asName <| T_loc S (un (un (un (un upd_same)))) <| T_st S asgL fun h19 S => ?_
  clear hr1 hr2 gS MS MH
  -- three deeds
  have hDb : ∀ x, x = b → Dn (fun _ => False) h x := fun x q => .inr (by rw [q]; exact hbD)
  refine T_cons <| T_for <| T_call <| T_glo S G.nm.range <| T_cwT <| T_sp <| T_int fun _ => T_sp0 <| T_range1 S fun r h20 _ _ _ S2 hr => ?_
  refine T_iterRange S2 hr (by exact Int.natCast_nonneg _) (by exact Int.natCast_nonneg _) (by exact Int.natCast_nonneg _) (by exact Int.natCast_nonneg _) fun I h21 S3 hI0 hIge hI => ?_
  have e0 : ((3 : Int) - 0).toNat = 3 := rfl
  rw [e0] at hI
  refine T_forD (n := 3) (drawRange (a := 0) hR asgL (new_none S2 hIge)) S3 (by simpa using hI)
    (fun i m hh => LwN m b aH aP mm n ∧ ∃ aT Y, (m "turned_about" = some (.ref aT) ∧ DeedsN mm X i Y) ∧ LwH b l aH aP xs mm n (11 + 4 * i) H (fun i => D1 i i) hh ∧ GridB b hh aT mm n Y)
    (fun i m => Stable.const.and (Stable.ex fun _ => Stable.ex fun _ => Stable.const.and (Stable.lwH.and Stable.gridB))) (fun _ _ _ _ => trivial) ?_ (fun i m m' hi hlt hu Si jn => ?_) (fun m h22 Sf => ?_)
  · exact ⟨⟨un (un (un (un (un (un upd_same))))), ⟨th, un (un (un upd_same))⟩, ⟨tw, un (un (un (un upd_same)))⟩, un upd_same, un (un upd_same)⟩, aG, X, ⟨upd_same, .zero⟩, S3.dat⟩
  · obtain ⟨t, rfl⟩ := hu
    obtain ⟨N, aT, Y, ⟨nT, hY⟩, hL, gY⟩ := Si.dat
    have N := N.upd (x := "turn") (v := .int (0 + (i : Int)) t) (.inr (.inl rfl))
    have S := Si.with (Stable.lwH.and Stable.gridB) ⟨hL, gY⟩
    refine T_cons <| T_asName <| T_call <| T_glo S G.nm.law_deed <| T_cwF <| T_sp <| T_loc S N.box <| T_sp <| T_loc S (un nT) <| T_sp0 ⟨kD _ S.base, ?_⟩
    refine deed_walk G (R.le (by simp +arith only [*]) : Rm _ (k + 4 + 2)) S.base S.gsz S.dat.1.box S.dat.2 (by lia) hbn hbl hx1000 (by exact Nat.le_trans (by assumption) (by decide)) (by assumption) (by exact Nat.le_trans (by assumption) (by decide)) fun aT' Y' h23 e gY' hd bx => ?_
    have hY' := hY.succ hd
    have S := S.after e hDb (fun x q => q ▸ S.dat.1.box.isList) (Stable.lwH.and Stable.gridB) (⟨S.dat.1.ext e bx, gY'⟩ : LwH b l aH aP xs mm n (11 + 4 * i + 4) H (fun i => D1 i i) _ ∧ GridB b _ aT' mm n Y')
    refine T_st S asgL fun h24 S => ?_
    have N := N.upd (x := "turned_about") (v := .ref aT') (.inl rfl)
    obtain ⟨tw, nw⟩ := N.wide
    obtain ⟨rows, hr1, hr2, _, _⟩ := id S.dat.2
    have sz := MM.size3 (by assumption) h6X hY'
    refine T_cons <| T_if <| T_tcmp <| T_sub <| T_call <| T_glo S G.nm.hermite_form <| T_cwF <| T_sp <| T_loc S upd_same <| T_sp <| T_loc S nw <| T_sp0 ⟨kH _ S.base, ?_⟩
    refine hermite_walk (K := 13) G R3 S.base S.gsz ⟨hr1, hr2⟩ (by exact Nat.le_trans (by assumption) (by decide)) (by exact Nat.le_trans (by assumption) (by decide)) (sz_of (k := 9) (fun i j hi hj => Nat.le_trans (sz i j hi hj) (by decide)) (by decide)) (szK (by exact Nat.le_trans (by assumption) (by decide)) (by omega) (by decide)) (by decide) fun p h25 aH2 aU2 rH2 H2 e hp MH HE2 => T_int fun _ => T_itemT hp (by decide) (by decide) rfl rfl ?_
    have S := (S.after0 e).also Stable.grid MH.grid
    have heq : matL mm n H2 = matL mm n H := matL_congr (MM.herm hY' HE HE2)
    refine T_loc S N.steps <| T_neM R S.dat.2.reads S.dat.1.1.steps.grid.reads <| T_truthyB ?_
    rw [if_neg (by simp [heq])]
    exact T_nil <| T_nil ⟨_, S.with (Stable.const.and (Stable.ex fun _ => Stable.ex fun _ => Stable.const.and (Stable.lwH.and Stable.gridB))) ⟨N, aT', Y', ⟨upd_same, hY'⟩, S.dat.1⟩⟩
  obtain ⟨N, aT, Y, ⟨nT, hY⟩, hL, gY⟩ := Sf.dat
  have S := Sf.with (Stable.lwH.and Stable.gridB) ⟨hL, gY⟩
  have sz := MM.size3 (by decide) h6X hY
  -- a row that hangs
  refine T_cons <| T_asName <| T_call <| T_glo S G.nm.law_hanging <| T_cwF <| T_sp <| T_loc S N.box <| T_sp <| T_loc S nT <| T_sp0 ⟨kN _ S.base, ?_⟩
  refine hanging_walk G (R.le (by simp +arith only [*]) : Rm _ (k + 4 + 2)) S.base S.gsz S.dat.1.box S.dat.2 (by decide) hbn hbl hx1000 (by exact Nat.le_trans (by assumption) (by decide)) (by assumption) (by exact Nat.le_trans (by assumption) (by decide)) fun aN tt h23 e gN ht bx => ?_
  have S := S.after e hDb (fun x q => q ▸ S.dat.1.box.isList) ((Stable.lwH.and Stable.gridB).and Stable.gridB) (⟨⟨S.dat.1.ext e bx, S.dat.2.ext e⟩, gN⟩ : (LwH b l aH aP xs mm n (11 + 4 * 3 + mm) H (fun i => D1 i i) _ ∧ GridB b _ aT mm n Y) ∧ GridB b _ aN (mm + 1) n (hangM mm Y tt))
  refine T_st S asgL fun h24 S => ?_
  have N := N.upd (x := "grown") (v := .ref aN) (.inr (.inr (.inl rfl)))
  obtain ⟨tw, nw⟩ := N.wide
  obtain ⟨th, nh⟩ := N.high
  obtain ⟨rows, hr1, hr2, _, _⟩ := id S.dat.2
  have szh := hangM_size hm3 sz ht
  refine T_cons <| T_if <| T_tcmp <| T_sub <| T_call <| T_glo S G.nm.hermite_form <| T_cwF <| T_sp <| T_loc S upd_same <| T_sp <| T_loc S nw <| T_sp0 ⟨kH _ S.base, ?_⟩
  refine hermite_walk (K := 16) G R3 S.base S.gsz ⟨hr1, hr2⟩ (by exact Nat.lt_of_le_of_lt (by assumption) (by decide)) (by exact Nat.le_trans (by assumption) (by decide)) (sz_of (k := 12) (fun i j hi hj => Nat.le_trans (szh i j hi hj) (by decide)) (by decide)) (szK (by exact Nat.lt_of_le_of_lt (by assumption) (by decide)) (by omega) (by decide)) (by decide) fun p h25 aH2 aU2 rH2 H2 e hp MH HE2 => T_int fun _ => T_itemT hp (by decide) (by decide) rfl rfl ?_
  have S := (S.after0 e).also Stable.grid MH.grid
  obtain ⟨rS, rs1, rs2, _, _⟩ := id S.dat.1.1.1.steps
  obtain ⟨vS, hlS, hzS, hvS⟩ := rs1
  have S := S.with ((((Stable.lwH.and Stable.gridB).and Stable.gridB).and Stable.grid).and ((Stable.list aH vS).and (Stable.all fun (i : Nat) => Stable.imp (p := i < mm) (Stable.intRow (rS i) n (H i))))) ⟨S.dat, hlS, rs2⟩
  refine T_bin <| T_loc S N.steps <| T_lst <| T_sp <| T_bin <| T_lst <| T_sp <| T_int fun t0 => T_sp0 <| T_newList S fun p2 h26 _ S => T_loc S nw <| T_mulL S S.dat.2 (by exact Int.natCast_nonneg _) (by lia) (by simp; (exact Nat.le_trans (by assumption) (by decide))) fun z h27 _ S27 => ?_
  have hz0 := zeros S27.dat.2
  have e0 : ((n : Int)).toNat = n := by rfl
  rw [e0] at hz0
  have S := S27.with (((((Stable.lwH.and Stable.gridB).and Stable.gridB).and Stable.grid).and ((Stable.list aH vS).and (Stable.all fun (i : Nat) => Stable.imp (p := i < mm) (Stable.intRow (rS i) n (H i))))).and (Stable.intRow z n (fun _ => 0))) ⟨S27.dat.1.1, hz0⟩
  refine T_sp0 <| T_newList S fun p3 h28 _ S => T_addL S S.dat.1.1.2.1 S.dat.2 (by rw [sizeLine_eq]; simp; lia) fun aX h29 _ S => ?_
  obtain ⟨⟨⟨⟨hh4, hl2, hr2'⟩, hz0⟩, _⟩, hlX⟩ := S.dat
  have gX : Grid h29 aX (mm + 1) n (fun r c => if r < mm then H r c else 0) := by
    refine ⟨fun i => if i < mm then rS i else z, ⟨_, hlX, by simp [hzS], fun i hi => ?_⟩, fun i hi => ?_⟩
    · show (vS ++ #[Value.ref z])[i]? = some (Value.ref (if i < mm then rS i else z))
      by_cases e : i < mm
      · rw [if_pos e, Array.getElem?_append_left (by simp +arith only [*])]; exact hvS i e
      · obtain rfl : i = mm := by lia
        rw [if_neg e, Array.getElem?_append_right (by simp +arith only [*]), hzS, Nat.sub_self]; rfl
    · by_cases e : i < mm
      · simp only [if_pos e]; exact hr2' i e
      · simp only [if_neg e]; exact hz0
  have heq : matL (mm + 1) n H2 = matL (mm + 1) n (fun r c => if r < mm then H r c else 0) := matL_congr (MM.hang hY HE HE2)
  refine T_neM R hh4.2.reads gX.reads <| T_truthyB ?_
  rw [if_neg (by simp [heq])]
  refine T_nil ?_
  have S := S.with ((Stable.lwH.and Stable.gridB).and Stable.gridB) hh4.1
  clear hh4 hl2 hr2' hz0 hlX gX heq
  exact law_mid G MM R hm1 hm3 hn1 hn3 h6X hY HS hbn hbD hbl hx1000 (by lia) N (un nT) upd_same ht S
end
end Mine
namespace Mine
noncomputable def itemN (i : Nat) : DefItem := match fnAt i with | .FunctionDef n a b _ _ _ s _ _ p :: _ => ⟨n, a, b, s, p⟩ | _ => ⟨"", ⟨[], [], none, [], [], none, []⟩, [], { kind := .module, names := [], isGenerator := false, isCoroutine := false, more := [] }, ⟨0, 0, 0, 0⟩⟩
theorem nameG {h : Heap} {mg : Str → Option Value} {x : Str} {v : Value} (g : h.Ns mainGlobals mg) (hv : mg x = some v) (hd : (x == ("__debug__" : Str)) = false := by decide) : NameIs h x v :=
  fun M A E env pos s Q keep kind kx eg eb q => Name_function_global kind kx (loadGlobal_global (mg := mg) (by rw [eg]; exact g.keeps keep) hv q) hd
theorem nameB {h : Heap} {mg mb : Str → Option Value} {x : Str} {v : Value} (g : h.Ns mainGlobals mg) (b : h.Ns builtinsNs mb) (hn : mg x = none) (hv : mb x = some v) (hd : (x == ("__debug__" : Str)) = false := by decide) : NameIs h x v :=
  fun M A E env pos s Q keep kind kx eg eb q => Name_function_global kind kx (loadGlobal_builtin (mg := mg) (mb := mb) (by rw [eg]; exact g.keeps keep) hn (by rw [eb]; exact b.keeps keep) hv q) hd
theorem fnIs_of {h : Heap} {mg : Str → Option Value} {N : Nat} {d : DefItem} (x : d.Made N mg h) (he : d.params.defaults = []) : ∃ a c, mg d.name = some (.ref a) ∧ FnIs h a (.ref c) d.name d.params d.body d.scope := by
  obtain ⟨a, c', o, pm, doc, _, _, h3, h4, h5, h6⟩ := x.plain he
  exact ⟨a, c', h3, ⟨o, _, doc, pm, _, _, h4, h5⟩, h6⟩
theorem gr_of {prog : Program} {h : Heap} {N : Nat} {mg mb : Str → Option Value} {defs : List DefItem} {consts : List (Str × PyData)} {objs : List (Str × (Obj → Prop))} {names : List Str} (GL : Glob N mg mb defs consts objs names h) (ht : prog.given.tree = none)
    (mem : ∀ i ∈ [1, 3, 4, 5, 6, 7, 8, 9, 10, 11, 12, 13, 14, 16, 17, 18, 19, 20], itemN i ∈ defs)
    (bn : ∀ x ∈ (["range", "len", "enumerate", "list", "abs", "min"] : List Str), x ∉ names) : ∃ fa cd, Gr prog h fa cd := by
  obtain ⟨a1, c1, m1, F1⟩ := fnIs_of (GL.made _ (mem 1 (by decide))) rfl
  obtain ⟨a3, c3, m3, F3⟩ := fnIs_of (GL.made _ (mem 3 (by decide))) rfl
  obtain ⟨a4, c4, m4, F4⟩ := fnIs_of (GL.made _ (mem 4 (by decide))) rfl
  obtain ⟨a5, c5, m5, F5⟩ := fnIs_of (GL.made _ (mem 5 (by decide))) rfl
  obtain ⟨a6, c6, m6, F6⟩ := fnIs_of (GL.made _ (mem 6 (by decide))) rfl
  obtain ⟨a7, c7, m7, F7⟩ := fnIs_of (GL.made _ (mem 7 (by decide))) rfl
  obtain ⟨a8, c8, m8, F8⟩ := fnIs_of (GL.made _ (mem 8 (by decide))) rfl
  obtain ⟨a9, c9, m9, F9⟩ := fnIs_of (GL.made _ (mem 9 (by decide))) rfl
  obtain ⟨a10, c10, m10, F10⟩ := fnIs_of (GL.made _ (mem 10 (by decide))) rfl
  obtain ⟨a11, c11, m11, F11⟩ := fnIs_of (GL.made _ (mem 11 (by decide))) rfl
  obtain ⟨a12, c12, m12, F12⟩ := fnIs_of (GL.made _ (mem 12 (by decide))) rfl
  obtain ⟨a13, c13, m13, F13⟩ := fnIs_of (GL.made _ (mem 13 (by decide))) rfl
  obtain ⟨a14, c14, m14, F14⟩ := fnIs_of (GL.made _ (mem 14 (by decide))) rfl
  obtain ⟨a16, c16, m16, F16⟩ := fnIs_of (GL.made _ (mem 16 (by decide))) rfl
  obtain ⟨a17, c17, m17, F17⟩ := fnIs_of (GL.made _ (mem 17 (by decide))) rfl
  obtain ⟨a18, c18, m18, F18⟩ := fnIs_of (GL.made _ (mem 18 (by decide))) rfl
  obtain ⟨a19, c19, m19, F19⟩ := fnIs_of (GL.made _ (mem 19 (by decide))) rfl
  obtain ⟨a20, c20, m20, F20⟩ := fnIs_of (GL.made _ (mem 20 (by decide))) rfl
  refine ⟨fun i => match i with | 1 => a1 | 3 => a3 | 4 => a4 | 5 => a5 | 6 => a6 | 7 => a7 | 8 => a8 | 9 => a9 | 10 => a10 | 11 => a11 | 12 => a12 | 13 => a13 | 14 => a14 | 16 => a16 | 17 => a17 | 18 => a18 | 19 => a19 | 20 => a20 | _ => 0, fun i => match i with | 1 => .ref c1 | 3 => .ref c3 | 4 => .ref c4 | 5 => .ref c5 | 6 => .ref c6 | 7 => .ref c7 | 8 => .ref c8 | 9 => .ref c9 | 10 => .ref c10 | 11 => .ref c11 | 12 => .ref c12 | 13 => .ref c13 | 14 => .ref c14 | 16 => .ref c16 | 17 => .ref c17 | 18 => .ref c18 | 19 => .ref c19 | 20 => .ref c20 | _ => .none, ?_⟩
  have free : ∀ x ∈ (["range", "len", "enumerate", "list", "abs", "min"] : List Str), mg x = none := fun x hx => GL.free x (bn x hx) (by revert x; decide)
  have bu : ∀ x ∈ (["range", "len", "enumerate", "list", "abs", "min"] : List Str), mb x = bootBuiltins x := fun x hx => GL.builtins x (by revert x; decide)
  exact { nolimit := GL.nolimit, noseer := GL.seer, tree := ht
          nm := { range := nameB GL.g GL.b (free _ (by decide)) ((bu _ (by decide)).trans (by rfl)),
                  len := nameB GL.g GL.b (free _ (by decide)) ((bu _ (by decide)).trans (by rfl)),
                  enumerate := nameB GL.g GL.b (free _ (by decide)) ((bu _ (by decide)).trans (by rfl)),
                  list := nameB GL.g GL.b (free _ (by decide)) ((bu _ (by decide)).trans (by rfl)),
                  abs := nameB GL.g GL.b (free _ (by decide)) ((bu _ (by decide)).trans (by rfl)),
                  min := nameB GL.g GL.b (free _ (by decide)) ((bu _ (by decide)).trans (by rfl)),
                  extended := nameG GL.g m1,
                  unit_rows := nameG GL.g m3,
                  combine := nameG GL.g m4,
                  clear_below := nameG GL.g m5,
                  reduce_above := nameG GL.g m6,
                  hermite_form := nameG GL.g m7,
                  least_spot := nameG GL.g m8,
                  swap_columns := nameG GL.g m9,
                  bring := nameG GL.g m10,
                  clear_cross := nameG GL.g m11,
                  undivided_row := nameG GL.g m12,
                  smith_form := nameG GL.g m13,
                  diagonal := nameG GL.g m14,
                  law_take := nameG GL.g m16,
                  law_matrix := nameG GL.g m17,
                  law_deed := nameG GL.g m18,
                  law_flipped := nameG GL.g m19,
                  law_hanging := nameG GL.g m20 }
          extended := F1,
          unit_rows := F3,
          combine := F4,
          clear_below := F5,
          reduce_above := F6,
          hermite_form := F7,
          least_spot := F8,
          swap_columns := F9,
          bring := F10,
          clear_cross := F11,
          undivided_row := F12,
          smith_form := F13,
          diagonal := F14,
          law_take := F16,
          law_matrix := F17,
          law_deed := F18,
          law_flipped := F19,
          law_hanging := F20 }
end Mine
namespace Mine
theorem intsAre_ints : ∀ {vs : List Value} {ns : List Int}, IntsAre vs ns → Ints vs ns
  | _, _, .nil => trivial
  | _, _, .cons n t r => ⟨⟨t, rfl⟩, intsAre_ints r⟩
theorem join {w : World} {s₁ : Shared} {h1 : Heap} {tk : Nat} {N : Nat} {mg mb : Str → Option Value} {defs : List DefItem} {consts : List (Str × PyData)} {objs : List (Str × (Obj → Prop))} {names : List Str} {m : Str → Option Value} {f sc : Addr} {cdv : Value} {vs : List Value} {ns : List Int}
    {Q : Flow → Shared → Prop} {E : Value → Shared → Prop} {SO : Nat → Nat → (Nat → Nat → Int) → (Nat → Nat → Int) → Prop} (MM : Maths IntMulOk SO)
    (GL : Glob N mg mb defs consts objs names s₁.heap) (mem : ∀ i ∈ [1, 3, 4, 5, 6, 7, 8, 9, 10, 11, 12, 13, 14, 16, 17, 18, 19, 20], itemN i ∈ defs)
    (bn : ∀ x ∈ (["range", "len", "enumerate", "list", "abs", "min"] : List Str), x ∉ names)
    (F : Fr s₁.heap s₁.heap.objs.size h1 m) (hm : m "script" = some (.ref sc)) (hL : s₁.heap.IsList sc vs.toArray) (hI : IntsAre vs ns) (hlen : ¬ ((63 : Int) < (ns.length : Int)))
    (q : ∀ s' : Shared, (∀ b o, s₁.heap.get? b = some o → s'.heap.get? b = some o) → s'.os = s₁.os → s'.gens = s₁.gens → Q (.ret (.bool true)) s') :
    wpAny (model PySem.Challenge.pw_oj0002_01 w) (callerA.deeper (envF "law" (scopeN 21) s₁.heap.objs.size f cdv)) (execs (bodyN 21) (envF "law" (scopeN 21) s₁.heap.objs.size f cdv)) Q E { heap := h1, gens := s₁.gens, drawn := s₁.drawn, toks := tk, os := s₁.os } := by
  obtain ⟨fa, cd, G⟩ := gr_of (prog := PySem.Challenge.pw_oj0002_01) GL rfl mem bn
  have S : Ses s₁.heap s₁.heap (Dn (fun _ => False) s₁.heap) (envF "law" (scopeN 21) s₁.heap.objs.size f cdv) m (fun h => IntL h sc ns) h1 :=
    { fr := { kind := rfl, loc := ⟨m, F.ns, fun _ _ => rfl⟩, cel := fun x c e => (nomatch (show (none : Option Addr) = some c from e)), apart := fun x y c e _ => (nomatch (show (none : Option Addr) = some c from e)) }
      ext := ⟨fun b o _ e => F.keep b o e, Nat.le_of_lt F.ns.lt⟩, nw := fun b hb => .inr hb, gnd := fun b o e => e, out := fun b hb => hb.elim (fun f => f.elim) id, st := Stable.intL _ _
      dat := ⟨vs.toArray, (by obtain ⟨o, ho, r⟩ := hL; exact ⟨o, F.keep _ _ ho, r⟩), by simpa using intsAre_ints hI⟩, gl := rfl, bu := rfl }
  have R : Rm (callerA.deeper (envF "law" (scopeN 21) s₁.heap.objs.size f cdv)) (0 + 6) :=
    { handled := rfl, depth := (by decide : 1 + claimMargin + 1 + (0 + 6) < 500), units := (by decide : 4 + 3 + 10 * (0 + 6) < 5000), frames := ⟨_, [], rfl, rfl, rfl, rfl, rfl⟩ }
  have T := law_body (w := w) G MM R S hm (by omega)
  exact wpAny_mono (T _ rfl) (fun fl s' r => by obtain ⟨sm, rfl, k⟩ := r; exact q s' k sm.2.2 sm.1) fun _ _ f => f.elim
end Mine
namespace Mine
theorem maths : ∃ SO, Maths IntMulOk SO := ⟨_, maths_of fun h1 h2 h => mulOk h1 h2 h⟩
noncomputable def view : Program := { PySem.Challenge.pw_oj0002_01 with main := { PySem.Challenge.pw_oj0002_01.main with body := (fnAt 1).take 1 ++ ((fnAt 3).take 12 ++ fnAt 16) } }
noncomputable abbrev rowW : RowW := OpenRow.toRowW PySem.Challenge.rw_oj0002_01.row
noncomputable def XT (s : Shared) : Bool := xlAt view [] s && recOk (RowW.records rowW) s
theorem left : LeftO PySem.Challenge.pw_oj0002_01 view [] XT (Hook.obs Hook.none) (Hook.val Hook.none) 1270 := fun w => by kernel_rfl
noncomputable abbrev PP : Program := PySem.Challenge.pw_oj0002_01
noncomputable abbrev LL : OpenLaw := PySem.Challenge.rw_oj0002_01
theorem look1 : sreFenced PP.main = true := by kernel_rfl
theorem look2 : (moduleNames PP.main.body).isEmpty = true := by kernel_rfl
theorem look3 : namesResolve PP = true := by kernel_rfl
theorem look4 : PP.boundNames.all (fun n => !worldNames.contains n) = true := by kernel_rfl
theorem look5 : noRoadLSs { strict := !(importedModules PP.main.body).all cThrough.contains, foot := none, bare := (["vars", "dir", "locals"] : List Str).filter (readsOut PP PP.main.body) } PP.main.body = true := by kernel_rfl
theorem look6 : namesMeet PP PP.main.body (fun _ n => attrL n) = true := by kernel_rfl
theorem looks : looksOpen PP = true := by
  unfold looksOpen
  exact look_both (look_both (look_both (look_both (look_both look1 (by rw [look2]; rfl)) look3) look4) look5) look6
theorem rowWell : LL.row.wellSaid = true := by
  unfold OpenRow.wellSaid OpenRow.partSaid
  rw [show looksOpen LL.row.prog = true from looks]
  kernel_rfl
theorem well : LL.wellSaid = true := by
  unfold OpenLaw.wellSaid
  rw [show LL.row.wellSaid = true from rowWell]
  kernel_rfl
theorem hdef : defOf view rowW.name = some (⟨"law", argsN 21, bodyN 21, scopeN 21, (itemN 21).pos⟩, []) := by kernel_rfl
theorem items : List.map itemOf (recsOf view) = [1, 3, 4, 5, 6, 7, 8, 9, 10, 11, 12, 13, 14, 16, 17, 18, 19, 20, 21].map itemN := by kernel_rfl
end Mine
set_option maxRecDepth 100000 in
set_option maxHeartbeats 8000000 in
theorem PySem.Challenge.cw_oj0002_01_holds : PySem.Challenge.rw_oj0002_01.Holds := by
  refine holds_law Mine.well fun said => holds_open Mine.left (Hook.of Hook.none) (Hook.keeps Hook.none) (fun s e => xl_of s (Bool.and_eq_true_iff.mp e).1) XL.keeps Mine.hdef (by kernel_rfl) (by kernel_rfl) (fun s e => recFacts_of (Bool.and_eq_true_iff.mp e).2) (by kernel_rfl) said (by kernel_rfl) ⟨rfl, rfl, rfl, rfl, rfl, by kernel_rfl⟩ ?hw ?hc
  case hw => exact ⟨[.list [.int 3, .int 1]], by kernel_rfl, by kernel_rfl⟩
  intro w s₀ s₁ mg mb G Y fa o pm cd doc dV kV ho hd hcd hD hmg hg args vals as hpre hlay hrd hwl hlo
  have GL := glob_more (Ground.glob G (by kernel_rfl) (by kernel_rfl)) (Ground.X G).2
  refine Ground.open G ?_
  intro T B D TE TW
  obtain ⟨_, _, he, _⟩ := based_of_top T rfl hmg ho hd
  have he' : cd = _ := he
  subst he'
  clear he hmg B D TE TW
  wrow_args hpre hlay hrd hwl hlo
  refine enter_call ?_
  w_top on
  refine codeAny_mono ?_ (fun _ _ g => GoodW.toG g)
  w_call any ho hd hcd hD T F
  obtain ⟨SO, MM⟩ := Mine.maths
  refine Mine.join MM (by assumption) (fun i hi => by rw [Mine.items]; exact List.mem_map_of_mem (by revert i; decide)) (by decide) (by assumption) rfl (by assumption) (by assumption) (by assumption) fun s' hk ho hg => ?_
  exact ⟨.inl ⟨.bool true, .bool true, [], rfl, fun _ => rfl, .bool _, by with_unfolding_all rfl, fun _ => ⟨List.nodup_nil, fun _ h => nomatch h⟩⟩, hk, ho, hg.trans (by assumption)⟩

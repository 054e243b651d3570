import PyProof.Rows.All
import Wide.All
import OpenK.AllK
import Wide.FinOn
import PySem.Challenge.RW_sm0003_01
set_option Elab.async false
set_option linter.unusedVariables false
section
open PySem PySem.W PyProof.Rows
#guard_msgs (drop error) in
lay_quick_some 5 nothing_of_this_name
namespace Mine
set_option maxRecDepth 100000 in
set_option maxHeartbeats 8000000 in
open_top hd for PySem.Challenge.rw_sm0003_01
end Mine
end
section
namespace Mine
noncomputable section
/-! figures -/
noncomputable def figN (n : Nat) : Nat := if n < 10 then 1 else figN (n / 10) + 1
theorem figN_spec (n : Nat) : 1 ≤ figN n ∧ n < 10 ^ figN n ∧ (figN n = 1 ∨ 10 ^ (figN n - 1) ≤ n) := by
  induction n using Nat.strongRecOn with
  | ind n ih =>
    rw [figN]
    by_cases h : n < 10
    · rw [if_pos h]; exact ⟨by omega, by omega, Or.inl rfl⟩
    · rw [if_neg h]
      obtain ⟨a, b, c⟩ := ih (n / 10) (by omega)
      refine ⟨by omega, by rw [Nat.pow_succ]; omega, Or.inr ?_⟩
      obtain ⟨j, hj⟩ : ∃ j, figN (n / 10) = j + 1 := ⟨figN (n / 10) - 1, by omega⟩
      rw [hj] at c ⊢
      simp only [Nat.add_sub_cancel] at c ⊢
      rw [Nat.pow_succ]
      rcases c with c | c
      · have : j = 0 := by omega
        subst this; simp; omega
      · omega
theorem fig_le {n a b : Nat} (ha : a = 1 ∨ 10 ^ (a - 1) ≤ n) (hb : n < 10 ^ b) (h1 : 1 ≤ b) : a ≤ b := by
  rcases ha with rfl | ha
  · exact h1
  · have := (Nat.pow_lt_pow_iff_right (a := 10) (by decide)).mp (Nat.lt_of_le_of_lt ha hb)
    exact Nat.le_of_pred_lt this
theorem figN_eq (n m : Nat) (h1 : 1 ≤ m) (h2 : n < 10 ^ m) (h3 : m = 1 ∨ 10 ^ (m - 1) ≤ n) : figN n = m :=
  Nat.le_antisymm (fig_le (figN_spec n).2.2 h2 h1) (fig_le h3 (figN_spec n).2.1 (figN_spec n).1)
def figs (n : Int) : Int := (figN n.toNat : Nat)
/-- the loop of figures_of -/
def FI (n m b : Int) : Prop := 1 ≤ m ∧ b = 10 ^ m.toNat ∧ (m = 1 ∨ 10 ^ (m.toNat - 1) ≤ n)
theorem FI.start (n : Int) : FI n 1 10 := ⟨by omega, rfl, Or.inl rfl⟩
theorem FI.step {n m b : Int} (h : FI n m b) (t : b ≤ n) : FI n (m + 1) (b * 10) := by
  obtain ⟨h1, h2, h3⟩ := h
  have e : (m + 1).toNat = m.toNat + 1 := by omega
  refine ⟨by omega, by rw [e, Int.pow_succ, h2], Or.inr ?_⟩
  rw [e, Nat.add_sub_cancel, ← h2]; exact t
theorem cast_pow10 (k : Nat) : ((10 ^ k : Nat) : Int) = 10 ^ k := by
  induction k with
  | zero => rfl
  | succ k ih => rw [Nat.pow_succ, Int.pow_succ, ← ih]; rfl
theorem pow10_pos (k : Nat) : (0 : Int) < 10 ^ k := by
  rw [← cast_pow10]; exact Int.natCast_pos.mpr (Nat.pow_pos (by decide))
theorem pow10_le {a b : Nat} (h : a ≤ b) : (10 : Int) ^ a ≤ 10 ^ b := by
  rw [← cast_pow10, ← cast_pow10]; exact Int.ofNat_le.mpr (Nat.pow_le_pow_right (by decide) h)
theorem pow10_lt_iff {a b : Nat} : (10 : Int) ^ a < 10 ^ b ↔ a < b := by
  rw [← cast_pow10, ← cast_pow10, Int.ofNat_lt]
  exact Nat.pow_lt_pow_iff_right (by decide)
theorem pow10_lt_of {a b : Nat} (h : (10 : Int) ^ a < 10 ^ b) : a < b := pow10_lt_iff.mp h
theorem FI.done {n m b : Int} (h : FI n m b) (t : ¬ b ≤ n) (h0 : 0 ≤ n) : m = figs n := by
  obtain ⟨h1, h2, h3⟩ := h
  unfold figs
  rw [figN_eq n.toNat m.toNat (by omega) ?_ ?_]
  · omega
  · have : (n.toNat : Int) < ((10 ^ m.toNat : Nat) : Int) := by rw [cast_pow10, ← h2]; omega
    exact Int.ofNat_lt.mp this
  · rcases h3 with h3 | h3
    · left; omega
    · right
      have : ((10 ^ (m.toNat - 1) : Nat) : Int) ≤ (n.toNat : Int) := by rw [cast_pow10]; omega
      exact Int.ofNat_le.mp this
theorem FI.le {n m b : Int} (h : FI n m b) (t : b ≤ n) (hn : n < 10 ^ 100) : m < 100 := by
  obtain ⟨h1, h2, h3⟩ := h
  rw [h2] at t
  have := pow10_lt_of (Int.lt_of_le_of_lt t hn)
  omega
def FP (n m b : Int) : Prop := FI n m b ∧ 1 ≤ m ∧ m ≤ 100
theorem FP.start (n : Int) : FP n 1 10 := ⟨FI.start n, by omega, by omega⟩
theorem FP.step {n m b : Int} (hn : n < 10 ^ 100) (h : FI n m b) (h1 : 1 ≤ m) (t : b ≤ n) : FP n (m + 1) (b * 10) :=
  ⟨h.step t, by omega, by have := h.le t hn; omega⟩
theorem figs_pos (n : Int) : 1 ≤ figs n := by unfold figs; have := (figN_spec n.toNat).1; omega
/-- rounded_by -/
def rq (n u : Int) : Int := n.fdiv u + (if 2 * n.fmod u > u ∨ (2 * n.fmod u = u ∧ (n.fdiv u).fmod 2 = 1) then 1 else 0)
theorem rq_up {n u : Int} (h : 2 * n.fmod u > u ∨ (2 * n.fmod u = u ∧ (n.fdiv u).fmod 2 = 1)) : n.fdiv u + 1 = rq n u := by
  unfold rq; rw [if_pos h]
theorem rq_no {n u : Int} (h : ¬ (2 * n.fmod u > u ∨ (2 * n.fmod u = u ∧ (n.fdiv u).fmod 2 = 1))) : n.fdiv u = rq n u := by
  unfold rq; rw [if_neg h]; omega
theorem pow10_log (k : Nat) (h : k ≤ 1000) : ((10 : Int) ^ k).natAbs.log2 < 9000 := by
  have e : ((10 : Int) ^ k).natAbs = 10 ^ k := by rw [← cast_pow10]; exact Int.natAbs_natCast _
  rw [e]
  refine (Nat.log2_lt (Nat.ne_of_gt (Nat.pow_pos (by decide)))).mpr ?_
  calc 10 ^ k ≤ (2 ^ 4) ^ k := Nat.pow_le_pow_left (by decide) k
    _ = 2 ^ (4 * k) := (Nat.pow_mul 2 4 k).symm
    _ < 2 ^ 9000 := Nat.pow_lt_pow_right (by decide) (by omega)
theorem pow10_ne (k : Nat) : (10 : Int) ^ k ≠ 0 := Int.ne_of_gt (pow10_pos k)
/-- a decimal of the program's make: the value (in hundredths), its coefficient, its exponent -/
structure IsDec (V c e : Int) : Prop where
  elo : -2 ≤ e
  ehi : e ≤ 70
  lo : -100000 < c
  hi : c < 100000
  val : V = c * 10 ^ (e + 2).toNat
  zero : c = 0 → e = 0
  bare : c ≠ 0 → c % 10 ≠ 0
def rqN (n u : Nat) : Nat := n / u + (if 2 * (n % u) > u ∨ (2 * (n % u) = u ∧ (n / u) % 2 = 1) then 1 else 0)
def rndN (p n : Nat) : Nat := rqN n (10 ^ (figN n - p)) * 10 ^ (figN n - p)
def R (p : Nat) (x : Int) : Int := if x < 0 then -(rndN p x.natAbs : Int) else (rndN p x.natAbs : Int)
def MP (c e d s x : Int) : Prop := s * 10 ^ (x + 2).toNat = ((R d.toNat (c * 10 ^ (e + 2).toNat)).natAbs : Int)
def InR (c : Int) : Prop := -10 ^ 90 < c ∧ c < 10 ^ 90
def Sm (V : Int) : Prop := V.natAbs ≤ 10 ^ 60
def Sm' (V : Int) : Prop := V.natAbs ≤ 10 ^ 59
/-! small helpers -/
theorem nadd (a b : Int) : (a + b).natAbs ≤ a.natAbs + b.natAbs := Int.natAbs_add_le a b
theorem nsub (a b : Int) : (a - b).natAbs ≤ a.natAbs + b.natAbs := by
  have := nadd a (-b)
  rw [Int.natAbs_neg] at this
  exact this
theorem nsubc (a b : Int) : (a - b).natAbs = (b - a).natAbs := by rw [← Int.natAbs_neg, Int.neg_sub]
theorem toNat1 {d : Int} (h : 1 ≤ d ∧ d ≤ 5) : 1 ≤ d.toNat := by omega
theorem toNat5 {d : Int} (h : 1 ≤ d ∧ d ≤ 5) : d.toNat ≤ 5 := by omega
theorem pp (k : Nat) : 0 < 10 ^ k := Nat.pow_pos (by decide)
theorem pw_le {a b : Nat} (h : a ≤ b) : 10 ^ a ≤ 10 ^ b := Nat.pow_le_pow_right (by decide) h
theorem pos_of_lt {i k : Nat} (h : i < k) : 0 < k := Nat.lt_of_le_of_lt (Nat.zero_le _) h
/-! rounding -/
def Dv (k : Nat) (x : Int) : Prop := ((10 ^ k : Nat) : Int) ∣ x
theorem Dv.add {k : Nat} {x y : Int} (h : Dv k x) (g : Dv k y) : Dv k (x + y) := Int.dvd_add h g
theorem Dv.neg {k : Nat} {x : Int} (h : Dv k x) : Dv k (-x) := Int.dvd_neg.mpr h
theorem Dv.sub {k : Nat} {x y : Int} (h : Dv k x) (g : Dv k y) : Dv k (x - y) := Int.dvd_sub h g
theorem Dv.mono {k j : Nat} {x : Int} (h : Dv k x) (hj : j ≤ k) : Dv j x := Int.dvd_trans (Int.ofNat_dvd.mpr (Nat.pow_dvd_pow 10 hj)) h
theorem Dv.zero (k : Nat) : Dv k 0 := ⟨0, by simp⟩
theorem Dv.of_nat {k : Nat} {x : Int} (h : 10 ^ k ∣ x.natAbs) : Dv k x := by
  unfold Dv
  rw [← Int.natAbs_dvd_natAbs]
  exact h
theorem Dv.to_nat {k : Nat} {x : Int} (h : Dv k x) : 10 ^ k ∣ x.natAbs := by
  unfold Dv at h
  rw [← Int.natAbs_dvd_natAbs] at h
  exact h
/-- a multiple that is smaller than the unit -/
theorem Dv.small {k : Nat} {x : Int} (h : Dv k x) (hx : x.natAbs < 10 ^ k) : x = 0 := by
  have := Nat.eq_zero_of_dvd_of_lt h.to_nat hx
  omega
/-- kept by p figures -/
def Rep (p : Nat) (x : Int) : Prop := ∃ k : Nat, Dv k x ∧ x.natAbs ≤ 10 ^ (p + k)
theorem Rep.neg {p : Nat} {x : Int} (h : Rep p x) : Rep p (-x) := by
  obtain ⟨k, a, b⟩ := h
  exact ⟨k, a.neg, by rw [Int.natAbs_neg]; exact b⟩
theorem Rep.zero (p : Nat) : Rep p 0 := ⟨0, Dv.zero 0, by simp⟩
theorem Rep.pow (p K : Nat) : Rep p (10 ^ K : Nat) := ⟨K, ⟨1, by simp⟩, by simp only [Int.natAbs_natCast]; exact pw_le (Nat.le_add_left K p)⟩
def kx (p : Nat) (x : Int) : Nat := figN x.natAbs - p
theorem rq_near {n u : Nat} (hu : 0 < u) : 2 * (rqN n u * u) ≤ 2 * n + u ∧ 2 * n ≤ 2 * (rqN n u * u) + u := by
  have h := Nat.div_add_mod n u
  rw [Nat.mul_comm] at h
  unfold rqN
  split
  · rw [Nat.add_mul, Nat.one_mul]
    have hm := Nat.mod_lt n hu
    omega
  · rw [Nat.add_zero]
    omega
theorem R_abs (p : Nat) (x : Int) : (R p x).natAbs = rndN p x.natAbs := by
  unfold R; split <;> omega
theorem R_err (p : Nat) (x : Int) : 2 * (R p x - x).natAbs ≤ 10 ^ kx p x := by
  have h := rq_near (n := x.natAbs) (u := 10 ^ kx p x) (Nat.pow_pos (by decide))
  have e : rndN p x.natAbs = rqN x.natAbs (10 ^ kx p x) * 10 ^ kx p x := rfl
  unfold R
  rw [e]
  generalize rqN x.natAbs (10 ^ kx p x) * 10 ^ kx p x = q at h
  split <;> omega
theorem R_dv (p : Nat) (x : Int) : Dv (kx p x) (R p x) := by
  refine Dv.of_nat ?_
  rw [R_abs]
  exact ⟨_, Nat.mul_comm _ _⟩
theorem kx_lt (p : Nat) (x : Int) : x.natAbs < 10 ^ (p + kx p x) :=
  Nat.lt_of_lt_of_le (figN_spec x.natAbs).2.1 (Nat.pow_le_pow_right (by decide) (by unfold kx; omega))
theorem kx_ge {p : Nat} {x : Int} (hp : 1 ≤ p) (h : 0 < kx p x) : 10 ^ (p + kx p x - 1) ≤ x.natAbs := by
  rcases (figN_spec x.natAbs).2.2 with q | q
  · unfold kx at h; omega
  · refine Nat.le_trans (Nat.pow_le_pow_right (by decide) ?_) q
    unfold kx at h ⊢; omega
theorem R_of_dv {p : Nat} {x : Int} (h : Dv (kx p x) x) : R p x = x := by
  have h1 := R_err p x
  have h2 := ((R_dv p x).sub h).small (by have := Nat.pow_pos (n := kx p x) (show 0 < 10 by decide); omega)
  omega
theorem R_of_rep {p : Nat} {x : Int} (hp : 1 ≤ p) (h : Rep p x) : R p x = x := by
  obtain ⟨k, a, b⟩ := h
  refine R_of_dv ?_
  rcases Nat.lt_or_ge k (kx p x) with q | q
  · have h1 := kx_ge hp (by omega : 0 < kx p x)
    have h2 : p + kx p x - 1 ≤ p + k := (Nat.pow_le_pow_iff_right (a := 10) (by decide)).mp (Nat.le_trans h1 b)
    have h3 : p + kx p x - 1 = p + k := by omega
    rw [h3] at h1
    have h4 : x.natAbs = 10 ^ (p + k) := Nat.le_antisymm b h1
    refine Dv.of_nat ?_
    rw [h4]
    exact Nat.pow_dvd_pow 10 (by omega)
  · exact a.mono q
theorem R_rep (p : Nat) (x : Int) : Rep p (R p x) := by
  refine ⟨kx p x, R_dv p x, ?_⟩
  rw [R_abs]
  have e : rndN p x.natAbs = rqN x.natAbs (10 ^ kx p x) * 10 ^ kx p x := rfl
  rw [e, Nat.pow_add]
  refine Nat.mul_le_mul_right _ ?_
  have h1 := kx_lt p x
  rw [Nat.pow_add] at h1
  have h2 : x.natAbs / 10 ^ kx p x < 10 ^ p := Nat.div_lt_of_lt_mul (by rw [Nat.mul_comm]; exact h1)
  unfold rqN
  split <;> omega
theorem R_neg (p : Nat) (x : Int) : R p (-x) = -R p x := by
  have z : rndN p 0 = 0 := by
    have := R_of_dv (p := p) (x := 0) (Dv.zero _)
    unfold R at this
    simpa using this
  unfold R
  rw [Int.natAbs_neg]
  by_cases h0 : x = 0
  · subst h0; simp [z]
  · by_cases h1 : x < 0
    · rw [if_pos h1, if_neg (by omega)]; omega
    · rw [if_neg h1, if_pos (by omega)]
theorem near_aux {r x g : Int} {U : Nat} (h1 : 2 * (r - x).natAbs ≤ U) (h : U ≤ (g - r).natAbs) : (r - x).natAbs ≤ (g - x).natAbs := by
  have h2 := nadd (g - x) (x - r)
  rw [show g - x + (x - r) = g - r by omega, nsubc x r] at h2
  omega
theorem near_dv {p : Nat} {x g : Int} (hg : Dv (kx p x) g) : (R p x - x).natAbs ≤ (g - x).natAbs := by
  by_cases he : g = R p x
  · rw [he]; exact Nat.le_refl _
  · refine near_aux (R_err p x) (Nat.le_of_not_lt fun q => he ?_)
    exact Int.sub_eq_zero.mp ((hg.sub (R_dv p x)).small q)
theorem near_neg {r x f : Int} {B C : Nat} (q : x < 0) (h : (r - x).natAbs ≤ (-(B : Int) - x).natAbs) (h2 : B ≤ x.natAbs) (b : f.natAbs ≤ C) (h3 : C ≤ B) : (r - x).natAbs ≤ (f - x).natAbs := by
  refine Nat.le_trans h ?_
  clear h
  omega
theorem near_pos {r x f : Int} {B C : Nat} (q : 0 ≤ x) (h : (r - x).natAbs ≤ ((B : Int) - x).natAbs) (h2 : B ≤ x.natAbs) (b : f.natAbs ≤ C) (h3 : C ≤ B) : (r - x).natAbs ≤ (f - x).natAbs := by
  refine Nat.le_trans h ?_
  clear h
  omega
theorem kx_dv {p : Nat} {x : Int} (hp : 1 ≤ p) : Dv (kx p x) (10 ^ (p + kx p x - 1) : Nat) := by
  refine Dv.of_nat ?_
  rw [Int.natAbs_natCast]
  exact Nat.pow_dvd_pow 10 (by omega)
theorem pw1 {p j k : Nat} (h : j < k) : 10 ^ (p + j) ≤ 10 ^ (p + k - 1) := pw_le (by omega)
theorem R_near {p : Nat} {x f : Int} (hp : 1 ≤ p) (h : Rep p f) : (R p x - x).natAbs ≤ (f - x).natAbs := by
  by_cases hd : Dv (kx p x) f
  · exact near_dv hd
  · obtain ⟨k, a, b⟩ := h
    have hk : k < kx p x := Nat.lt_of_not_le fun q => hd (a.mono q)
    have h2 := kx_ge hp (pos_of_lt hk)
    rcases Int.lt_or_le x 0 with q | q
    · exact near_neg q (near_dv (kx_dv hp).neg) h2 b (pw1 hk)
    · exact near_pos q (near_dv (kx_dv hp)) h2 b (pw1 hk)
theorem R_nat (p n : Nat) : R p (n : Int) = (rndN p n : Int) := by
  unfold R
  rw [if_neg (Int.not_lt.mpr (Int.natCast_nonneg n)), Int.natAbs_natCast]
theorem bound_aux {r n B : Nat} (h : ((r : Int) - (n : Int)).natAbs ≤ ((B : Int) - (n : Int)).natAbs) (hn : n ≤ B) : r ≤ B := by omega
theorem R_bound {p K : Nat} {x : Int} (hp : 1 ≤ p) (h : x.natAbs ≤ 10 ^ K) : (R p x).natAbs ≤ 10 ^ K := by
  rw [R_abs]
  have h1 := R_near (x := (x.natAbs : Int)) hp (Rep.pow p K)
  rw [R_nat] at h1
  exact bound_aux h1 h
theorem R_keeps {p j : Nat} {x : Int} (h : Dv j x) : Dv j (R p x) := by
  rcases Nat.le_total (kx p x) j with q | q
  · rw [R_of_dv (h.mono q)]; exact h
  · exact (R_dv p x).mono q
theorem rep_of_R {p : Nat} {x : Int} (h : R p x = x) : Rep p x := by
  rw [← h]; exact R_rep p x
/-- what a sum loses is kept -/
theorem er_aux (a b s : Int) (h : (s - (a + b)).natAbs ≤ (a - (a + b)).natAbs) : (a + b - s).natAbs ≤ b.natAbs := by
  rw [nsubc, ← Int.natAbs_neg b, ← show a - (a + b) = -b by omega]
  exact h
theorem err_rep {p : Nat} {a b : Int} (hp : 1 ≤ p) (ha : Rep p a) (hb : Rep p b) : Rep p (a + b - R p (a + b)) := by
  have n1 := er_aux a b _ (R_near (x := a + b) hp ha)
  have n2 := R_near (x := a + b) hp hb
  rw [Int.add_comm a b] at n2
  have n2 := er_aux b a _ n2
  rw [Int.add_comm b a] at n2
  obtain ⟨j, a1, a2⟩ := ha
  obtain ⟨i, b1, b2⟩ := hb
  rcases Nat.le_total j i with q | q
  · have d1 := a1.add (b1.mono q)
    exact ⟨j, d1.sub (R_keeps d1), Nat.le_trans n2 a2⟩
  · have d1 := (a1.mono q).add b1
    exact ⟨i, d1.sub (R_keeps d1), Nat.le_trans n1 b2⟩
theorem ar1 (b s u : Int) : b - (s - u) = -(s - b - u) := by omega
theorem ar2 (a b s u : Int) : a - u + -(s - b - u) = a + b - s := by omega
theorem ar3 (a b s : Int) : s + (a + b - s) = a + b := by omega
theorem ar4 (b s : Int) : s - (s - b) = b := by omega
theorem ar5 (a b s : Int) : a - (s - b) = a + b - s := by omega
theorem pw2 {p k : Nat} (h : 0 < k) : 10 ^ (p + k) = 10 * 10 ^ (p + k - 1) := by rw [← Nat.pow_succ']; congr 1; omega
theorem pw3 {p k : Nat} (h : 1 ≤ p) : 10 ^ k ≤ 10 ^ (p + k - 1) := Nat.pow_le_pow_right (by decide) (by omega)
theorem pw4 (p i : Nat) : 10 ^ (p + (i + 1)) = 10 * 10 ^ (p + i) := by rw [← Nat.pow_succ']; congr 1
theorem pw5 {p i k : Nat} (h : i + 2 ≤ k) : 10 ^ (p + (i + 1)) ≤ 10 ^ (p + k - 1) := Nat.pow_le_pow_right (by decide) (by omega)
theorem pw6 {p i j : Nat} (h : j ≤ i) : 10 ^ (p + j) ≤ 10 ^ (p + i) := Nat.pow_le_pow_right (by decide) (by omega)
theorem pw7 {p j : Nat} (h : 1 ≤ p) : 10 ^ (j + 1) ≤ 10 ^ (p + j) := Nat.pow_le_pow_right (by decide) (by omega)
theorem ts0 {a b s u : Int} (n0 : (u - (s - b)).natAbs ≤ (a - (s - b)).natAbs) (h : s = a + b) : u = s - b := by
  subst h
  rw [Int.add_sub_cancel, Int.sub_self] at n0
  rw [Int.add_sub_cancel]
  exact Int.sub_eq_zero.mp (Int.natAbs_eq_zero.mp (Nat.le_zero.mp n0))
theorem ts1 {a b s : Int} {A T P K : Nat} (a2 : a.natAbs ≤ A) (t1 : A ≤ T) (t2 : P = 10 * T) (t3 : K ≤ T) (x1 : 2 * (s - (a + b)).natAbs ≤ K) : (s - b).natAbs ≤ P := by
  have h := nadd a (s - (a + b))
  rw [show a + (s - (a + b)) = s - b by omega] at h
  omega
theorem ts2 {b s u : Int} {B P : Nat} (b2 : b.natAbs ≤ B) (n3 : (u - (s - b)).natAbs ≤ (s - (s - b)).natAbs) (t : P = 10 * B) : (s - u).natAbs ≤ P := by
  rw [ar4] at n3
  have h := nsub b (u - (s - b))
  rw [show b - (u - (s - b)) = s - u by omega] at h
  omega
theorem ts3a {a b s : Int} (n1 : (s - (a + b)).natAbs ≤ (a - (a + b)).natAbs) : (a + b - s).natAbs ≤ b.natAbs := er_aux a b s n1
theorem ts3b {b s u : Int} (n3 : (u - (s - b)).natAbs ≤ (s - (s - b)).natAbs) : (u - (s - b)).natAbs ≤ b.natAbs := by
  rw [ar4] at n3
  exact n3
theorem ts3e (a b s u : Int) : a - u = (a + b - s) - (u - (s - b)) := by omega
theorem ts3d {x y b : Int} {B P : Nat} (b2 : b.natAbs ≤ B) (h1 : x.natAbs ≤ b.natAbs) (h2 : y.natAbs ≤ b.natAbs) (t : P = 10 * B) : (x - y).natAbs ≤ P := by
  have h := nsub x y
  omega
theorem ts3c {a b s u : Int} {B P : Nat} (b2 : b.natAbs ≤ B) (h1 : (a + b - s).natAbs ≤ b.natAbs) (h2 : (u - (s - b)).natAbs ≤ b.natAbs) (t : P = 10 * B) : (a - u).natAbs ≤ P := by
  rw [ts3e a b s u]
  exact ts3d b2 h1 h2 t
theorem ts4 {a b : Int} {A B P Q : Nat} (a2 : a.natAbs ≤ A) (b2 : b.natAbs ≤ B) (t5 : A ≤ B) (t : P = 10 * B) (h0 : 0 < B) (h1 : P ≤ Q) (h2 : Q ≤ (a + b).natAbs) : False := by
  have h := nadd a b
  omega
theorem ts5a {a b s : Int} (n2 : (s - (a + b)).natAbs ≤ (b - (a + b)).natAbs) : (s - b).natAbs ≤ 2 * a.natAbs := by
  have h := nadd a (s - (a + b))
  rw [show a + (s - (a + b)) = s - b by omega] at h
  rw [show b - (a + b) = -a by omega, Int.natAbs_neg] at n2
  omega
theorem ts5 {a b s : Int} {A Q R S : Nat} (a2 : a.natAbs ≤ A) (n2 : (s - (a + b)).natAbs ≤ (b - (a + b)).natAbs) (s1 : Q ≤ R) (g : R ≤ (s - b).natAbs) (s2 : S = 10 * A) (s3 : S ≤ Q) (h0 : 0 < A) : False := by
  have h := Nat.le_trans s3 (Nat.le_trans s1 (Nat.le_trans g (Nat.le_trans (ts5a n2) (Nat.mul_le_mul_left 2 a2))))
  clear a2 n2 s1 g s3
  omega
theorem ts6 {a b s u : Int} {K P : Nat} (x1 : 2 * (s - (a + b)).natAbs ≤ K) (x2 : 2 * (u - (s - b)).natAbs ≤ K) (h : K ≤ P) : (a - u).natAbs ≤ P := by
  rw [ts3e a b s u]
  rw [nsubc] at x1
  have h := nsub (a + b - s) (u - (s - b))
  omega
theorem le_of_not_two {i k : Nat} (h : i < k) (r : ¬ i + 2 ≤ k) : k = i + 1 := by omega
/-- the case that a rounding of the way back is not exact -/
theorem two_sum_core {p : Nat} {a b s u : Int} {ks ku : Nat} (hp : 1 ≤ p) (ha : Rep p a) (hb : Rep p b) (o1 : ¬ Dv ks (a + b)) (o2 : ¬ Dv ku (s - b)) (o3 : ¬ Rep p (s - b))
    (n1 : (s - (a + b)).natAbs ≤ (a - (a + b)).natAbs) (n2 : (s - (a + b)).natAbs ≤ (b - (a + b)).natAbs) (n3 : (u - (s - b)).natAbs ≤ (s - (s - b)).natAbs)
    (x1 : 2 * (s - (a + b)).natAbs ≤ 10 ^ ks) (x2 : 2 * (u - (s - b)).natAbs ≤ 10 ^ ku) (v1 : Dv ks s) (v2 : Dv ku u)
    (g1 : 0 < ks → 10 ^ (p + ks - 1) ≤ (a + b).natAbs) (g2 : 0 < ku → 10 ^ (p + ku - 1) ≤ (s - b).natAbs) : R p (s - u) = s - u ∧ R p (a - u) = a - u := by
  obtain ⟨j, a1, a2⟩ := ha
  obtain ⟨i, b1, b2⟩ := hb
  -- b's exponent is below s's
  have c1 : i < ks := by
    rcases Nat.lt_or_ge i ks with q | q
    · exact q
    · exfalso
      have hj : j < ks := by
        rcases Nat.lt_or_ge j ks with r | r
        · exact r
        · exact (o1 ((a1.mono r).add (b1.mono q))).elim
      exact o3 ⟨ks, v1.sub (b1.mono q), ts1 a2 (pw1 hj) (pw2 (Nat.lt_of_le_of_lt (Nat.zero_le _) hj)) (pw3 hp) x1⟩
  have c2 : i < ku := by
    rcases Nat.lt_or_ge i ku with q | q
    · exact q
    · exact (o2 ((v1.mono (Nat.le_trans q (Nat.le_of_lt c1))).sub (b1.mono q))).elim
  have w1 : Dv (i + 1) s := v1.mono c1
  have w2 : Dv (i + 1) u := v2.mono c2
  have t4 := pw4 p i
  refine ⟨R_of_rep hp ⟨i + 1, w1.sub w2, ts2 b2 n3 t4⟩, R_of_rep hp ?_⟩
  rcases Nat.lt_or_ge i j with q | q
  · exact ⟨i + 1, (a1.mono q).sub w2, ts3c b2 (ts3a n1) (ts3b n3) t4⟩
  · have g1' := g1 (Nat.lt_of_le_of_lt (Nat.zero_le _) c1)
    have g2' := g2 (Nat.lt_of_le_of_lt (Nat.zero_le _) c2)
    have z1 : ks = i + 1 := le_of_not_two c1 fun r => ts4 a2 b2 (pw6 q) t4 (pp _) (pw5 r) g1'
    have z2 : j = i := by
      rcases Nat.lt_or_ge j i with r | r
      · exact (ts5 a2 n2 (pw1 c2) g2' (pw4 p j) (pw6 r) (pp _)).elim
      · exact Nat.le_antisymm q r
    subst z2
    have z3 : ku = j + 1 := le_of_not_two c2 fun r => ts5 a2 n2 (Nat.le_refl _) g2' (pw4 p j) (pw5 r) (pp _)
    subst z1 z3
    exact ⟨j, a1.sub (w2.mono (Nat.le_succ j)), ts6 x1 x2 (pw7 hp)⟩
/-- Knuth's theorem -/
theorem two_sum {p : Nat} {a b : Int} (hp : 1 ≤ p) (ha : Rep p a) (hb : Rep p b) :
    R p (a + b) + R p (R p (a - R p (R p (a + b) - b)) + R p (b - R p (R p (a + b) - R p (R p (a + b) - b)))) = a + b := by
  have hs := R_rep p (a + b)
  have er := err_rep hp ha hb
  have ed := err_rep hp hs hb.neg
  have n0 := R_near (x := R p (a + b) - b) hp ha
  rw [show R p (a + b) + -b = R p (a + b) - b from rfl] at ed
  by_cases hu : R p (R p (a + b) - b) = R p (a + b) - b
  · have e1 : R p (a + b) - (R p (a + b) - b) = b := ar4 _ _
    have e2 : a - (R p (a + b) - b) = a + b - R p (a + b) := ar5 _ _ _
    rw [hu, e1, R_of_rep hp hb, e2, R_of_rep hp er, Int.sub_self, R_of_rep hp (Rep.zero p), Int.add_zero, R_of_rep hp er, ar3]
  · have o1 : ¬ Dv (kx p (a + b)) (a + b) := fun h => hu (ts0 n0 (R_of_dv h))
    obtain ⟨hv, he⟩ := two_sum_core hp ha hb o1 (fun h => hu (R_of_dv h)) (fun h => hu (R_of_rep hp h)) (R_near (x := a + b) hp ha) (R_near (x := a + b) hp hb) (R_near (x := R p (a + b) - b) hp hs)
      (R_err p (a + b)) (R_err p (R p (a + b) - b)) (R_dv p (a + b)) (R_dv p (R p (a + b) - b)) (kx_ge hp) (kx_ge hp)
    rw [hv, he, ar1, R_neg, R_of_rep hp ed, ar2, R_of_rep hp er, ar3]
/-! make -/
theorem abs_if (c : Int) : (if c < 0 then -c else c) = (c.natAbs : Int) := by split <;> omega
theorem figs_nat (n : Nat) : figs (n : Int) = (figN n : Int) := by unfold figs; rw [Int.toNat_natCast]
theorem rq_nat (n u : Nat) : rq (n : Int) (u : Int) = (rqN n u : Int) := by
  have e1 : (n : Int).fdiv (u : Int) = ((n / u : Nat) : Int) := (Int.ofNat_fdiv n u).symm
  have e2 : (n : Int).fmod (u : Int) = ((n % u : Nat) : Int) := (Int.ofNat_fmod n u).symm
  have e3 : ((n / u : Nat) : Int).fmod 2 = ((n / u % 2 : Nat) : Int) := (Int.ofNat_fmod (n / u) 2).symm
  unfold rq rqN
  rw [e1, e2, e3]
  by_cases q : 2 * (n % u) > u ∨ (2 * (n % u) = u ∧ (n / u) % 2 = 1)
  · rw [if_pos q, if_pos (by omega)]; omega
  · rw [if_neg q, if_neg (by omega)]; omega
theorem rqN_scale {n u t : Nat} (ht : 0 < t) : rqN (n * t) (u * t) = rqN n u := by
  have e1 : n * t / (u * t) = n / u := Nat.mul_div_mul_right n u ht
  have e2 : n * t % (u * t) = n % u * t := Nat.mul_mod_mul_right t n u
  unfold rqN
  rw [e1, e2]
  have e3 : (2 * (n % u * t) > u * t) ↔ 2 * (n % u) > u := by
    rw [← Nat.mul_assoc]; exact ⟨fun h => Nat.lt_of_mul_lt_mul_right h, fun h => Nat.mul_lt_mul_of_pos_right h ht⟩
  have e4 : (2 * (n % u * t) = u * t) ↔ 2 * (n % u) = u := by
    rw [← Nat.mul_assoc]; exact ⟨fun h => Nat.eq_of_mul_eq_mul_right ht h, fun h => by rw [h]⟩
  simp only [e3, e4]
theorem figN_scale {n : Nat} (hn : 0 < n) (j : Nat) : figN (n * 10 ^ j) = figN n + j := by
  obtain ⟨a, b, c⟩ := figN_spec n
  refine figN_eq _ _ (Nat.le_trans a (Nat.le_add_right _ _)) ?_ (Or.inr ?_)
  · rw [Nat.pow_add]; exact Nat.mul_lt_mul_of_pos_right b (pp j)
  · rw [Nat.sub_add_comm a, Nat.pow_add]
    refine Nat.mul_le_mul_right _ ?_
    rcases c with c | c
    · rw [c]; exact hn
    · exact c
theorem figN_le {n k : Nat} (hk : 1 ≤ k) (hn : n < 10 ^ k) : figN n ≤ k := fig_le (figN_spec n).2.2 hn hk
theorem figN_ge {n : Nat} (hn : 0 < n) : 10 ^ (figN n - 1) ≤ n := by
  rcases (figN_spec n).2.2 with c | c
  · rw [c]; simp; omega
  · exact c
theorem rqN_pos {n p : Nat} (hp : 1 ≤ p) (h : 0 < figN n - p) : 0 < rqN n (10 ^ (figN n - p)) := by
  have h1 : 10 ^ (figN n - 1) ≤ n := by
    rcases (figN_spec n).2.2 with c | c
    · omega
    · exact c
  have h2 : 10 ^ (figN n - p) ≤ n := Nat.le_trans (Nat.pow_le_pow_right (by decide) (by omega)) h1
  have h3 : 0 < n / 10 ^ (figN n - p) := Nat.div_pos h2 (Nat.pow_pos (by decide))
  unfold rqN
  omega
theorem abs_mul (c : Int) (E : Nat) : (c * 10 ^ E).natAbs = c.natAbs * 10 ^ E := by
  rw [Int.natAbs_mul, ← cast_pow10, Int.natAbs_natCast]
theorem rnd_scale {n p : Nat} (hn : 0 < n) (E : Nat) (h : 0 < figN n - p) : rndN p (n * 10 ^ E) = rqN n (10 ^ (figN n - p)) * 10 ^ (figN n - p + E) := by
  unfold rndN
  rw [figN_scale hn]
  have e : figN n + E - p = figN n - p + E := by omega
  rw [e]
  congr 1
  rw [Nat.pow_add, rqN_scale (Nat.pow_pos (by decide))]
theorem sm_pow {n E m k : Nat} (h : n * 10 ^ E ≤ 10 ^ k) (hn : 10 ^ m ≤ n) : m + E ≤ k := by
  refine (Nat.pow_le_pow_iff_right (a := 10) (by decide)).mp (Nat.le_trans ?_ h)
  rw [Nat.pow_add]
  exact Nat.mul_le_mul_right _ hn
section
variable {c e d s x : Int}
theorem inr_nat (hc : InR c) : c.natAbs < 10 ^ 90 := by unfold InR at hc; omega
theorem T_made_more (hc : InR c) (hd : 1 ≤ d ∧ d ≤ 5) : figs (if c < 0 then -c else c) - d ≤ 100 := by
  rw [abs_if, figs_nat]
  have := figN_le (by decide) (inr_nat hc)
  omega
theorem T_made_in (hc : InR c) : (0 ≤ if c < 0 then -c else c) ∧ (if c < 0 then -c else c) < 10 ^ 100 := by
  rw [abs_if]
  have := inr_nat hc
  omega
theorem zero_le {d : Int} (h : 1 ≤ d ∧ d ≤ 5) : 0 ≤ d := Int.le_trans (by decide) h.1
theorem neg2 {e : Int} (h : -2 ≤ e) : 0 ≤ e + 2 := by omega
theorem more_nat {n : Nat} {d : Int} (hd : 1 ≤ d ∧ d ≤ 5) : ((figN n : Int) - d).toNat = figN n - d.toNat := by
  obtain ⟨k, rfl⟩ := Int.eq_ofNat_of_zero_le (zero_le hd)
  exact Int.toNat_sub _ _
theorem more_nat' {f : Nat} {d : Int} (hd : 1 ≤ d ∧ d ≤ 5) : ((f : Int) - d).toNat = f - d.toNat := by
  obtain ⟨k, rfl⟩ := Int.eq_ofNat_of_zero_le (zero_le hd)
  exact Int.toNat_sub _ _
theorem more_pos {f : Nat} {d : Int} (h : 0 < (f : Int) - d) (hd : 1 ≤ d ∧ d ≤ 5) : 0 < f - d.toNat := by omega
theorem T_made_rq (hd : 1 ≤ d ∧ d ≤ 5) (h1 : 0 < figs (if c < 0 then -c else c) - d) : 0 < rq (if c < 0 then -c else c) (10 ^ (figs (if c < 0 then -c else c) - d).toNat) := by
  rw [abs_if] at h1 ⊢
  rw [figs_nat] at h1 ⊢
  rw [← cast_pow10, rq_nat, more_nat hd]
  exact Int.natCast_pos.mpr (rqN_pos (toNat1 hd) (more_pos h1 hd))
theorem ms1 {e f : Int} (hf : 1 ≤ f) (he : -2 ≤ e) (hs : f - 1 + (e + 2) ≤ 60) : e + f ≤ 64 ∧ -1 ≤ e + f := by omega
theorem ms_nat {f : Nat} {e : Int} (he : -2 ≤ e) (hf : 1 ≤ f) (hs : f - 1 + (e + 2).toNat ≤ 60) : (f : Int) - 1 + (e + 2) ≤ 60 := by omega
theorem ms_small {n : Nat} (h : n < 10 ^ 90) : (n : Int) < 10 ^ 100 := by omega
theorem ms_le {f : Nat} {d : Int} (h : (f : Int) - d ≤ 0) : f ≤ d.toNat := by omega
theorem T_made_start1 (hc : InR c) (he : -2 ≤ e ∧ e ≤ 80) (hd : 1 ≤ d ∧ d ≤ 5) (hV : Sm (c * 10 ^ (e + 2).toNat))
    (h1 : figs (if c < 0 then -c else c) - d ≤ 0) (h2 : (if c < 0 then -c else c) ≠ 0) : MP c e d (if c < 0 then -c else c) e ∧ (0 < if c < 0 then -c else c) ∧ (if c < 0 then -c else c) < 10 ^ 100 ∧ -2 ≤ e ∧ e + figs (if c < 0 then -c else c) ≤ 64 ∧ -1 ≤ e + figs (if c < 0 then -c else c) := by
  rw [abs_if] at h1 h2 ⊢
  rw [figs_nat] at h1 ⊢
  have hn : 0 < c.natAbs := Nat.pos_of_ne_zero fun q => h2 (by rw [q]; rfl)
  have hf := (figN_spec c.natAbs).1
  unfold Sm at hV
  rw [abs_mul] at hV
  have hs := ms1 (Int.ofNat_le.mpr hf) he.1 (ms_nat he.1 hf (sm_pow hV (figN_ge hn)))
  refine ⟨?_, Int.natCast_pos.mpr hn, ms_small (inr_nat hc), he.1, hs.1, hs.2⟩
  unfold MP
  have hrep : R d.toNat (c * 10 ^ (e + 2).toNat) = c * 10 ^ (e + 2).toNat := by
    refine R_of_rep (toNat1 hd) ⟨(e + 2).toNat, ⟨c, by rw [cast_pow10, Int.mul_comm]⟩, ?_⟩
    rw [abs_mul, Nat.pow_add]
    exact Nat.mul_le_mul_right _ (Nat.le_of_lt (Nat.lt_of_lt_of_le (figN_spec c.natAbs).2.1 (pw_le (ms_le h1))))
  rw [hrep, abs_mul, Int.natCast_mul, cast_pow10]
theorem ms2 {e f g d : Int} (hg : 1 ≤ g) (he : -2 ≤ e) (h1 : 0 < f - d) (hs : g - 1 + (f - d + (e + 2)) ≤ 60) : -2 ≤ e + (f - d) ∧ e + (f - d) + g ≤ 64 ∧ -1 ≤ e + (f - d) + g := by omega
theorem ms2_nat {f g : Nat} {e d : Int} (he : -2 ≤ e) (hd : 1 ≤ d ∧ d ≤ 5) (h1 : 0 < (f : Int) - d) (hg : 1 ≤ g) (hs : g - 1 + (f - d.toNat + (e + 2).toNat) ≤ 60) : (g : Int) - 1 + ((f : Int) - d + (e + 2)) ≤ 60 := by omega
theorem ms2_e {f : Nat} {e d : Int} (he : -2 ≤ e) (hd : 1 ≤ d ∧ d ≤ 5) (h1 : 0 < (f : Int) - d) : (e + ((f : Int) - d) + 2).toNat = f - d.toNat + (e + 2).toNat := by
  rw [Int.add_comm e, Int.add_assoc, Int.toNat_add (Int.le_of_lt h1) (neg2 he), more_nat' hd]
theorem ms2_small {n : Nat} (h : n ≤ 10 ^ 60) : (n : Int) < 10 ^ 100 := by omega
theorem pos_of_fig {n : Nat} {d : Int} (hd : 1 ≤ d ∧ d ≤ 5) (h1 : 0 < (figN n : Int) - d) : 0 < n := by
  rcases Nat.eq_zero_or_pos n with q | q
  · have : figN 0 = 1 := figN_eq 0 1 (by decide) (by decide) (Or.inl rfl)
    rw [q, this] at h1; omega
  · exact q
theorem T_made_start2 (he : -2 ≤ e ∧ e ≤ 80) (hd : 1 ≤ d ∧ d ≤ 5) (hV : Sm (c * 10 ^ (e + 2).toNat))
    (h1 : 0 < figs (if c < 0 then -c else c) - d) : MP c e d (rq (if c < 0 then -c else c) (10 ^ (figs (if c < 0 then -c else c) - d).toNat)) (e + (figs (if c < 0 then -c else c) - d)) ∧
    0 < rq (if c < 0 then -c else c) (10 ^ (figs (if c < 0 then -c else c) - d).toNat) ∧ rq (if c < 0 then -c else c) (10 ^ (figs (if c < 0 then -c else c) - d).toNat) < 10 ^ 100 ∧ -2 ≤ e + (figs (if c < 0 then -c else c) - d) ∧ e + (figs (if c < 0 then -c else c) - d) + figs (rq (if c < 0 then -c else c) (10 ^ (figs (if c < 0 then -c else c) - d).toNat)) ≤ 64 ∧ -1 ≤ e + (figs (if c < 0 then -c else c) - d) + figs (rq (if c < 0 then -c else c) (10 ^ (figs (if c < 0 then -c else c) - d).toNat)) := by
  rw [abs_if] at h1 ⊢
  rw [figs_nat] at h1 ⊢
  rw [more_nat hd, ← cast_pow10, rq_nat, figs_nat]
  have hn := pos_of_fig hd h1
  have hq := rqN_pos (toNat1 hd) (more_pos h1 hd)
  have hsc := rnd_scale hn (e + 2).toNat (more_pos h1 hd)
  have hsz := R_bound (toNat1 hd) hV
  rw [R_abs, abs_mul, hsc] at hsz
  have hf := (figN_spec (rqN c.natAbs (10 ^ (figN c.natAbs - d.toNat)))).1
  have hs := ms2 (Int.ofNat_le.mpr hf) he.1 h1 (ms2_nat he.1 hd h1 hf (sm_pow hsz (figN_ge hq)))
  have hlt := ms2_small (Nat.le_trans (Nat.le_mul_of_pos_right _ (pp (figN c.natAbs - d.toNat + (e + 2).toNat))) hsz)
  refine ⟨?_, Int.natCast_pos.mpr hq, hlt, hs⟩
  unfold MP
  rw [R_abs, abs_mul, hsc, ms2_e he.1 hd h1, Int.natCast_mul, cast_pow10]
theorem fdiv10 (s : Int) : s.fdiv 10 = s / 10 := Int.fdiv_eq_ediv_of_nonneg s (by decide)
theorem fmod10 (s : Int) : s.fmod 10 = s % 10 := Int.fmod_eq_emod_of_nonneg s (by decide)
theorem mst {f x : Int} (hf : x + (f + 1) ≤ 64) (hx : -2 ≤ x) (h1 : 1 ≤ f) : -2 ≤ x + 1 ∧ x + 1 + f ≤ 64 ∧ -1 ≤ x + 1 + f := by omega
theorem mst_s {t : Nat} (h0 : 0 < (t : Int) * 10) (hs : (t : Int) * 10 < 10 ^ 100) : 0 < t ∧ (t : Int) < 10 ^ 100 := by omega
theorem mst_e {x : Int} (hx : -2 ≤ x) : (x + 1 + 2).toNat = (x + 2).toNat + 1 := by
  rw [Int.add_right_comm]
  exact Int.toNat_add_nat (neg2 hx) 1
theorem mst_t {s : Int} (h0 : 0 < s) (ht : s % 10 = 0) : s = ((s / 10).toNat : Int) * 10 := by omega
theorem mst_f {t : Nat} (h : 0 < t) : figs ((t : Int) * 10) = figs (t : Int) + 1 := by
  have e : (t : Int) * 10 = ((t * 10 ^ 1 : Nat) : Int) := rfl
  rw [e, figs_nat, figs_nat, figN_scale h]; rfl
theorem T_made_step (h : MP c e d s x) (h0 : 0 < s) (hs : s < 10 ^ 100) (hx : -2 ≤ x) (hf : x + figs s ≤ 64) (ht : s.fmod 10 = 0) : MP c e d (s.fdiv 10) (x + 1) ∧ 0 < s.fdiv 10 ∧ s.fdiv 10 < 10 ^ 100 ∧ -2 ≤ x + 1 ∧ x + 1 + figs (s.fdiv 10) ≤ 64 ∧ -1 ≤ x + 1 + figs (s.fdiv 10) := by
  rw [fdiv10]
  rw [fmod10] at ht
  obtain ⟨t, rfl⟩ : ∃ t : Nat, s = (t : Int) * 10 := ⟨_, mst_t h0 ht⟩
  rw [Int.mul_ediv_cancel _ (by decide)]
  obtain ⟨h2, h3⟩ := mst_s h0 hs
  rw [mst_f h2] at hf
  refine ⟨?_, Int.natCast_pos.mpr h2, h3, mst hf hx (figs_pos _)⟩
  unfold MP at h ⊢
  rw [← h, mst_e hx, Int.pow_succ, Int.mul_assoc, Int.mul_comm 10]
theorem T_made_less (h0 : 0 < s) : (s.fdiv 10).toNat < s.toNat := by
  rw [fdiv10]; omega
theorem T_made_zero (h : (if c < 0 then -c else c) = 0) : IsDec (R d.toNat (c * 10 ^ (e + 2).toNat)) 0 0 := by
  rw [abs_if] at h
  have : c = 0 := by omega
  subst this
  rw [Int.zero_mul]
  have z : R d.toNat 0 = 0 := R_of_dv (Dv.zero _)
  rw [z]
  exact ⟨by decide, by decide, by decide, by decide, by simp, fun _ => rfl, fun h => (h rfl).elim⟩
theorem made_sz {p : Nat} {s : Nat} {E : Nat} {V : Int} (hp : p ≤ 5) (hV : Rep p V) (h : s * 10 ^ E = V.natAbs) (ht : s % 10 ≠ 0) : s < 100000 := by
  obtain ⟨k, a, b⟩ := hV
  have a := a.to_nat
  rw [← h] at a b
  rcases Nat.lt_or_ge E k with q | q
  · exfalso
    obtain ⟨j, rfl⟩ : ∃ j, k = E + 1 + j := ⟨k - E - 1, by omega⟩
    have a2 : 10 ^ (E + 1) ∣ s * 10 ^ E := Nat.dvd_trans (Nat.pow_dvd_pow 10 (by omega)) a
    rw [Nat.pow_succ, Nat.mul_comm (10 ^ E)] at a2
    have := Nat.dvd_of_mul_dvd_mul_right (Nat.pow_pos (by decide)) a2
    omega
  · have b2 : s * 10 ^ E ≤ 10 ^ p * 10 ^ E := by
      refine Nat.le_trans b ?_
      rw [Nat.pow_add]
      exact Nat.mul_le_mul_left _ (Nat.pow_le_pow_right (by decide) q)
    have b3 := Nat.le_of_mul_le_mul_right b2 (Nat.pow_pos (by decide))
    have b4 : 10 ^ p ≤ 10 ^ 5 := Nat.pow_le_pow_right (by decide) hp
    have : s ≠ 100000 := fun q => ht (by subst q; decide)
    omega
theorem R_sign (p : Nat) (x : Int) : (x < 0 → R p x = -((R p x).natAbs : Int)) ∧ (¬ x < 0 → R p x = ((R p x).natAbs : Int)) := by
  unfold R
  constructor
  · intro h; rw [if_pos h]; omega
  · intro h; rw [if_neg h]; omega
theorem lt_nat {t : Nat} (h : t < 100000) : (t : Int) < 100000 := by omega
theorem mod_nat {t : Nat} (h : (t : Int) % 10 ≠ 0) : t % 10 ≠ 0 := by omega
theorem made_lt (hd : 1 ≤ d ∧ d ≤ 5) (h : MP c e d s x) (h0 : 0 < s) (ht : s.fmod 10 ≠ 0) : s < 100000 := by
  unfold MP at h
  rw [fmod10] at ht
  obtain ⟨t, rfl⟩ : ∃ t : Nat, s = (t : Int) := ⟨s.toNat, (Int.toNat_of_nonneg (Int.le_of_lt h0)).symm⟩
  rw [← cast_pow10, ← Int.natCast_mul] at h
  exact lt_nat (made_sz (toNat5 hd) (R_rep _ _) (Int.ofNat_inj.mp h) (mod_nat ht))
theorem dec_pos {s x f : Int} (hl : s < 100000) (h0 : 0 < s) (hf : x + f ≤ 64) (h1 : 1 ≤ f) (ht : s % 10 ≠ 0) : x ≤ 70 ∧ -100000 < s ∧ (s = 0 → x = 0) := by omega
theorem dec_neg {s x : Int} (hl : s < 100000) (h0 : 0 < s) (ht : s % 10 ≠ 0) : -100000 < -s ∧ -s < 100000 ∧ (-s = 0 → x = 0) ∧ -s % 10 ≠ 0 := by omega
theorem T_made_neg (hd : 1 ≤ d ∧ d ≤ 5) (h : MP c e d s x) (h0 : 0 < s) (hx : -2 ≤ x) (hf : x + figs s ≤ 64) (ht : s.fmod 10 ≠ 0) (hc : c < 0) : IsDec (R d.toNat (c * 10 ^ (e + 2).toNat)) (-s) x := by
  have hl := made_lt hd h h0 ht
  rw [fmod10] at ht
  obtain ⟨q1, q2, q3⟩ := dec_pos hl h0 hf (figs_pos s) ht
  obtain ⟨r1, r2, r3, r4⟩ := dec_neg (x := x) hl h0 ht
  have hneg : c * 10 ^ (e + 2).toNat < 0 := Int.mul_neg_of_neg_of_pos hc (pow10_pos _)
  refine ⟨hx, q1, r1, r2, ?_, r3, fun _ => r4⟩
  rw [(R_sign _ _).1 hneg]
  unfold MP at h
  rw [← h, Int.neg_mul]
theorem T_made_pos (hd : 1 ≤ d ∧ d ≤ 5) (h : MP c e d s x) (h0 : 0 < s) (hx : -2 ≤ x) (hf : x + figs s ≤ 64) (ht : s.fmod 10 ≠ 0) (hc : ¬ c < 0) : IsDec (R d.toNat (c * 10 ^ (e + 2).toNat)) s x := by
  have hl := made_lt hd h h0 ht
  rw [fmod10] at ht
  obtain ⟨q1, q2, q3⟩ := dec_pos hl h0 hf (figs_pos s) ht
  have hpos : ¬ c * 10 ^ (e + 2).toNat < 0 := Int.not_lt.mpr (Int.mul_nonneg (Int.not_lt.mp hc) (Int.le_of_lt (pow10_pos _)))
  refine ⟨hx, q1, q2, hl, ?_, q3, fun _ => ht⟩
  rw [(R_sign _ _).2 hpos]
  unfold MP at h
  rw [← h]
end
theorem dec_abs {V c e : Int} (h : IsDec V c e) : V.natAbs = c.natAbs * 10 ^ (e + 2).toNat := by rw [h.val, abs_mul]
theorem abs_le {c : Int} {A j K : Nat} (hc : c.natAbs ≤ 10 ^ A) (h : A + j ≤ K) : (c * 10 ^ j).natAbs ≤ 10 ^ K := by
  rw [abs_mul]
  refine Nat.le_trans (Nat.mul_le_mul_right _ hc) ?_
  rw [← Nat.pow_add]
  exact Nat.pow_le_pow_right (by decide) h
theorem sub_split {x m : Int} (hm : -2 ≤ m) (h : m ≤ x) : (x - m).toNat + (m + 2).toNat = (x + 2).toNat := by
  rw [← Int.toNat_add (Int.sub_nonneg_of_le h) (neg2 hm), ← Int.add_assoc, Int.sub_add_cancel]
theorem pow_split {x m : Int} (hm : -2 ≤ m) (h : m ≤ x) (c : Int) : c * 10 ^ (x - m).toNat * 10 ^ (m + 2).toNat = c * 10 ^ (x + 2).toNat := by
  rw [Int.mul_assoc, ← Int.pow_add, sub_split hm h]
theorem lst_spec {ea eb : Int} (h1 : -2 ≤ ea) (h2 : -2 ≤ eb) (h3 : ea ≤ 70) : ∃ m, (if eb < ea then eb else ea) = m ∧ m ≤ ea ∧ m ≤ eb ∧ -2 ≤ m ∧ m ≤ 80 := by
  refine ⟨_, rfl, ?_⟩
  split <;> omega
theorem abs5 {c : Int} (h1 : -100000 < c) (h2 : c < 100000) : c.natAbs ≤ 10 ^ 5 := by omega
theorem exp77 {x m : Int} (h : x ≤ 70) (h2 : -2 ≤ m) : 5 + (x - m).toNat ≤ 77 := by omega
theorem inr77 {A : Int} (h1 : A.natAbs ≤ 2 * 10 ^ 77) : InR A := by unfold InR; omega
theorem sm_sum {A B : Int} (h1 : Sm' A) (h2 : Sm' B) : Sm (A + B) := by
  have := nadd A B
  unfold Sm' at h1 h2
  unfold Sm
  omega
theorem T_add_facts {ca ea cb eb Va Vb : Int} (Ia : IsDec Va ca ea) (Ib : IsDec Vb cb eb) (hVa : Sm' Va) (hVb : Sm' Vb) :
    InR (ca * 10 ^ (ea - if eb < ea then eb else ea).toNat + cb * 10 ^ (eb - if eb < ea then eb else ea).toNat) ∧
    (-2 ≤ (if eb < ea then eb else ea) ∧ (if eb < ea then eb else ea) ≤ 80) ∧
    Sm ((ca * 10 ^ (ea - if eb < ea then eb else ea).toNat + cb * 10 ^ (eb - if eb < ea then eb else ea).toNat) * 10 ^ ((if eb < ea then eb else ea) + 2).toNat) ∧
    (ca * 10 ^ (ea - if eb < ea then eb else ea).toNat + cb * 10 ^ (eb - if eb < ea then eb else ea).toNat) * 10 ^ ((if eb < ea then eb else ea) + 2).toNat = Va + Vb := by
  obtain ⟨m, e, m1, m2, m3, m4⟩ := lst_spec Ia.elo Ib.elo Ia.ehi
  rw [e]
  have h1 : (ca * 10 ^ (ea - m).toNat).natAbs ≤ 10 ^ 77 := abs_le (abs5 Ia.lo Ia.hi) (exp77 Ia.ehi m3)
  have h2 : (cb * 10 ^ (eb - m).toNat).natAbs ≤ 10 ^ 77 := abs_le (abs5 Ib.lo Ib.hi) (exp77 Ib.ehi m3)
  have h3 : (ca * 10 ^ (ea - m).toNat + cb * 10 ^ (eb - m).toNat) * 10 ^ (m + 2).toNat = Va + Vb := by
    rw [Int.add_mul, pow_split m3 m1 ca, pow_split m3 m2 cb, ← Ia.val, ← Ib.val]
  refine ⟨inr77 (Nat.le_trans (nadd _ _) ?_), ⟨m3, m4⟩, ?_, h3⟩
  · rw [Nat.two_mul]
    exact Nat.add_le_add h1 h2
  · rw [h3]
    exact sm_sum hVa hVb
theorem T_neg_dec {V c e : Int} (h : IsDec V c e) : IsDec (-V) (0 - c) e := by
  obtain ⟨h1, h2, h3, h4, h5, h6, h7⟩ := h
  refine ⟨h1, h2, by omega, by omega, ?_, fun q => h6 (by omega), fun q => by have := h7 (by omega); omega⟩
  rw [h5, Int.zero_sub, Int.neg_mul]
theorem T_neg_sm {V : Int} (h : Sm' V) : Sm' (-V) := by
  unfold Sm' at h ⊢; omega
theorem T_whole_facts {n : Int} (h : -300 ≤ n ∧ n ≤ 300) : InR n ∧ Sm (n * 10 ^ ((0 : Int) + 2).toNat) ∧ n * 10 ^ ((0 : Int) + 2).toNat = n * 100 := by
  have e : n * 10 ^ ((0 : Int) + 2).toNat = n * 100 := rfl
  rw [e]
  exact ⟨by unfold InR; omega, by unfold Sm; omega, rfl⟩
theorem T_dec_facts {V c e : Int} (h : IsDec V c e) (hs : Sm' V) : InR c ∧ Sm (c * 10 ^ (e + 2).toNat) ∧ c * 10 ^ (e + 2).toNat = V := by
  rw [← h.val]
  have := h.lo
  have := h.hi
  exact ⟨by unfold InR; omega, by unfold Sm' at hs; unfold Sm; omega, rfl⟩
section
variable {c e d s x : Int}
abbrev ab (c : Int) : Int := if c < 0 then -c else c
theorem made_more (hc : InR c) (hd : 1 ≤ d ∧ d ≤ 5) : figs (if c < 0 then -c else c) - d ≤ 100 := T_made_more hc hd
theorem made_in (hc : InR c) : (0 ≤ if c < 0 then -c else c) ∧ (if c < 0 then -c else c) < 10 ^ 100 := T_made_in hc
theorem made_rq (hc : InR c) (hd : 1 ≤ d ∧ d ≤ 5) (h1 : 0 < figs (if c < 0 then -c else c) - d) : 0 < rq (if c < 0 then -c else c) (10 ^ (figs (if c < 0 then -c else c) - d).toNat) := T_made_rq hd h1
theorem made_start1 (hc : InR c) (he : -2 ≤ e ∧ e ≤ 80) (hd : 1 ≤ d ∧ d ≤ 5) (hV : Sm (c * 10 ^ (e + 2).toNat))
    (h1 : figs (if c < 0 then -c else c) - d ≤ 0) (h2 : (if c < 0 then -c else c) ≠ 0) : MP c e d (if c < 0 then -c else c) e ∧ (0 < if c < 0 then -c else c) ∧ (if c < 0 then -c else c) < 10 ^ 100 ∧ -2 ≤ e ∧ e + figs (if c < 0 then -c else c) ≤ 64 ∧ -1 ≤ e + figs (if c < 0 then -c else c) := T_made_start1 hc he hd hV h1 h2
theorem made_start2 (hc : InR c) (he : -2 ≤ e ∧ e ≤ 80) (hd : 1 ≤ d ∧ d ≤ 5) (hV : Sm (c * 10 ^ (e + 2).toNat))
    (h1 : 0 < figs (if c < 0 then -c else c) - d) : MP c e d (rq (if c < 0 then -c else c) (10 ^ (figs (if c < 0 then -c else c) - d).toNat)) (e + (figs (if c < 0 then -c else c) - d)) ∧
    0 < rq (if c < 0 then -c else c) (10 ^ (figs (if c < 0 then -c else c) - d).toNat) ∧ rq (if c < 0 then -c else c) (10 ^ (figs (if c < 0 then -c else c) - d).toNat) < 10 ^ 100 ∧ -2 ≤ e + (figs (if c < 0 then -c else c) - d) ∧ e + (figs (if c < 0 then -c else c) - d) + figs (rq (if c < 0 then -c else c) (10 ^ (figs (if c < 0 then -c else c) - d).toNat)) ≤ 64 ∧ -1 ≤ e + (figs (if c < 0 then -c else c) - d) + figs (rq (if c < 0 then -c else c) (10 ^ (figs (if c < 0 then -c else c) - d).toNat)) := T_made_start2 he hd hV h1
theorem made_step (h : MP c e d s x) (h0 : 0 < s) (hs : s < 10 ^ 100) (hx : -2 ≤ x) (hf : x + figs s ≤ 64) (ht : s.fmod 10 = 0) : MP c e d (s.fdiv 10) (x + 1) ∧ 0 < s.fdiv 10 ∧ s.fdiv 10 < 10 ^ 100 ∧ -2 ≤ x + 1 ∧ x + 1 + figs (s.fdiv 10) ≤ 64 ∧ -1 ≤ x + 1 + figs (s.fdiv 10) := T_made_step h h0 hs hx hf ht
theorem made_less (h0 : 0 < s) : (s.fdiv 10).toNat < s.toNat := T_made_less h0
theorem made_zero (h : (if c < 0 then -c else c) = 0) : IsDec (R d.toNat (c * 10 ^ (e + 2).toNat)) 0 0 := T_made_zero h
theorem made_neg (hd : 1 ≤ d ∧ d ≤ 5) (h : MP c e d s x) (h0 : 0 < s) (hx : -2 ≤ x) (hf : x + figs s ≤ 64) (ht : s.fmod 10 ≠ 0) (hc : c < 0) : IsDec (R d.toNat (c * 10 ^ (e + 2).toNat)) (-s) x := T_made_neg hd h h0 hx hf ht hc
theorem made_pos (hd : 1 ≤ d ∧ d ≤ 5) (h : MP c e d s x) (h0 : 0 < s) (hx : -2 ≤ x) (hf : x + figs s ≤ 64) (ht : s.fmod 10 ≠ 0) (hc : ¬ c < 0) : IsDec (R d.toNat (c * 10 ^ (e + 2).toNat)) s x := T_made_pos hd h h0 hx hf ht hc
end
/-- d_add's reckoning -/
abbrev lst (ea eb : Int) : Int := if eb < ea then eb else ea
theorem add_facts {ca ea cb eb Va Vb : Int} (Ia : IsDec Va ca ea) (Ib : IsDec Vb cb eb) (hVa : Sm' Va) (hVb : Sm' Vb) :
    InR (ca * 10 ^ (ea - if eb < ea then eb else ea).toNat + cb * 10 ^ (eb - if eb < ea then eb else ea).toNat) ∧
    (-2 ≤ (if eb < ea then eb else ea) ∧ (if eb < ea then eb else ea) ≤ 80) ∧
    Sm ((ca * 10 ^ (ea - if eb < ea then eb else ea).toNat + cb * 10 ^ (eb - if eb < ea then eb else ea).toNat) * 10 ^ ((if eb < ea then eb else ea) + 2).toNat) ∧
    (ca * 10 ^ (ea - if eb < ea then eb else ea).toNat + cb * 10 ^ (eb - if eb < ea then eb else ea).toNat) * 10 ^ ((if eb < ea then eb else ea) + 2).toNat = Va + Vb := T_add_facts Ia Ib hVa hVb
inductive Num where
  | whole (n : Int)
  | dec (V : Int)
def Num.val : Num → Int
  | .whole n => n * 100
  | .dec V => V
def Num.isDec : Num → Prop
  | .whole _ => False
  | .dec _ => True
/-- kept by so many figures, and not too large -/
def Ok (d : Int) (x : Num) : Prop := R d.toNat x.val = x.val ∧ Sm' x.val
def settle (d n : Int) : Num := if -128 ≤ n ∧ n ≤ 127 then .whole n else .dec (R d.toNat (n * 100))
def plusN (d : Int) : Num → Num → Num
  | .whole n, .whole m => settle d (n + m)
  | x, y => .dec (R d.toNat (x.val + y.val))
def lessN (d : Int) : Num → Num → Num
  | .whole n, .whole m => settle d (n - m)
  | x, y => .dec (R d.toNat (x.val - y.val))
theorem neg_dec {V c e : Int} (h : IsDec V c e) : IsDec (-V) (0 - c) e := T_neg_dec h
theorem neg_sm {V : Int} (h : Sm' V) : Sm' (-V) := T_neg_sm h
theorem whole_facts {n : Int} (h : -300 ≤ n ∧ n ≤ 300) : InR n ∧ Sm (n * 10 ^ ((0 : Int) + 2).toNat) ∧ n * 10 ^ ((0 : Int) + 2).toNat = n * 100 := T_whole_facts h
theorem dec_facts {V c e : Int} (h : IsDec V c e) (hs : Sm' V) : InR c ∧ Sm (c * 10 ^ (e + 2).toNat) ∧ c * 10 ^ (e + 2).toNat = V := T_dec_facts h hs
theorem dec_of_whole {d n c e : Int} (hX : Ok d (.whole n)) (f3 : n * 10 ^ ((0 : Int) + 2).toNat = n * 100) (h : IsDec (R d.toNat (n * 10 ^ ((0 : Int) + 2).toNat)) c e) : IsDec (Num.whole n).val c e := by
  rw [f3] at h
  have := hX.1
  rw [Num.val] at this ⊢
  rw [this] at h
  exact h
theorem dec_of_dec {d V c e c' e' : Int} (hX : Ok d (.dec V)) (f3 : c * 10 ^ (e + 2).toNat = V) (h : IsDec (R d.toNat (c * 10 ^ (e + 2).toNat)) c' e') : IsDec (Num.dec V).val c' e' := by
  rw [f3] at h
  have := hX.1
  rw [Num.val] at this ⊢
  rw [this] at h
  exact h
theorem set_whole {d n : Int} (h : -128 ≤ n ∧ n < 128) : settle d n = .whole n := by
  unfold settle; rw [if_pos ⟨h.1, by omega⟩]
theorem set_dec {d n : Int} (h : ¬ (-128 ≤ n ∧ n < 128)) : settle d n = .dec (R d.toNat (n * 100)) := by
  unfold settle; rw [if_neg (fun q => h ⟨q.1, by omega⟩)]
theorem e18 {e : Int} (h : -2 ≤ e) : (e + 20).toNat = (e + 2).toNat + 18 := by
  rw [show e + 20 = e + 2 + (18 : Nat) from (Int.add_assoc e 2 18).symm]
  exact Int.toNat_add_nat (neg2 h) 18
theorem T_exact_dec {V c e : Int} (h : IsDec V c e) : c * 10 ^ (e + 20).toNat = (Num.dec V).val * 10 ^ 18 := by
  rw [Num.val, h.val, Int.mul_assoc, ← Int.pow_add, e18 h.elo]
theorem exact_whole {n : Int} : n * 100000000000000000000 = (Num.whole n).val * 10 ^ 18 := by
  rw [Num.val]; omega
theorem exact_dec {V c e : Int} (h : IsDec V c e) : c * 10 ^ (e + 20).toNat = (Num.dec V).val * 10 ^ 18 := T_exact_dec h
theorem set_P {d n c e : Int} (f3 : n * 10 ^ ((0 : Int) + 2).toNat = n * 100) (h : IsDec (R d.toNat (n * 10 ^ ((0 : Int) + 2).toNat)) c e) : IsDec (R d.toNat (n * 100)) c e := by
  rw [f3] at h; exact h
theorem e128 : (1 : Int) * 2 ^ ((8 : Int) - 1).toNat = 128 := by decide
theorem fits_yes {n : Int} (h1 : -(1 * 2 ^ ((8 : Int) - 1).toNat) ≤ n) (h2 : n < 1 * 2 ^ ((8 : Int) - 1).toNat) : -128 ≤ n ∧ n < 128 := by
  rw [e128] at h1 h2; exact ⟨h1, h2⟩
theorem fits_yes' {n : Int} (h1 : -(1 * 2 ^ ((8 : Int) - 1).toNat) ≤ n) (h2 : n < 1 * 2 ^ ((8 : Int) - 1).toNat) : -128 ≤ n ∧ n ≤ 127 := by
  rw [e128] at h1 h2; omega
theorem fits_no1 {n : Int} (h1 : ¬ -(1 * 2 ^ ((8 : Int) - 1).toNat) ≤ n) : ¬ (-128 ≤ n ∧ n < 128) := by
  rw [e128] at h1; omega
theorem fits_no2 {n : Int} (h1 : ¬ n < 1 * 2 ^ ((8 : Int) - 1).toNat) : ¬ (-128 ≤ n ∧ n < 128) := by
  rw [e128] at h1; omega
abbrev pS (d : Int) (X Y : Num) : Num := plusN d X Y
abbrev pU (d : Int) (X Y : Num) : Num := lessN d (pS d X Y) Y
abbrev pV (d : Int) (X Y : Num) : Num := lessN d (pS d X Y) (pU d X Y)
abbrev pE (d : Int) (X Y : Num) : Num := plusN d (lessN d X (pU d X Y)) (lessN d Y (pV d X Y))
/-- a number of the law's: kept, at most 10 ^ k hundredths, a whole one only where three figures are kept -/
structure Okk (d : Int) (k : Nat) (x : Num) : Prop where
  fix : R d.toNat x.val = x.val
  sm : x.val.natAbs ≤ 10 ^ k
  wh : ∀ n, x = .whole n → 3 ≤ d ∧ -128 ≤ n ∧ n ≤ 127
theorem isDec_plus {d : Int} {X Y : Num} (hX : X.isDec) : (plusN d X Y).isDec := by
  cases X with
  | whole n => exact hX.elim
  | dec V => cases Y <;> exact trivial
theorem isDec_less {d : Int} {X Y : Num} (hX : X.isDec) : (lessN d X Y).isDec := by
  cases X with
  | whole n => exact hX.elim
  | dec V => cases Y <;> exact trivial
/-! numbers of both kinds -/
structure Gn (d : Int) (x : Num) : Prop where
  fix : R d.toNat x.val = x.val
  wh : ∀ n, x = .whole n → 3 ≤ d ∧ -128 ≤ n ∧ n ≤ 127
theorem Okk.gn {d : Int} {k : Nat} {x : Num} (h : Okk d k x) : Gn d x := ⟨h.fix, h.wh⟩
theorem Gn.dec {d V : Int} (hd : 1 ≤ d ∧ d ≤ 5) : Gn d (.dec (R d.toNat V)) := ⟨R_of_rep (toNat1 hd) (R_rep _ _), fun _ h => nomatch h⟩
theorem whole_rep {d n : Int} (hd : 3 ≤ d) (hn : -300 ≤ n ∧ n ≤ 300) : R d.toNat (n * 100) = n * 100 := by
  refine R_of_rep (by omega) ⟨2, ⟨n, Int.mul_comm _ _⟩, ?_⟩
  have : 10 ^ 5 ≤ 10 ^ (d.toNat + 2) := Nat.pow_le_pow_right (by decide) (by omega)
  omega
theorem settle_gn {d n : Int} (hd : 3 ≤ d ∧ d ≤ 5) (hn : -300 ≤ n ∧ n ≤ 300) : Gn d (settle d n) ∧ (settle d n).val = R d.toNat (n * 100) := by
  have e := whole_rep (d := d) hd.1 hn
  unfold settle
  split
  · refine ⟨⟨e, fun m hm => ?_⟩, e.symm⟩
    cases hm
    omega
  · exact ⟨Gn.dec (by omega), rfl⟩
theorem plus_gn {d : Int} {X Y : Num} (hX : Gn d X) (hY : Gn d Y) (hd : 1 ≤ d ∧ d ≤ 5) : Gn d (plusN d X Y) ∧ (plusN d X Y).val = R d.toNat (X.val + Y.val) := by
  cases X with
  | whole n =>
    cases Y with
    | whole m =>
      have a := hX.wh n rfl
      have b := hY.wh m rfl
      have := settle_gn (d := d) (n := n + m) (by omega) (by omega)
      rw [show (n + m) * 100 = n * 100 + m * 100 from Int.add_mul _ _ _] at this
      exact this
    | dec V => exact ⟨Gn.dec hd, rfl⟩
  | dec V => cases Y <;> exact ⟨Gn.dec hd, rfl⟩
theorem less_gn {d : Int} {X Y : Num} (hX : Gn d X) (hY : Gn d Y) (hd : 1 ≤ d ∧ d ≤ 5) : Gn d (lessN d X Y) ∧ (lessN d X Y).val = R d.toNat (X.val - Y.val) := by
  cases X with
  | whole n =>
    cases Y with
    | whole m =>
      have a := hX.wh n rfl
      have b := hY.wh m rfl
      have := settle_gn (d := d) (n := n - m) (by omega) (by omega)
      rw [show (n - m) * 100 = n * 100 - m * 100 from Int.sub_mul _ _ _] at this
      exact this
    | dec V => exact ⟨Gn.dec hd, rfl⟩
  | dec V => cases Y <;> exact ⟨Gn.dec hd, rfl⟩
theorem plus_comm (d : Int) (X Y : Num) : plusN d X Y = plusN d Y X := by
  cases X <;> cases Y <;> simp only [plusN, Int.add_comm]
theorem R_two {p : Nat} (hp : 1 ≤ p) (x : Int) : (R p x).natAbs ≤ 2 * x.natAbs := by
  have h := R_near (x := x) hp (Rep.zero p)
  have h2 := nadd (R p x - x) x
  rw [Int.sub_add_cancel] at h2
  rw [Int.zero_sub, Int.natAbs_neg] at h
  omega
structure Parted (d : Int) (X Y : Num) : Prop where
  gs : Gn d (pS d X Y)
  gu : Gn d (pU d X Y)
  gv : Gn d (pV d X Y)
  g1 : Gn d (lessN d X (pU d X Y))
  g2 : Gn d (lessN d Y (pV d X Y))
  ge : Gn d (pE d X Y)
  vs : (pS d X Y).val = R d.toNat (X.val + Y.val)
  vu : (pU d X Y).val = R d.toNat ((pS d X Y).val - Y.val)
  vv : (pV d X Y).val = R d.toNat ((pS d X Y).val - (pU d X Y).val)
  v1 : (lessN d X (pU d X Y)).val = R d.toNat (X.val - (pU d X Y).val)
  v2 : (lessN d Y (pV d X Y)).val = R d.toNat (Y.val - (pV d X Y).val)
  ve : (pE d X Y).val = R d.toNat ((lessN d X (pU d X Y)).val + (lessN d Y (pV d X Y)).val)
theorem parted_all {d : Int} {X Y : Num} (hX : Gn d X) (hY : Gn d Y) (hd : 1 ≤ d ∧ d ≤ 5) : Parted d X Y := by
  have s := plus_gn hX hY hd
  have u := less_gn s.1 hY hd
  have v := less_gn s.1 u.1 hd
  have e1 := less_gn hX u.1 hd
  have e2 := less_gn hY v.1 hd
  have e := plus_gn e1.1 e2.1 hd
  exact ⟨s.1, u.1, v.1, e1.1, e2.1, e.1, s.2, u.2, v.2, e1.2, e2.2, e.2⟩
theorem R_add_le {p : Nat} (hp : 1 ≤ p) {x y v : Int} {A B C : Nat} (e : v = R p (x + y)) (hx : x.natAbs ≤ A) (hy : y.natAbs ≤ B) (hC : 2 * (A + B) ≤ C) : v.natAbs ≤ C := by
  subst e
  exact Nat.le_trans (R_two hp (x + y)) (Nat.le_trans (Nat.mul_le_mul_left 2 (Nat.le_trans (nadd x y) (Nat.add_le_add hx hy))) hC)
theorem R_sub_le {p : Nat} (hp : 1 ≤ p) {x y v : Int} {A B C : Nat} (e : v = R p (x - y)) (hx : x.natAbs ≤ A) (hy : y.natAbs ≤ B) (hC : 2 * (A + B) ≤ C) : v.natAbs ≤ C := by
  subst e
  exact Nat.le_trans (R_two hp (x - y)) (Nat.le_trans (Nat.mul_le_mul_left 2 (Nat.le_trans (nsub x y) (Nat.add_le_add hx hy))) hC)
theorem le6 (a b c B : Nat) (h : 2 * (a + b) ≤ c) : 2 * (a * B + b * B) ≤ c * B := by
  rw [← Nat.add_mul, ← Nat.mul_assoc]
  exact Nat.mul_le_mul_right _ h
theorem le60 (b c B : Nat) (h : 2 * (1 + b) ≤ c) : 2 * (B + b * B) ≤ c * B := by
  have := le6 1 b c B h
  rwa [Nat.one_mul] at this
theorem le61 (a c B : Nat) (h : 2 * (a + 1) ≤ c) : 2 * (a * B + B) ≤ c * B := by
  have := le6 a 1 c B h
  rwa [Nat.one_mul] at this
theorem le6' (B : Nat) : 2 * (B + B) ≤ 4 * B := by
  have := le60 1 4 B (by decide)
  rwa [Nat.one_mul] at this
theorem parted_size {d : Int} {X Y : Num} (hX : Gn d X) (hY : Gn d Y) (hd : 1 ≤ d ∧ d ≤ 5) {B : Nat} (bX : X.val.natAbs ≤ B) (bY : Y.val.natAbs ≤ B) :
    (pS d X Y).val.natAbs ≤ 4 * B ∧ (pU d X Y).val.natAbs ≤ 10 * B ∧ (pV d X Y).val.natAbs ≤ 28 * B ∧ (lessN d X (pU d X Y)).val.natAbs ≤ 22 * B ∧ (lessN d Y (pV d X Y)).val.natAbs ≤ 58 * B ∧ (pE d X Y).val.natAbs ≤ 160 * B := by
  have P := parted_all hX hY hd
  have hp := toNat1 hd
  have b1 := R_add_le hp P.vs bX bY (le6' B)
  have b2 := R_sub_le hp P.vu b1 bY (le61 4 10 B (by decide))
  have b3 := R_sub_le hp P.vv b1 b2 (le6 4 10 28 B (by decide))
  have b4 := R_sub_le hp P.v1 bX b2 (le60 10 22 B (by decide))
  have b5 := R_sub_le hp P.v2 bY b3 (le60 28 58 B (by decide))
  exact ⟨b1, b2, b3, b4, b5, R_add_le hp P.ve b4 b5 (le6 22 58 160 B (by decide))⟩
theorem pow_k {k : Nat} (hk : k ≤ 50) : 10 ^ k ≤ 10 ^ 50 := Nat.pow_le_pow_right (by decide) hk
theorem sm_of {v : Int} {m B : Nat} (h : v.natAbs ≤ m * B) (hm : m ≤ 200) (hB : B ≤ 10 ^ 50) : Sm' v :=
  Nat.le_trans h (Nat.le_trans (Nat.mul_le_mul hm hB) (by decide))
theorem sm_of1 {v : Int} {B : Nat} (h : v.natAbs ≤ B) (hB : B ≤ 10 ^ 50) : Sm' v := Nat.le_trans h (Nat.le_trans hB (by decide))
theorem T_parted_facts {d : Int} {k : Nat} {X Y : Num} (hX : Okk d k X) (hY : Okk d k Y) (hk : k ≤ 50) (hd : 1 ≤ d ∧ d ≤ 5) :
    Ok d X ∧ Ok d Y ∧ Ok d (pS d X Y) ∧ Ok d (pU d X Y) ∧ Ok d (pV d X Y) ∧ Ok d (lessN d X (pU d X Y)) ∧ Ok d (lessN d Y (pV d X Y)) := by
  have P := parted_all hX.gn hY.gn hd
  obtain ⟨b1, b2, b3, b4, b5, b6⟩ := parted_size hX.gn hY.gn hd hX.sm hY.sm
  have h := pow_k hk
  exact ⟨⟨hX.fix, sm_of1 hX.sm h⟩, ⟨hY.fix, sm_of1 hY.sm h⟩, ⟨P.gs.fix, sm_of b1 (by decide) h⟩, ⟨P.gu.fix, sm_of b2 (by decide) h⟩, ⟨P.gv.fix, sm_of b3 (by decide) h⟩, ⟨P.g1.fix, sm_of b4 (by decide) h⟩, ⟨P.g2.fix, sm_of b5 (by decide) h⟩⟩
theorem T_parted_okk {d : Int} {k : Nat} {X Y : Num} (hX : Okk d k X) (hY : Okk d k Y) (hd : 1 ≤ d ∧ d ≤ 5) : Okk d (k + 1) (pS d X Y) ∧ Okk d (k + 10) (pE d X Y) := by
  have P := parted_all hX.gn hY.gn hd
  obtain ⟨b1, b2, b3, b4, b5, b6⟩ := parted_size hX.gn hY.gn hd hX.sm hY.sm
  have h1 : 4 * 10 ^ k ≤ 10 ^ (k + 1) := by rw [Nat.pow_succ, Nat.mul_comm]; exact Nat.mul_le_mul_left _ (by decide)
  have h2 : 160 * 10 ^ k ≤ 10 ^ (k + 10) := by rw [Nat.pow_add, Nat.mul_comm]; exact Nat.mul_le_mul_left _ (by decide)
  exact ⟨⟨P.gs.fix, Nat.le_trans b1 h1, P.gs.wh⟩, ⟨P.ge.fix, Nat.le_trans b6 h2, P.ge.wh⟩⟩
theorem T_parted_sum {d : Int} {k : Nat} {X Y : Num} (hX : Okk d k X) (hY : Okk d k Y) (hd : 1 ≤ d ∧ d ≤ 5) : (pS d X Y).val + (pE d X Y).val = X.val + Y.val := by
  have P := parted_all hX.gn hY.gn hd
  rw [P.ve, P.v1, P.v2, P.vv, P.vu, P.vs]
  exact two_sum (toNat1 hd) (rep_of_R hX.fix) (rep_of_R hY.fix)
theorem eq_of_kind {X Y : Num} (hv : X.val = Y.val) (hk : X.isDec ↔ Y.isDec) : X = Y := by
  cases X <;> cases Y
  · simp only [Num.val] at hv; congr 1; omega
  · exact (hk.mpr trivial).elim
  · exact (hk.mp trivial).elim
  · simp only [Num.val] at hv; congr 1
theorem kind_dec {d : Int} {X Y : Num} (h : (pS d X Y).isDec) : (pE d X Y).isDec := by
  have hu : (pU d X Y).isDec := isDec_less h
  have : (lessN d X (pU d X Y)).isDec := by
    revert hu
    generalize pU d X Y = U
    intro hu
    cases U with
    | whole n => exact hu.elim
    | dec V => cases X <;> exact trivial
  exact isDec_plus this
theorem kind_whole {d : Int} {X Y : Num} (h : ¬ (pS d X Y).isDec) (hX : Gn d X) (hY : Gn d Y) : ¬ (pE d X Y).isDec := by
  cases X with
  | dec V => exact (h (isDec_plus trivial)).elim
  | whole n =>
    cases Y with
    | dec V => exact (h trivial).elim
    | whole m =>
      have a := hX.wh n rfl
      have b := hY.wh m rfl
      have hs : pS d (.whole n) (.whole m) = .whole (n + m) := by
        revert h
        show ¬ (settle d (n + m)).isDec → settle d (n + m) = .whole (n + m)
        unfold settle
        split
        · intro _; rfl
        · intro q; exact (q trivial).elim
      have hu : pU d (.whole n) (.whole m) = .whole n := by
        show lessN d (pS d (.whole n) (.whole m)) (.whole m) = _
        rw [hs]
        show settle d (n + m - m) = _
        rw [Int.add_sub_cancel]; unfold settle; rw [if_pos (by omega)]
      have hv : pV d (.whole n) (.whole m) = .whole m := by
        show lessN d (pS d (.whole n) (.whole m)) (pU d (.whole n) (.whole m)) = _
        rw [hs, hu]
        show settle d (n + m - n) = _
        rw [show n + m - n = m by omega]; unfold settle; rw [if_pos (by omega)]
      have he : pE d (.whole n) (.whole m) = .whole 0 := by
        show plusN d (lessN d (.whole n) (pU d (.whole n) (.whole m))) (lessN d (.whole m) (pV d (.whole n) (.whole m))) = _
        rw [hu, hv]
        have z : ∀ q : Int, lessN d (.whole q) (.whole q) = .whole 0 := fun q => by
          show settle d (q - q) = _
          rw [Int.sub_self]; unfold settle; rw [if_pos (by omega)]
        rw [z, z]
        show settle d (0 + 0) = _
        unfold settle; rw [if_pos (by omega)]; rfl
      rw [he]; exact fun q => q
theorem T_parted_comm {d : Int} {k : Nat} {X Y : Num} (hX : Okk d k X) (hY : Okk d k Y) (hd : 1 ≤ d ∧ d ≤ 5) : pS d Y X = pS d X Y ∧ pE d Y X = pE d X Y := by
  have hs : pS d Y X = pS d X Y := plus_comm d Y X
  refine ⟨hs, eq_of_kind ?_ ?_⟩
  · have a := T_parted_sum hX hY hd
    have b := T_parted_sum hY hX hd
    rw [hs] at b
    omega
  · by_cases q : (pS d X Y).isDec
    · exact ⟨fun _ => kind_dec q, fun _ => kind_dec (by rw [hs]; exact q)⟩
    · exact ⟨fun r => (kind_whole (by rw [hs]; exact q) hY.gn hX.gn r).elim, fun r => (kind_whole q hX.gn hY.gn r).elim⟩
theorem parted_facts {d : Int} {k : Nat} {X Y : Num} (hX : Okk d k X) (hY : Okk d k Y) (hk : k ≤ 50) (hd : 1 ≤ d ∧ d ≤ 5) :
    Ok d X ∧ Ok d Y ∧ Ok d (pS d X Y) ∧ Ok d (pU d X Y) ∧ Ok d (pV d X Y) ∧ Ok d (lessN d X (pU d X Y)) ∧ Ok d (lessN d Y (pV d X Y)) := T_parted_facts hX hY hk hd
theorem parted_decs {d : Int} {X Y : Num} {mx : Bool} (h : mx = false → X.isDec ∧ Y.isDec) :
    (mx = false → (pS d X Y).isDec ∧ Y.isDec) ∧ (mx = false → (pS d X Y).isDec ∧ (pU d X Y).isDec) ∧ (mx = false → X.isDec ∧ (pU d X Y).isDec) ∧
    (mx = false → Y.isDec ∧ (pV d X Y).isDec) ∧ (mx = false → (lessN d X (pU d X Y)).isDec ∧ (lessN d Y (pV d X Y)).isDec) := by
  refine ⟨fun q => ⟨isDec_plus (h q).1, (h q).2⟩, fun q => ⟨isDec_plus (h q).1, isDec_less (isDec_plus (h q).1)⟩, fun q => ⟨(h q).1, isDec_less (isDec_plus (h q).1)⟩,
    fun q => ⟨(h q).2, isDec_less (isDec_plus (h q).1)⟩, fun q => ⟨isDec_less (h q).1, isDec_less (h q).2⟩⟩
end
end Mine
end
open PySem PySem.W PyProof.Rows PySem.Calls
namespace Mine
def Paused (P : Prop) : Prop := P
theorem pause {P : Prop} (h : Paused P) : P := h
local macro_rules | `(tactic| k_mem) => `(tactic| first | with_reducible assumption | exact List.mem_cons_self | (refine List.mem_cons_of_mem _ ?_; k_mem) | (refine List.mem_append_left _ ?_; k_mem) | (refine List.mem_append_right _ ?_; k_mem))
local macro_rules | `(tactic| walk_at "call builtin:isinstance") => `(tactic| (k_here; first | (with_reducible refine IsiPair.int_str ?_) | (with_reducible refine IsiPair.int_tuple ?_) | (with_reducible refine' IsiPair.tuple_str (News.get ?q1 ?q2) ?q3 ?_; (case q1 => k_asm); (case q2 => k_mem); (case q3 => rfl)) | (with_reducible refine' IsiPair.tuple_tuple (News.get ?q1 ?q2) ?q3 ?_; (case q1 => k_asm); (case q2 => k_mem); (case q3 => rfl))))
local macro_rules | `(tactic| walk_at "eval Name") => `(tactic| (k_here; k_dflt (refine' nameX_K ?F ?X ?T ?e ?_ ?a ?b; (case b => rfl); (case F => k_asm); (case X => k_asm); (case T => k_asm); (case a => rfl); (case e => k_is); k_whole)))
local macro_rules | `(tactic| walk_at "eval Name") => `(tactic| (k_here; k_dflt (refine' nameX_L ?F ?v ?_ ?a ?b; (case b => rfl); (case F => k_asm); (case a => rfl); (case v => rfl); k_whole)))
local macro_rules | `(tactic| walk_at "call ref") => `(tactic| (refine pause ?_))
noncomputable abbrev prg := PySem.Challenge.rw_sm0003_01.row.prog
noncomputable abbrev lo := looseW hd.view_39 [Str.ofString "BasicError"]

/-- a contract: calling the def at f with the values vs, from a def's frame over the ledger news -/
abbrev Can (w : World) (mean : ExcName → Option Value) (mg mb : Str → Option Value) (f : Addr) (dep : Nat) (news : List (Addr × Obj)) (vs : List Value)
   (Ret : Heap → Addr → (Str → Option Value) → Shared → (Value → Shared → Prop) → Prop) : Prop :=
  ∀ (dp un : Nat) (gd : Option (List Code)) (cn : Str) (cs : Scope) (a : Addr) (ccd : Value) (cl : List (Str × Addr)) (outer : List Env) (A₀ : Around) (base h₀ : Heap) (L : Addr) (m : Str → Option Value) (s : Shared) (Q E : Value → Shared → Prop),
    Below A₀ base outer h₀ → Fr h₀ L s.heap m → (hd.heap_39 w.params).In h₀ → News h₀ L s.heap news → Top hd.view_39 lo mean mg mb h₀ → cs.kind = .function →
    dp + dep < recursionLimit → un + 8 * dep < cLine → Ret h₀ L m s Q →
      wpAny (model prg w) (ktrTop dp un gd cn cs L a ccd cl outer) (call (.ref f) vs) Q E s

abbrev RetV (news : List (Addr × Obj)) (R : Tok → Value) (h₀ : Heap) (L : Addr) (m : Str → Option Value) (s : Shared) (Q : Value → Shared → Prop) : Prop :=
  ∀ (t : Tok) (h' : Heap) (tk' : Nat), Fr h₀ L h' m → News h₀ L h' news → Q (R t) { s with heap := h', toks := tk' }
abbrev RetB (news : List (Addr × Obj)) (b : Bool) (h₀ : Heap) (L : Addr) (m : Str → Option Value) (s : Shared) (Q : Value → Shared → Prop) : Prop :=
  ∀ (h' : Heap) (tk' : Nat), Fr h₀ L h' m → News h₀ L h' news → Q (.bool b) { s with heap := h', toks := tk' }
theorem ret_B {news all : List (Addr × Obj)} {h₀ h' : Heap} {L : Addr} {m : Str → Option Value} {s : Shared} {Q : Value → Shared → Prop} {tk' : Nat} {b b' : Bool}
    (hret : RetB news b h₀ L m s Q) (e : b = b') (F : Fr h₀ L h' m) (N : News h₀ L h' all) (hs : ∀ p ∈ news, p ∈ all) : Q (.bool b') { s with heap := h', toks := tk' } := by
  subst e
  exact hret h' tk' F (fun p hp => N p (hs p hp))
def Num.isWb : Num → Bool
  | .whole _ => true
  | .dec _ => false
theorem plusN_dec (d V : Int) (Y : Num) : plusN d (.dec V) Y = .dec (R d.toNat ((Num.dec V).val + Y.val)) := by cases Y <;> rfl
theorem lessN_dec (d V : Int) (Y : Num) : lessN d (.dec V) Y = .dec (R d.toNat ((Num.dec V).val - Y.val)) := by cases Y <;> rfl
abbrev tupO (c : Int) (t : Tok) (e : Int) (u : Tok) (k : Nat) : Obj := { cls := .type "tuple", data := .seq #[.int c t, .int e u] k }
abbrev RetD (news : List (Addr × Obj)) (V : Int) (h₀ : Heap) (L : Addr) (m : Str → Option Value) (s : Shared) (Q : Value → Shared → Prop) : Prop :=
  ∀ (D : Addr) (c e : Int) (t u : Tok) (k : Nat) (h' : Heap) (tk' : Nat), IsDec V c e ∧ -100000 < c ∧ c < 100000 ∧ -2 ≤ e ∧ e ≤ 70 → Fr h₀ L h' m → News h₀ L h' ((D, tupO c t e u k) :: news) → AllLt D news → Q (.ref D) { s with heap := h', toks := tk' }
/-- the ledger bears the number at the value -/
inductive RelN (news : List (Addr × Obj)) : Value → Num → Prop where
  | whole {n : Int} {t : Tok} : -128 ≤ n → n ≤ 127 → RelN news (.int n t) (.whole n)
  | dec {D : Addr} {c e V : Int} {t u : Tok} {k : Nat} : (D, tupO c t e u k) ∈ news → IsDec V c e → RelN news (.ref D) (.dec V)
/-- what a test leaves behind: its answer, and nothing else -/
structure JT (b : Bool) (h₀ : Heap) (L : Addr) (m : Str → Option Value) (news : List (Addr × Obj)) (s : Shared) (k : Bool) (s' : Shared) : Prop where
  out : k = b
  at_ : ∃ (h : Heap) (tk : Nat) (tl : List (Addr × Obj)), s' = { s with heap := h, toks := tk } ∧ Fr h₀ L h m ∧ News h₀ L h (tl ++ news) ∧ ∀ p ∈ tl, ∀ q ∈ news, q.1 < p.1
theorem jt0 {b k : Bool} {h₀ h : Heap} {L : Addr} {m : Str → Option Value} {news : List (Addr × Obj)} {s : Shared} {tk : Nat} (e : k = b) (F : Fr h₀ L h m) (N : News h₀ L h news) : JT b h₀ L m news s k { s with heap := h, toks := tk } :=
  ⟨e, h, tk, [], rfl, F, N, fun _ h => nomatch h⟩
theorem join_if {M : Model} {A : Around} {E : Value → Shared → Prop} {s : Shared} {env : Env} {h₀ : Heap} {L : Addr} {m : Str → Option Value} {news : List (Addr × Obj)} {test : PySem.Expr} {body orelse : List Stmt} {pos : Pos} {Q : Flow → Shared → Prop} (b : Bool)
    (_F : Fr h₀ L s.heap m) (_N : News h₀ L s.heap news) (hc : wpAny M A (isTrue test env (eval test env)) (JT b h₀ L m news s) E s)
    (h1 : b = true → ∀ h tk tl, Fr h₀ L h m → News h₀ L h (tl ++ news) → (∀ p ∈ tl, ∀ q ∈ news, q.1 < p.1) → wpAny M A (execs body env) Q E { s with heap := h, toks := tk })
    (h2 : b = false → ∀ h tk tl, Fr h₀ L h m → News h₀ L h (tl ++ news) → (∀ p ∈ tl, ∀ q ∈ news, q.1 < p.1) → wpAny M A (execs orelse env) Q E { s with heap := h, toks := tk }) :
    wpAny M A (exec (.If test body orelse pos) env) Q E s := by
  refine wpAny_If (wpAny_mono hc (fun k s₂ hk => ?_) fun _ _ h => h)
  obtain ⟨rfl, h, tk, tl, rfl, F, N, l⟩ := hk
  cases k with
  | true => exact h1 rfl h tk tl F N l
  | false => exact h2 rfl h tk tl F N l
theorem news_tl {h₀ h : Heap} {L : Addr} {tl news : List (Addr × Obj)} (N : News h₀ L h (tl ++ news)) : News h₀ L h news := fun p hp => N p (List.mem_append_right _ hp)
theorem isW_cases {X Y : Num} : (∃ n m, X = .whole n ∧ Y = .whole m) ∨ (X.isWb && Y.isWb) = false := by
  cases X <;> cases Y <;> simp [Num.isWb]
theorem plusN_no {d : Int} {X Y : Num} (h : (X.isWb && Y.isWb) = false) : plusN d X Y = .dec (R d.toNat (X.val + Y.val)) := by
  cases X <;> cases Y <;> first | rfl | exact absurd h (by simp [Num.isWb])
theorem lessN_no {d : Int} {X Y : Num} (h : (X.isWb && Y.isWb) = false) : lessN d X Y = .dec (R d.toNat (X.val - Y.val)) := by
  cases X <;> cases Y <;> first | rfl | exact absurd h (by simp [Num.isWb])
theorem room {a b c e n : Nat} (h : a + b < n) (hc : c + e ≤ b) : a + c + e < n := by omega
theorem sub_cons {l r : List (Addr × Obj)} {x : Addr × Obj} (h : ∀ p ∈ l, p ∈ r) : ∀ p ∈ l, p ∈ x :: r := fun p hp => List.mem_cons_of_mem _ (h p hp)
theorem sub_appR {l r t : List (Addr × Obj)} (h : ∀ p ∈ l, p ∈ r) : ∀ p ∈ l, p ∈ t ++ r := fun p hp => List.mem_append_right _ (h p hp)
abbrev RetN (news : List (Addr × Obj)) (x : Num) (h₀ : Heap) (L : Addr) (m : Str → Option Value) (s : Shared) (Q : Value → Shared → Prop) : Prop :=
  ∀ (r : Value) (tl : List (Addr × Obj)) (h' : Heap) (tk' : Nat), RelN tl r x → Fr h₀ L h' m → News h₀ L h' (tl ++ news) → (∀ p ∈ tl, ∀ q ∈ news, q.1 < p.1) → Q r { s with heap := h', toks := tk' }
theorem RelN.mono {news news' : List (Addr × Obj)} {v : Value} {x : Num} (h : RelN news v x) (hs : ∀ p ∈ news, p ∈ news') : RelN news' v x := by
  cases h with
  | whole a b => exact .whole a b
  | dec hm hd => exact .dec (hs _ hm) hd
theorem ret_N {news all tl : List (Addr × Obj)} {h₀ h' : Heap} {L : Addr} {m : Str → Option Value} {s : Shared} {Q : Value → Shared → Prop} {r : Value} {tk' : Nat} {x y : Num}
    (hret : RetN news x h₀ L m s Q) (hx : x = y) (hR : RelN tl r y) (F : Fr h₀ L h' m) (N : News h₀ L h' all) (hs : ∀ p ∈ tl ++ news, p ∈ all) (hl : ∀ p ∈ tl, ∀ q ∈ news, q.1 < p.1) : Q r { s with heap := h', toks := tk' } := by
  subst hx
  exact hret r tl h' tk' hR F (fun p hp => N p (hs p hp)) hl
theorem ret_N1 {news tl : List (Addr × Obj)} {h₀ h' : Heap} {L : Addr} {m : Str → Option Value} {s : Shared} {Q : Value → Shared → Prop} {r : Value} {tk' : Nat} {x y : Num} {q : Addr × Obj}
    (hret : RetN news x h₀ L m s Q) (hx : x = y) (hR : RelN tl r y) (F : Fr h₀ L h' m) (N : News h₀ L h' (tl ++ q :: news)) (hl : ∀ p ∈ tl, ∀ q' ∈ q :: news, q'.1 < p.1) (h1 : AllLt q.1 news) : Q r { s with heap := h', toks := tk' } := by
  subst hx
  have e : (tl ++ [q]) ++ news = tl ++ q :: news := by simp
  refine hret r (tl ++ [q]) h' tk' (hR.mono fun _ h => List.mem_append_left _ h) F (e ▸ N) (fun p hp q' hq' => ?_)
  rcases List.mem_append.mp hp with hp | hp
  · exact hl p hp q' (.tail _ hq')
  · rw [List.mem_singleton.mp hp]
    exact ktn_ltOf h1 q' hq'
theorem ret_NV {news all : List (Addr × Obj)} {n : Int} {h₀ h' : Heap} {L : Addr} {m : Str → Option Value} {s : Shared} {Q : Value → Shared → Prop} {t : Tok} {tk' : Nat} {x : Num}
    (hret : RetN news x h₀ L m s Q) (hx : x = .whole n) (hb : -128 ≤ n ∧ n ≤ 127) (F : Fr h₀ L h' m) (N : News h₀ L h' all) (hs : ∀ p ∈ news, p ∈ all) : Q (.int n t) { s with heap := h', toks := tk' } := by
  subst hx
  exact hret _ [] h' tk' (.whole hb.1 hb.2) F (fun p hp => N p (hs p hp)) (fun _ h => nomatch h)
theorem ret_ND {news all : List (Addr × Obj)} {V : Int} {h₀ h' : Heap} {L D : Addr} {m : Str → Option Value} {s : Shared} {Q : Value → Shared → Prop} {c e : Int} {t u : Tok} {k tk' : Nat} {x : Num}
    (hret : RetN news x h₀ L m s Q) (hx : x = .dec V) (hP : IsDec V c e) (F : Fr h₀ L h' m) (N : News h₀ L h' all) (hm : (D, tupO c t e u k) ∈ all) (hs : ∀ p ∈ news, p ∈ all) (hl : AllLt D news) : Q (.ref D) { s with heap := h', toks := tk' } := by
  subst hx
  refine hret _ [(D, tupO c t e u k)] h' tk' (.dec (.head _) hP) F (fun p hp => ?_) (fun p hp q hq => ?_)
  · rcases List.mem_cons.mp hp with rfl | hp
    · exact N _ hm
    · exact N p (hs p hp)
  · rcases List.mem_cons.mp hp with rfl | hp
    · exact ktn_ltOf hl q hq
    · exact nomatch hp
theorem ret_D {news all : List (Addr × Obj)} {V : Int} {h₀ h' : Heap} {L D : Addr} {m : Str → Option Value} {s : Shared} {Q : Value → Shared → Prop} {c e : Int} {t u : Tok} {k tk' : Nat}
    (hret : RetD news V h₀ L m s Q) (hP : IsDec V c e) (F : Fr h₀ L h' m) (N : News h₀ L h' all) (hm : (D, tupO c t e u k) ∈ all) (hs : ∀ p ∈ news, p ∈ all) (hl : AllLt D news) : Q (.ref D) { s with heap := h', toks := tk' } :=
  hret D c e t u k h' tk' ⟨hP, hP.lo, hP.hi, hP.elo, hP.ehi⟩ F (fun p hp => by
    rcases List.mem_cons.mp hp with rfl | hp
    · exact N _ hm
    · exact N p (hs p hp)) hl

set_option maxRecDepth 100000 in
set_option maxHeartbeats 8000000 in
theorem can_figures (w mean mg mb news) (n : Int) (t : Tok) (h0 : 0 ≤ n) (hn : n < 10 ^ 100) :
    Can w mean mg mb 44 1 news [.int n t] (RetV news fun t => .int (figs n) t) := by
  dsimp only [Can, RetV, RetD, prg, lo]
  k_fill
  k_with_none
  intro dp un gd cn cs a ccd cl outer A₀ base h₀ L m s Q E B F X N T hkk hdp hun hret
  refine wpAny_call ?_
  k_dflt cell_enter
  k_with "state" => first | exact FP.start _ | exact FP.step (by assumption) (by assumption) (by assumption) (by assumption)
  k_with "exec While Compare cons nil" => k_while_given ["number"] (fun n script many bound => FI n many bound ∧ 1 ≤ many ∧ many ≤ 100) (fun n script many bound => (101 - many).toNat) "many" "bound"
  k_steps
  all_goals (refine cb_retI (Q := Q) hret ?e1 ?e2 ?e3; (case e2 => k_asm); (case e3 => first | k_asm | (refine' cb_drop ?cbN ?cbS; (case cbN => assumption); (case cbS => (repeat' (first | (with_reducible exact fun _ h => h) | (with_reducible exact fun _ h => List.mem_append_left _ h) | (with_reducible refine List.forall_mem_cons.mpr (And.intro ?_ ?_)) | (with_reducible refine List.forall_mem_append.mpr (And.intro ?_ ?_)) | (with_reducible refine sub_cons ?_) | (with_reducible refine sub_appR ?_) | k_mem))))); (case e1 => exact FI.done (by assumption) (by assumption) h0))
local macro_rules | `(tactic| walk_at "binaryOp Pow int int") => `(tactic| (k_here; (with_reducible refine pow_int_small ?kb1 ?kb2 ?kb3 ?_); (case kb1 => k_dflt omega); (case kb2 => k_dflt omega); (case kb3 => decide)))
local macro_rules | `(tactic| walk_at "binaryOp FloorDiv int int") => `(tactic| (k_here; (with_reducible refine floordiv_int (pow10_ne _) ?_ (Or.inl (PyProof.noPylong_of_log2 (pow10_log _ (by omega)))))))
local macro_rules | `(tactic| walk_at "binaryOp Mod int int") => `(tactic| (k_here; (with_reducible refine mod_int' (pow10_ne _) ?_)))
set_option maxRecDepth 100000 in
set_option maxHeartbeats 8000000 in
theorem can_rounded (w mean mg mb news) (n k : Int) (t u : Tok) (h0 : 0 ≤ n) (hn : n < 10 ^ 100) (hk : 0 < k) (hk2 : k ≤ figs n) (hk3 : k ≤ 100) :
    Can w mean mg mb 51 3 news [.int n t, .int k u] (RetV news fun t => .int (rq n (10 ^ k.toNat)) t) := by
  dsimp only [Can, RetV, RetD, prg, lo]
  k_fill
  k_with_none
  intro dp un gd cn cs a ccd cl outer A₀ base h₀ L m s Q E B F X N T hkk hdp hun hret
  refine wpAny_call ?_
  k_dflt cell_enter
  k_steps
  repeat' (unfold Paused; (first | ((with_reducible show wpAny _ _ (PySem.call (Value.ref 44) _) _ _ _); k_dflt (refine' can_figures _ _ _ _ _ _ _ ?p0 ?p1 _ _ _ _ _ _ _ _ _ _ _ _ _ _ _ _ _ ?k1 ?k2 ?k3 ?k4 ?k5 ?kK ?kd ?ku ?_; (case k1 => k_asm); (case k2 => k_asm); (case k3 => k_asm); (case k4 => k_asm); (case k5 => k_asm); (case kK => first | exact rfl | assumption); (case p0 => omega); (case p1 => omega); (case kd => first | exact room hdp (by decide) | ((try simp only [depth_under_make, depth_under_kw, depth_in1, depth_deeper, depth_caller]); (try dsimp only [ktrTop]); omega) | ktr_room); (case ku => first | exact room hun (by decide) | ((try simp only [units_in1, units_deeper, Around.mark_units, units_caller]); (try dsimp only [ktrTop]); omega) | ktr_units)); intro t9 h9 tk9 F9 N9; (try dsimp only); (try k_fold)) ); (try k_steps))
  all_goals (refine cb_retI (Q := Q) hret ?e1 ?e2 ?e3; (case e2 => k_asm); (case e3 => first | k_asm | (refine' cb_drop ?cbN ?cbS; (case cbN => assumption); (case cbS => (repeat' (first | (with_reducible exact fun _ h => h) | (with_reducible exact fun _ h => List.mem_append_left _ h) | (with_reducible refine List.forall_mem_cons.mpr (And.intro ?_ ?_)) | (with_reducible refine List.forall_mem_append.mpr (And.intro ?_ ?_)) | (with_reducible refine sub_cons ?_) | (with_reducible refine sub_appR ?_) | k_mem))))); (case e1 => first | exact rq_up (by omega) | exact rq_no (by omega)))
section
local macro_rules | `(tactic| walk_at "exec If Compare") => `(tactic| (refine pause ?_))
/-- the size and the exponent, rounded or not -/
def MadeP (c e d n x : Int) : Prop := (n ≠ 0 → MP c e d n x ∧ 0 < n ∧ n < 10 ^ 100 ∧ -2 ≤ x ∧ x + figs n ≤ 64 ∧ -1 ≤ x + figs n) ∧ (n = 0 → (if c < 0 then -c else c) = 0)
structure JM (P : Int → Int → Prop) (h₀ : Heap) (L : Addr) (m : Str → Option Value) (news : List (Addr × Obj)) (s : Shared) (f : Flow) (s' : Shared) : Prop where
  out : f = .next
  at_ : ∃ (n x : Int) (t t' : Tok) (h : Heap) (tk : Nat), P n x ∧ s' = { s with heap := h, toks := tk } ∧ Fr h₀ L h (fun y => if y = Str.ofString "size" then some (.int n t) else if y = Str.ofString "exponent" then some (.int x t') else m y) ∧ News h₀ L h news
theorem join_made {M : Model} {A : Around} {E : Value → Shared → Prop} {s : Shared} {env : Env} {h₀ : Heap} {L : Addr} {m : Str → Option Value} {news : List (Addr × Obj)} {st : Stmt} {Q : Flow → Shared → Prop} (P : Int → Int → Prop)
    (_F : Fr h₀ L s.heap m) (_N : News h₀ L s.heap news) (hc : wpAny M A (exec st env) (JM P h₀ L m news s) E s)
    (h2 : ∀ n x t t' h tk, P n x → Fr h₀ L h (fun y => if y = Str.ofString "size" then some (.int n t) else if y = Str.ofString "exponent" then some (.int x t') else m y) → News h₀ L h news → Q .next { s with heap := h, toks := tk }) : wpAny M A (exec st env) Q E s := by
  refine wpAny_mono hc (fun f s₂ hk => ?_) fun _ _ h => h
  obtain ⟨rfl, n, x, t, t', h, tk, p, rfl, F, N⟩ := hk
  exact h2 n x t t' h tk p F N
theorem jm_set {P : Int → Int → Prop} {h₀ h : Heap} {L : Addr} {m : Str → Option Value} {news : List (Addr × Obj)} {s : Shared} {tk : Nat} {n x : Int} {t t' : Tok} (p : P n x)
    (F : Fr h₀ L h (fun y => if y = Str.ofString "size" then some (.int n t) else if y = Str.ofString "exponent" then some (.int x t') else m y)) (N : News h₀ L h news) : JM P h₀ L m news s .next { s with heap := h, toks := tk } := ⟨rfl, n, x, t, t', h, tk, p, rfl, F, N⟩
theorem jm_no {P : Int → Int → Prop} {h₀ h : Heap} {L : Addr} {m : Str → Option Value} {news : List (Addr × Obj)} {s : Shared} {tk : Nat} {n x : Int} {t t' : Tok} (p : P n x) (e1 : m (Str.ofString "exponent") = some (.int x t')) (e2 : m (Str.ofString "size") = some (.int n t))
    (F : Fr h₀ L h m) (N : News h₀ L h news) : JM P h₀ L m news s .next { s with heap := h, toks := tk } := by
  refine jm_set p (t := t) (t' := t') ?_ N
  have e : (fun y => if y = Str.ofString "size" then some (Value.int n t) else if y = Str.ofString "exponent" then some (Value.int x t') else m y) = m := by
    funext y
    by_cases q1 : y = Str.ofString "size"
    · rw [if_pos q1, q1, e2]
    · rw [if_neg q1]
      by_cases q2 : y = Str.ofString "exponent"
      · rw [if_pos q2, q2, e1]
      · rw [if_neg q2]
  rw [e]; exact F
theorem news_1 {h₀ h : Heap} {L : Addr} {x : Addr × Obj} {l : List (Addr × Obj)} (N : News h₀ L h (x :: l)) : News h₀ L h l := fun p hp => N p (.tail _ hp)
theorem madeP_1 {c e d : Int} (hc : InR c) (he : -2 ≤ e ∧ e ≤ 80) (hd : 1 ≤ d ∧ d ≤ 5) (hV : Sm (c * 10 ^ (e + 2).toNat)) (h1 : ¬ 0 < figs (if c < 0 then -c else c) - d) : MadeP c e d (if c < 0 then -c else c) e :=
  ⟨fun q => made_start1 hc he hd hV (Int.not_lt.mp h1) q, fun q => q⟩
theorem madeP_2 {c e d : Int} (hc : InR c) (he : -2 ≤ e ∧ e ≤ 80) (hd : 1 ≤ d ∧ d ≤ 5) (hV : Sm (c * 10 ^ (e + 2).toNat)) (h1 : 0 < figs (if c < 0 then -c else c) - d) :
    MadeP c e d (rq (if c < 0 then -c else c) (10 ^ (figs (if c < 0 then -c else c) - d).toNat)) (e + (figs (if c < 0 then -c else c) - d)) :=
  ⟨fun _ => made_start2 hc he hd hV h1, fun q => absurd q (Int.ne_of_gt (made_rq hc hd h1))⟩
set_option maxRecDepth 100000 in
set_option maxHeartbeats 8000000 in
theorem can_made (w mean mg mb news) (c e d : Int) (t u v : Tok) (hc : InR c) (he : -2 ≤ e ∧ e ≤ 80) (hd : 1 ≤ d ∧ d ≤ 5) (hV : Sm (c * 10 ^ (e + 2).toNat)) :
    Can w mean mg mb 58 5 news [.int c t, .int e u, .int d v] (RetD news (R d.toNat (c * 10 ^ (e + 2).toNat))) := by
  dsimp only [Can, RetV, RetD, prg, lo]
  k_fill
  k_with_none
  intro dp un gd cn cs a ccd cl outer A₀ base h₀ L m s Q E B F X N T hkk hdp hun hret
  have hmm := made_more hc hd
  have hmi := made_in hc
  refine wpAny_call ?_
  k_dflt cell_enter
  k_with "measure" => exact made_less (by assumption)
  k_with "state" => first | exact And.left hP (by assumption) | exact made_step (by assumption) (by assumption) (by assumption) (by assumption) (by assumption) (by assumption)
  k_with "exec While Compare cons nil" => k_while (fun script size exponent => MP c e d size exponent ∧ 0 < size ∧ size < 10 ^ 100 ∧ -2 ≤ exponent ∧ exponent + figs size ≤ 64 ∧ -1 ≤ exponent + figs size) (fun script size exponent => size.toNat) "size" "exponent"
  k_steps
  repeat' (unfold Paused; (first | ((with_reducible show wpAny _ _ (PySem.call (Value.ref 44) _) _ _ _); k_dflt (refine' can_figures _ _ _ _ _ _ _ ?p0 ?p1 _ _ _ _ _ _ _ _ _ _ _ _ _ _ _ _ _ ?k1 ?k2 ?k3 ?k4 ?k5 ?kK ?kd ?ku ?_; (case k1 => k_asm); (case k2 => k_asm); (case k3 => k_asm); (case k4 => k_asm); (case k5 => k_asm); (case kK => first | exact rfl | assumption); (case p0 => omega); (case p1 => omega); (case kd => first | exact room hdp (by decide) | ((try simp only [depth_under_make, depth_under_kw, depth_in1, depth_deeper, depth_caller]); (try dsimp only [ktrTop]); omega) | ktr_room); (case ku => first | exact room hun (by decide) | ((try simp only [units_in1, units_deeper, Around.mark_units, units_caller]); (try dsimp only [ktrTop]); omega) | ktr_units)); intro t9 h9 tk9 F9 N9; (try dsimp only); (try k_fold)) | ((with_reducible show wpAny _ _ (PySem.call (Value.ref 51) _) _ _ _); k_dflt (refine' can_rounded _ _ _ _ _ _ _ _ _ ?p0 ?p1 ?p2 ?p3 ?p4 _ _ _ _ _ _ _ _ _ _ _ _ _ _ _ _ _ ?k1 ?k2 ?k3 ?k4 ?k5 ?kK ?kd ?ku ?_; (case k1 => k_asm); (case k2 => k_asm); (case k3 => k_asm); (case k4 => k_asm); (case k5 => k_asm); (case kK => first | exact rfl | assumption); (case p0 => omega); (case p1 => omega); (case p2 => omega); (case p3 => omega); (case p4 => omega); (case kd => first | exact room hdp (by decide) | ((try simp only [depth_under_make, depth_under_kw, depth_in1, depth_deeper, depth_caller]); (try dsimp only [ktrTop]); omega) | ktr_room); (case ku => first | exact room hun (by decide) | ((try simp only [units_in1, units_deeper, Around.mark_units, units_caller]); (try dsimp only [ktrTop]); omega) | ktr_units)); intro t9 h9 tk9 F9 N9; (try dsimp only); (try k_fold)) ); (try k_steps))
  unfold Paused
  rename News _ _ _ _ => kN
  rename Fr _ _ _ _ => kF
  refine' join_made (MadeP c e d) kF kN ?jc ?j2
  case jc =>
    refine wpAny_If ?_
    k_steps
    repeat' (unfold Paused; (first | ((with_reducible show wpAny _ _ (PySem.call (Value.ref 44) _) _ _ _); k_dflt (refine' can_figures _ _ _ _ _ _ _ ?p0 ?p1 _ _ _ _ _ _ _ _ _ _ _ _ _ _ _ _ _ ?k1 ?k2 ?k3 ?k4 ?k5 ?kK ?kd ?ku ?_; (case k1 => k_asm); (case k2 => k_asm); (case k3 => k_asm); (case k4 => k_asm); (case k5 => k_asm); (case kK => first | exact rfl | assumption); (case p0 => omega); (case p1 => omega); (case kd => first | exact room hdp (by decide) | ((try simp only [depth_under_make, depth_under_kw, depth_in1, depth_deeper, depth_caller]); (try dsimp only [ktrTop]); omega) | ktr_room); (case ku => first | exact room hun (by decide) | ((try simp only [units_in1, units_deeper, Around.mark_units, units_caller]); (try dsimp only [ktrTop]); omega) | ktr_units)); intro t9 h9 tk9 F9 N9; (try dsimp only); (try k_fold)) | ((with_reducible show wpAny _ _ (PySem.call (Value.ref 51) _) _ _ _); k_dflt (refine' can_rounded _ _ _ _ _ _ _ _ _ ?p0 ?p1 ?p2 ?p3 ?p4 _ _ _ _ _ _ _ _ _ _ _ _ _ _ _ _ _ ?k1 ?k2 ?k3 ?k4 ?k5 ?kK ?kd ?ku ?_; (case k1 => k_asm); (case k2 => k_asm); (case k3 => k_asm); (case k4 => k_asm); (case k5 => k_asm); (case kK => first | exact rfl | assumption); (case p0 => omega); (case p1 => omega); (case p2 => omega); (case p3 => omega); (case p4 => omega); (case kd => first | exact room hdp (by decide) | ((try simp only [depth_under_make, depth_under_kw, depth_in1, depth_deeper, depth_caller]); (try dsimp only [ktrTop]); omega) | ktr_room); (case ku => first | exact room hun (by decide) | ((try simp only [units_in1, units_deeper, Around.mark_units, units_caller]); (try dsimp only [ktrTop]); omega) | ktr_units)); intro t9 h9 tk9 F9 N9; (try dsimp only); (try k_fold)) ); (try k_steps))
    · exact jm_set (madeP_2 hc he hd hV (by omega)) (by k_asm) (news_1 (by assumption))
    · exact jm_no (madeP_1 hc he hd hV (by omega)) rfl rfl (by k_asm) (by assumption)
  case j2 =>
    intro n x t1 t2 h tk hP F1 N1
    k_steps
    repeat' (unfold Paused; (first | ((with_reducible show wpAny _ _ (PySem.call (Value.ref 44) _) _ _ _); k_dflt (refine' can_figures _ _ _ _ _ _ _ ?p0 ?p1 _ _ _ _ _ _ _ _ _ _ _ _ _ _ _ _ _ ?k1 ?k2 ?k3 ?k4 ?k5 ?kK ?kd ?ku ?_; (case k1 => k_asm); (case k2 => k_asm); (case k3 => k_asm); (case k4 => k_asm); (case k5 => k_asm); (case kK => first | exact rfl | assumption); (case p0 => omega); (case p1 => omega); (case kd => first | exact room hdp (by decide) | ((try simp only [depth_under_make, depth_under_kw, depth_in1, depth_deeper, depth_caller]); (try dsimp only [ktrTop]); omega) | ktr_room); (case ku => first | exact room hun (by decide) | ((try simp only [units_in1, units_deeper, Around.mark_units, units_caller]); (try dsimp only [ktrTop]); omega) | ktr_units)); intro t9 h9 tk9 F9 N9; (try dsimp only); (try k_fold)) | ((with_reducible show wpAny _ _ (PySem.call (Value.ref 51) _) _ _ _); k_dflt (refine' can_rounded _ _ _ _ _ _ _ _ _ ?p0 ?p1 ?p2 ?p3 ?p4 _ _ _ _ _ _ _ _ _ _ _ _ _ _ _ _ _ ?k1 ?k2 ?k3 ?k4 ?k5 ?kK ?kd ?ku ?_; (case k1 => k_asm); (case k2 => k_asm); (case k3 => k_asm); (case k4 => k_asm); (case k5 => k_asm); (case kK => first | exact rfl | assumption); (case p0 => omega); (case p1 => omega); (case p2 => omega); (case p3 => omega); (case p4 => omega); (case kd => first | exact room hdp (by decide) | ((try simp only [depth_under_make, depth_under_kw, depth_in1, depth_deeper, depth_caller]); (try dsimp only [ktrTop]); omega) | ktr_room); (case ku => first | exact room hun (by decide) | ((try simp only [units_in1, units_deeper, Around.mark_units, units_caller]); (try dsimp only [ktrTop]); omega) | ktr_units)); intro t9 h9 tk9 F9 N9; (try dsimp only); (try k_fold)) | ((with_reducible show wpAny _ _ (exec (PySem.Stmt.If _ _ _ _) _) _ _ _); refine wpAny_If ?_) ); (try k_steps))
    all_goals (refine' ret_D (Q := Q) hret ?eP ?eF ?eN ?em ?es ?el; (case eF => k_asm); (case eN => assumption); (case em => k_mem); (case es => (repeat' (first | (with_reducible exact fun _ h => h) | (with_reducible exact fun _ h => List.mem_append_left _ h) | (with_reducible refine List.forall_mem_cons.mpr (And.intro ?_ ?_)) | (with_reducible refine List.forall_mem_append.mpr (And.intro ?_ ?_)) | (with_reducible refine sub_cons ?_) | (with_reducible refine sub_appR ?_) | k_mem))); (case el => first | assumption | exact allLt_of (by assumption) | tbn_find | kcu_lt); (case eP => first | exact made_zero (And.right hP (by assumption)) | exact made_neg hd (by assumption) (by assumption) (by assumption) (by assumption) (by assumption) (by assumption) | exact made_pos hd (by assumption) (by assumption) (by assumption) (by assumption) (by assumption) (by assumption)))
end
set_option maxRecDepth 100000 in
set_option maxHeartbeats 8000000 in
theorem can_dadd (w mean mg mb news) (A' B' : Addr) (ca ea cb eb Va Vb d : Int) (t u t' u' v : Tok) (k k' : Nat) (ha : (A', tupO ca t ea u k) ∈ news) (hb : (B', tupO cb t' eb u' k') ∈ news) (Ia : IsDec Va ca ea) (Ib : IsDec Vb cb eb) (hd : 1 ≤ d ∧ d ≤ 5) (hVa : Sm' Va) (hVb : Sm' Vb) :
    Can w mean mg mb 108 7 news [.ref A', .ref B', .int d v] (RetD news (R d.toNat (Va + Vb))) := by
  dsimp only [Can, RetV, RetD, prg, lo]
  k_fill
  k_with_none
  intro dp un gd cn cs a ccd cl outer A₀ base h₀ L m s Q E B F X N T hkk hdp hun hret
  refine wpAny_call ?_
  k_dflt cell_enter
  obtain ⟨f1, f2, f3, f4⟩ := add_facts Ia Ib hVa hVb
  have a1 := Ia.elo
  have a2 := Ia.ehi
  have a3 := Ia.lo
  have a4 := Ia.hi
  have b1 := Ib.elo
  have b2 := Ib.ehi
  have b3 := Ib.lo
  have b4 := Ib.hi
  k_steps
  repeat' (unfold Paused; (first | ((with_reducible show wpAny _ _ (PySem.call (Value.ref 101) _) _ _ _); refine wpAny_call ?_; k_dflt (refine' code_def ?k1 ?k2 ?k3 ?k4 ?k5 ?kA ?kF ?kK ?k6 ?k7 ?k8 ?k9 ?kB ?_ ?c2 ?c3 ?c4 ?c5; (case kA => exact rfl); (case kF => exact rfl); (case kK => first | exact rfl | assumption); (case k1 => k_asm); (case k2 => k_asm); (case k3 => k_asm); (case k4 => k_asm); (case k5 => k_asm); (case k6 => k_is); (case k7 => k_is); (case k8 => ktr_room); (case k9 => exact BindsTo.of_eq rfl); (case c5 => decide); (case kB => exact locs rfl); (case c2 => exact rfl); (case c3 => exact rfl); (case c4 => exact rfl); k_whole; intro g' L' h' FG' F' N' B' X' T'; (try dsimp only); (try k_lift B'); (try k_fold))) | ((with_reducible show wpAny _ _ (PySem.call (Value.ref 58) _) _ _ _); k_dflt (refine' can_made _ _ _ _ _ _ _ _ _ _ _ ?p0 ?p1 ?p2 ?p3 _ _ _ _ _ _ _ _ _ _ _ _ _ _ _ _ _ ?k1 ?k2 ?k3 ?k4 ?k5 ?kK ?kd ?ku ?_; (case k1 => k_asm); (case k2 => k_asm); (case k3 => k_asm); (case k4 => k_asm); (case k5 => k_asm); (case kK => first | exact rfl | assumption); (case p0 => first | assumption | omega); (case p1 => first | assumption | omega); (case p2 => first | assumption | omega); (case p3 => first | assumption | omega); (case kd => first | exact room hdp (by decide) | ((try simp only [depth_under_make, depth_under_kw, depth_in1, depth_deeper, depth_caller]); (try dsimp only [ktrTop]); omega) | ktr_room); (case ku => first | exact room hun (by decide) | ((try simp only [units_in1, units_deeper, Around.mark_units, units_caller]); (try dsimp only [ktrTop]); omega) | ktr_units)); intro D9 c9 e9 t9 u9 k9 h9 tk9 P9 F9 N9 l9; (obtain ⟨P91, P92, P93, P94, P95⟩ := P9); (try simp only [AllLt, and_true] at l9); (try dsimp only); (try k_fold)) ); (try k_steps))
  all_goals (refine' ret_D (Q := Q) hret ?eP ?eF ?eN ?em ?es ?el; (case eF => k_asm); (case eN => assumption); (case em => k_mem); (case es => (repeat' (first | (with_reducible exact fun _ h => h) | (with_reducible exact fun _ h => List.mem_append_left _ h) | (with_reducible refine List.forall_mem_cons.mpr (And.intro ?_ ?_)) | (with_reducible refine List.forall_mem_append.mpr (And.intro ?_ ?_)) | (with_reducible refine sub_cons ?_) | (with_reducible refine sub_appR ?_) | k_mem))); (case el => first | assumption | exact allLt_of (by assumption) | tbn_find | kcu_lt); (case eP => (rw [← f4]; assumption)))
set_option maxRecDepth 100000 in
set_option maxHeartbeats 8000000 in
theorem can_dsub (w mean mg mb news) (A' B' : Addr) (ca ea cb eb Va Vb d : Int) (t u t' u' v : Tok) (k k' : Nat) (ha : (A', tupO ca t ea u k) ∈ news) (hb : (B', tupO cb t' eb u' k') ∈ news) (Ia : IsDec Va ca ea) (Ib : IsDec Vb cb eb) (hd : 1 ≤ d ∧ d ≤ 5) (hVa : Sm' Va) (hVb : Sm' Vb) :
    Can w mean mg mb 115 9 news [.ref A', .ref B', .int d v] (RetD news (R d.toNat (Va - Vb))) := by
  dsimp only [Can, RetV, RetD, RetN, prg, lo]
  k_fill
  k_with_none
  intro dp un gd cn cs a ccd cl outer A₀ base h₀ L m s Q E B F X N T hkk hdp hun hret
  refine wpAny_call ?_
  k_dflt cell_enter
  have a1 := Ia.elo
  have a2 := Ia.ehi
  have a3 := Ia.lo
  have a4 := Ia.hi
  have b1 := Ib.elo
  have b2 := Ib.ehi
  have b3 := Ib.lo
  have b4 := Ib.hi
  have f5 := neg_dec Ib
  have f6 := neg_sm hVb
  k_steps
  repeat' (unfold Paused; (first | ((with_reducible show wpAny _ _ (PySem.call (Value.ref 94) _) _ _ _); refine wpAny_call ?_; k_dflt (refine' code_def ?k1 ?k2 ?k3 ?k4 ?k5 ?kA ?kF ?kK ?k6 ?k7 ?k8 ?k9 ?kB ?_ ?c2 ?c3 ?c4 ?c5; (case kA => exact rfl); (case kF => exact rfl); (case kK => first | exact rfl | assumption); (case k1 => k_asm); (case k2 => k_asm); (case k3 => k_asm); (case k4 => k_asm); (case k5 => k_asm); (case k6 => k_is); (case k7 => k_is); (case k8 => ktr_room); (case k9 => exact BindsTo.of_eq rfl); (case c5 => decide); (case kB => exact locs rfl); (case c2 => exact rfl); (case c3 => exact rfl); (case c4 => exact rfl); k_whole; intro g' L' h' FG' F' N' B' X' T'; (try dsimp only); (try k_lift B'); (try k_fold))) | ((with_reducible show wpAny _ _ (PySem.call (Value.ref 108) _) _ _ _); k_dflt (refine' can_dadd _ _ _ _ _ _ _ _ _ _ _ _ _ _ _ _ _ _ _ _ _ ?p0 ?p1 ?p2 ?p3 ?p4 ?p5 ?p6 _ _ _ _ _ _ _ _ _ _ _ _ _ _ _ _ _ ?k1 ?k2 ?k3 ?k4 ?k5 ?kK ?kd ?ku ?_; (case k1 => k_asm); (case k2 => k_asm); (case k3 => k_asm); (case k4 => k_asm); (case k5 => k_asm); (case kK => first | exact rfl | assumption); (case p0 => k_mem); (case p1 => k_mem); (case p2 => assumption); (case p3 => assumption); (case p4 => assumption); (case p5 => assumption); (case p6 => assumption); (case kd => first | exact room hdp (by decide) | ((try simp only [depth_under_make, depth_under_kw, depth_in1, depth_deeper, depth_caller]); (try dsimp only [ktrTop]); omega) | ktr_room); (case ku => first | exact room hun (by decide) | ((try simp only [units_in1, units_deeper, Around.mark_units, units_caller]); (try dsimp only [ktrTop]); omega) | ktr_units)); intro D9 c9 e9 t9 u9 k9 h9 tk9 P9 F9 N9 l9; (obtain ⟨P91, P92, P93, P94, P95⟩ := P9); (try simp only [AllLt, and_true] at l9); (try dsimp only); (try k_fold)) ); (try k_steps))
  all_goals (refine' ret_D (Q := Q) hret ?eP ?eF ?eN ?em ?es ?el; (case eF => k_asm); (case eN => assumption); (case em => k_mem); (case es => (repeat' (first | (with_reducible exact fun _ h => h) | (with_reducible exact fun _ h => List.mem_append_left _ h) | (with_reducible refine List.forall_mem_cons.mpr (And.intro ?_ ?_)) | (with_reducible refine List.forall_mem_append.mpr (And.intro ?_ ?_)) | (with_reducible refine sub_cons ?_) | (with_reducible refine sub_appR ?_) | k_mem))); (case el => first | assumption | exact allLt_of (by assumption) | tbn_find | kcu_lt); (case eP => (rw [Int.sub_eq_add_neg]; assumption)))
set_option maxRecDepth 100000 in
set_option maxHeartbeats 8000000 in
theorem can_isw (w mean mg mb news) (v : Value) (X : Num) (hR : RelN news v X) :
    Can w mean mg mb 157 3 news [v] (RetB news X.isWb) := by
  dsimp only [Can, RetV, RetD, RetN, RetB, prg, lo]
  k_fill
  k_with_none
  intro dp un gd cn cs a ccd cl outer A₀ base h₀ L m s Q E B F X N T hkk hdp hun hret
  cases hR
  case whole n t b1 b2 =>
    refine wpAny_call ?_
    k_dflt cell_enter
    k_steps
    all_goals (refine' ret_B (Q := Q) hret ?e1 ?e2 ?e3 ?e4; (case e2 => k_asm); (case e3 => assumption); (case e4 => (repeat' (first | (with_reducible exact fun _ h => h) | (with_reducible exact fun _ h => List.mem_append_left _ h) | (with_reducible refine List.forall_mem_cons.mpr (And.intro ?_ ?_)) | (with_reducible refine List.forall_mem_append.mpr (And.intro ?_ ?_)) | (with_reducible refine sub_cons ?_) | (with_reducible refine sub_appR ?_) | k_mem))); (case e1 => rfl))
  case dec D c e V u' w' k' hm hI =>
    refine wpAny_call ?_
    k_dflt cell_enter
    k_steps
    all_goals (refine' ret_B (Q := Q) hret ?e1 ?e2 ?e3 ?e4; (case e2 => k_asm); (case e3 => assumption); (case e4 => (repeat' (first | (with_reducible exact fun _ h => h) | (with_reducible exact fun _ h => List.mem_append_left _ h) | (with_reducible refine List.forall_mem_cons.mpr (And.intro ?_ ?_)) | (with_reducible refine List.forall_mem_append.mpr (And.intro ?_ ?_)) | (with_reducible refine sub_cons ?_) | (with_reducible refine sub_appR ?_) | k_mem))); (case e1 => rfl))
set_option maxRecDepth 100000 in
set_option maxHeartbeats 8000000 in
theorem can_decimal (w mean mg mb news) (v : Value) (X : Num) (d : Int) (tv : Tok) (hR : RelN news v X) (hX : Ok d X) (hd : 1 ≤ d ∧ d ≤ 5) :
    Can w mean mg mb 86 7 news [v, .int d tv] (RetD news X.val) := by
  dsimp only [Can, RetV, RetD, RetN, prg, lo]
  k_fill
  k_with_none
  intro dp un gd cn cs a ccd cl outer A₀ base h₀ L m s Q E B F X N T hkk hdp hun hret
  cases hR
  case whole n t b1 b2 =>
    obtain ⟨f1, f2, f3⟩ := whole_facts (n := n) (by omega)
    refine wpAny_call ?_
    k_dflt cell_enter
    k_steps
    repeat' (unfold Paused; (first | ((with_reducible show wpAny _ _ (PySem.call (Value.ref 58) _) _ _ _); k_dflt (refine' can_made _ _ _ _ _ _ _ _ _ _ _ ?p0 ?p1 ?p2 ?p3 _ _ _ _ _ _ _ _ _ _ _ _ _ _ _ _ _ ?k1 ?k2 ?k3 ?k4 ?k5 ?kK ?kd ?ku ?_; (case k1 => k_asm); (case k2 => k_asm); (case k3 => k_asm); (case k4 => k_asm); (case k5 => k_asm); (case kK => first | exact rfl | assumption); (case p0 => first | assumption | omega); (case p1 => first | assumption | omega); (case p2 => first | assumption | omega); (case p3 => first | assumption | omega); (case kd => first | exact room hdp (by decide) | ((try simp only [depth_under_make, depth_under_kw, depth_in1, depth_deeper, depth_caller]); (try dsimp only [ktrTop]); omega) | ktr_room); (case ku => first | exact room hun (by decide) | ((try simp only [units_in1, units_deeper, Around.mark_units, units_caller]); (try dsimp only [ktrTop]); omega) | ktr_units)); intro D9 c9 e9 t9 u9 k9 h9 tk9 P9 F9 N9 l9; (obtain ⟨P91, P92, P93, P94, P95⟩ := P9); (try simp only [AllLt, and_true] at l9); (try dsimp only); (try k_fold)) ); (try k_steps))
    all_goals (refine' ret_D (Q := Q) hret ?eP ?eF ?eN ?em ?es ?el; (case eF => k_asm); (case eN => assumption); (case em => k_mem); (case es => (repeat' (first | (with_reducible exact fun _ h => h) | (with_reducible exact fun _ h => List.mem_append_left _ h) | (with_reducible refine List.forall_mem_cons.mpr (And.intro ?_ ?_)) | (with_reducible refine List.forall_mem_append.mpr (And.intro ?_ ?_)) | (with_reducible refine sub_cons ?_) | (with_reducible refine sub_appR ?_) | k_mem))); (case el => first | assumption | exact allLt_of (by assumption) | tbn_find | kcu_lt); (case eP => exact dec_of_whole hX f3 (by assumption)))
  case dec D c e V u' w' k' hm hI =>
    have a1 := hI.elo
    have a2 := hI.ehi
    have a3 := hI.lo
    have a4 := hI.hi
    obtain ⟨f1, f2, f3⟩ := dec_facts hI hX.2
    refine wpAny_call ?_
    k_dflt cell_enter
    k_steps
    repeat' (unfold Paused; (first | ((with_reducible show wpAny _ _ (PySem.call (Value.ref 58) _) _ _ _); k_dflt (refine' can_made _ _ _ _ _ _ _ _ _ _ _ ?p0 ?p1 ?p2 ?p3 _ _ _ _ _ _ _ _ _ _ _ _ _ _ _ _ _ ?k1 ?k2 ?k3 ?k4 ?k5 ?kK ?kd ?ku ?_; (case k1 => k_asm); (case k2 => k_asm); (case k3 => k_asm); (case k4 => k_asm); (case k5 => k_asm); (case kK => first | exact rfl | assumption); (case p0 => first | assumption | omega); (case p1 => first | assumption | omega); (case p2 => first | assumption | omega); (case p3 => first | assumption | omega); (case kd => first | exact room hdp (by decide) | ((try simp only [depth_under_make, depth_under_kw, depth_in1, depth_deeper, depth_caller]); (try dsimp only [ktrTop]); omega) | ktr_room); (case ku => first | exact room hun (by decide) | ((try simp only [units_in1, units_deeper, Around.mark_units, units_caller]); (try dsimp only [ktrTop]); omega) | ktr_units)); intro D9 c9 e9 t9 u9 k9 h9 tk9 P9 F9 N9 l9; (obtain ⟨P91, P92, P93, P94, P95⟩ := P9); (try simp only [AllLt, and_true] at l9); (try dsimp only); (try k_fold)) ); (try k_steps))
    all_goals (refine' ret_D (Q := Q) hret ?eP ?eF ?eN ?em ?es ?el; (case eF => k_asm); (case eN => assumption); (case em => k_mem); (case es => (repeat' (first | (with_reducible exact fun _ h => h) | (with_reducible exact fun _ h => List.mem_append_left _ h) | (with_reducible refine List.forall_mem_cons.mpr (And.intro ?_ ?_)) | (with_reducible refine List.forall_mem_append.mpr (And.intro ?_ ?_)) | (with_reducible refine sub_cons ?_) | (with_reducible refine sub_appR ?_) | k_mem))); (case el => first | assumption | exact allLt_of (by assumption) | tbn_find | kcu_lt); (case eP => exact dec_of_dec hX f3 (by assumption)))
set_option maxRecDepth 100000 in
set_option maxHeartbeats 8000000 in
theorem can_settled (w mean mg mb news) (n d : Int) (t u v : Tok) (hn : -300 ≤ n ∧ n ≤ 300) (hd : 1 ≤ d ∧ d ≤ 5) :
    Can w mean mg mb 164 7 news [.int n t, .int 8 u, .int d v] (RetN news (settle d n)) := by
  dsimp only [Can, RetV, RetD, RetN, prg, lo]
  k_fill
  k_with_none
  intro dp un gd cn cs a ccd cl outer A₀ base h₀ L m s Q E B F X N T hkk hdp hun hret
  refine wpAny_call ?_
  k_dflt cell_enter
  obtain ⟨f1, f2, f3⟩ := whole_facts (n := n) hn
  k_steps
  repeat' (unfold Paused; (first | ((with_reducible show wpAny _ _ (PySem.call (Value.ref 72) _) _ _ _); refine wpAny_call ?_; k_dflt (refine' code_def ?k1 ?k2 ?k3 ?k4 ?k5 ?kA ?kF ?kK ?k6 ?k7 ?k8 ?k9 ?kB ?_ ?c2 ?c3 ?c4 ?c5; (case kA => exact rfl); (case kF => exact rfl); (case kK => first | exact rfl | assumption); (case k1 => k_asm); (case k2 => k_asm); (case k3 => k_asm); (case k4 => k_asm); (case k5 => k_asm); (case k6 => k_is); (case k7 => k_is); (case k8 => ktr_room); (case k9 => exact BindsTo.of_eq rfl); (case c5 => decide); (case kB => exact locs rfl); (case c2 => exact rfl); (case c3 => exact rfl); (case c4 => exact rfl); k_whole; intro g' L' h' FG' F' N' B' X' T'; (try dsimp only); (try k_lift B'); (try k_fold))) | ((with_reducible show wpAny _ _ (PySem.call (Value.ref 58) _) _ _ _); k_dflt (refine' can_made _ _ _ _ _ _ _ _ _ _ _ ?p0 ?p1 ?p2 ?p3 _ _ _ _ _ _ _ _ _ _ _ _ _ _ _ _ _ ?k1 ?k2 ?k3 ?k4 ?k5 ?kK ?kd ?ku ?_; (case k1 => k_asm); (case k2 => k_asm); (case k3 => k_asm); (case k4 => k_asm); (case k5 => k_asm); (case kK => first | exact rfl | assumption); (case p0 => first | assumption | omega); (case p1 => first | assumption | omega); (case p2 => first | assumption | omega); (case p3 => first | assumption | omega); (case kd => first | exact room hdp (by decide) | ((try simp only [depth_under_make, depth_under_kw, depth_in1, depth_deeper, depth_caller]); (try dsimp only [ktrTop]); omega) | ktr_room); (case ku => first | exact room hun (by decide) | ((try simp only [units_in1, units_deeper, Around.mark_units, units_caller]); (try dsimp only [ktrTop]); omega) | ktr_units)); intro D9 c9 e9 t9 u9 k9 h9 tk9 P9 F9 N9 l9; (obtain ⟨P91, P92, P93, P94, P95⟩ := P9); (try simp only [AllLt, and_true] at l9); (try dsimp only); (try k_fold)) ); (try k_steps))
  all_goals (first | (refine' ret_NV (Q := Q) hret ?eX ?eB ?eF ?eN ?es; (case eF => k_asm); (case eN => assumption); (case es => (repeat' (first | (with_reducible exact fun _ h => h) | (with_reducible exact fun _ h => List.mem_append_left _ h) | (with_reducible refine List.forall_mem_cons.mpr (And.intro ?_ ?_)) | (with_reducible refine List.forall_mem_append.mpr (And.intro ?_ ?_)) | (with_reducible refine sub_cons ?_) | (with_reducible refine sub_appR ?_) | k_mem))); (case eB => exact fits_yes' (by assumption) (by assumption)); (case eX => exact set_whole (fits_yes (by assumption) (by assumption)))) | (refine' ret_ND (Q := Q) hret ?eX ?eP ?eF ?eN ?em ?es ?el; (case eF => k_asm); (case eN => assumption); (case em => k_mem); (case es => (repeat' (first | (with_reducible exact fun _ h => h) | (with_reducible exact fun _ h => List.mem_append_left _ h) | (with_reducible refine List.forall_mem_cons.mpr (And.intro ?_ ?_)) | (with_reducible refine List.forall_mem_append.mpr (And.intro ?_ ?_)) | (with_reducible refine sub_cons ?_) | (with_reducible refine sub_appR ?_) | k_mem))); (case el => first | assumption | exact allLt_of (by assumption) | tbn_find | kcu_lt); (case eP => exact set_P f3 (by assumption)); (case eX => first | exact set_dec (fits_no1 (by assumption)) | exact set_dec (fits_no2 (by assumption)))))
set_option maxRecDepth 100000 in
set_option maxHeartbeats 8000000 in
theorem can_exact (w mean mg mb news) (v : Value) (X : Num) (hR : RelN news v X) :
    Can w mean mg mb 234 3 news [v] (RetV news fun t => .int (X.val * 10 ^ 18) t) := by
  dsimp only [Can, RetV, RetD, RetN, prg, lo]
  k_fill
  k_with_none
  intro dp un gd cn cs a ccd cl outer A₀ base h₀ L m s Q E B F X N T hkk hdp hun hret
  cases hR
  case whole n t b1 b2 =>
    refine wpAny_call ?_
    k_dflt cell_enter
    k_steps
    all_goals (refine cb_retI (Q := Q) hret ?e1 ?e2 ?e3; (case e2 => k_asm); (case e3 => first | k_asm | (refine' cb_drop ?cbN ?cbS; (case cbN => assumption); (case cbS => (repeat' (first | (with_reducible exact fun _ h => h) | (with_reducible exact fun _ h => List.mem_append_left _ h) | (with_reducible refine List.forall_mem_cons.mpr (And.intro ?_ ?_)) | (with_reducible refine List.forall_mem_append.mpr (And.intro ?_ ?_)) | (with_reducible refine sub_cons ?_) | (with_reducible refine sub_appR ?_) | k_mem))))); (case e1 => exact exact_whole))
  case dec D c e V u' w' k' hm hI =>
    have a1 := hI.elo
    have a2 := hI.ehi
    have a3 := hI.lo
    have a4 := hI.hi
    refine wpAny_call ?_
    k_dflt cell_enter
    k_steps
    all_goals (refine cb_retI (Q := Q) hret ?e1 ?e2 ?e3; (case e2 => k_asm); (case e3 => first | k_asm | (refine' cb_drop ?cbN ?cbS; (case cbN => assumption); (case cbS => (repeat' (first | (with_reducible exact fun _ h => h) | (with_reducible exact fun _ h => List.mem_append_left _ h) | (with_reducible refine List.forall_mem_cons.mpr (And.intro ?_ ?_)) | (with_reducible refine List.forall_mem_append.mpr (And.intro ?_ ?_)) | (with_reducible refine sub_cons ?_) | (with_reducible refine sub_appR ?_) | k_mem))))); (case e1 => exact exact_dec hI))
section
local macro_rules | `(tactic| walk_at "exec If BoolOp") => `(tactic| (refine pause ?_))
set_option maxRecDepth 100000 in
set_option maxHeartbeats 8000000 in
theorem can_plusR (w mean mg mb news) (v w' : Value) (Xa Ya : Num) (d : Int) (to t8 td : Tok) (hR : RelN news v Xa) (hS : RelN news w' Ya) (hX : Ok d Xa) (hY : Ok d Ya) (hd : 1 ≤ d ∧ d ≤ 5) :
    Can w mean mg mb 213 12 news [.str (Str.ofString "+") to, v, w', .int 8 t8, .int d td] (RetN news (plusN d Xa Ya)) := by
  dsimp only [Can, RetV, RetD, RetN, prg, lo]
  k_fill
  k_with_none
  intro dp un gd cn cs a ccd cl outer A₀ base h₀ L m s Q E B F X N T hkk hdp hun hret
  have hXs := hX.2
  have hYs := hY.2
  refine wpAny_call ?_
  k_dflt cell_enter
  k_steps
  repeat' (unfold Paused; (first | ((with_reducible show wpAny _ _ (PySem.call (Value.ref 157) _) _ _ _); k_dflt (refine' can_isw _ _ _ _ _ _ _ ?p0 _ _ _ _ _ _ _ _ _ _ _ _ _ _ _ _ _ ?k1 ?k2 ?k3 ?k4 ?k5 ?kK ?kd ?ku ?_; (case k1 => k_asm); (case k2 => k_asm); (case k3 => k_asm); (case k4 => k_asm); (case k5 => k_asm); (case kK => first | exact rfl | assumption); (case p0 => first | with_reducible assumption | (refine' RelN.mono ?r1 ?r2; (case r1 => with_reducible assumption); (case r2 => (repeat' (first | (with_reducible exact fun _ h => h) | (with_reducible exact fun _ h => List.mem_append_left _ h) | (with_reducible refine List.forall_mem_cons.mpr (And.intro ?_ ?_)) | (with_reducible refine List.forall_mem_append.mpr (And.intro ?_ ?_)) | (with_reducible refine sub_cons ?_) | (with_reducible refine sub_appR ?_) | k_mem))))); (case kd => first | exact room hdp (by decide) | ((try simp only [depth_under_make, depth_under_kw, depth_in1, depth_deeper, depth_caller]); (try dsimp only [ktrTop]); omega) | ktr_room); (case ku => first | exact room hun (by decide) | ((try simp only [units_in1, units_deeper, Around.mark_units, units_caller]); (try dsimp only [ktrTop]); omega) | ktr_units)); intro h9 tk9 F9 N9; (try dsimp only [Num.isWb]); (try dsimp only); (try k_fold)) | ((with_reducible show wpAny _ _ (PySem.call (Value.ref 171) _) _ _ _); refine wpAny_call ?_; k_dflt (refine' code_def ?k1 ?k2 ?k3 ?k4 ?k5 ?kA ?kF ?kK ?k6 ?k7 ?k8 ?k9 ?kB ?_ ?c2 ?c3 ?c4 ?c5; (case kA => exact rfl); (case kF => exact rfl); (case kK => first | exact rfl | assumption); (case k1 => k_asm); (case k2 => k_asm); (case k3 => k_asm); (case k4 => k_asm); (case k5 => k_asm); (case k6 => k_is); (case k7 => k_is); (case k8 => ktr_room); (case k9 => exact BindsTo.of_eq rfl); (case c5 => decide); (case kB => exact locs rfl); (case c2 => exact rfl); (case c3 => exact rfl); (case c4 => exact rfl); k_whole; intro g' L' h' FG' F' N' B' X' T'; (try dsimp only); (try k_lift B'); (try k_fold))) | ((with_reducible show wpAny _ _ (PySem.call (Value.ref 108) _) _ _ _); k_dflt (refine' can_dadd _ _ _ _ _ _ _ _ _ _ _ _ _ _ _ _ _ _ _ _ _ ?p0 ?p1 ?p2 ?p3 ?p4 ?p5 ?p6 _ _ _ _ _ _ _ _ _ _ _ _ _ _ _ _ _ ?k1 ?k2 ?k3 ?k4 ?k5 ?kK ?kd ?ku ?_; (case k1 => k_asm); (case k2 => k_asm); (case k3 => k_asm); (case k4 => k_asm); (case k5 => k_asm); (case kK => first | exact rfl | assumption); (case p0 => k_mem); (case p1 => k_mem); (case p2 => assumption); (case p3 => assumption); (case p4 => assumption); (case p5 => assumption); (case p6 => assumption); (case kd => first | exact room hdp (by decide) | ((try simp only [depth_under_make, depth_under_kw, depth_in1, depth_deeper, depth_caller]); (try dsimp only [ktrTop]); omega) | ktr_room); (case ku => first | exact room hun (by decide) | ((try simp only [units_in1, units_deeper, Around.mark_units, units_caller]); (try dsimp only [ktrTop]); omega) | ktr_units)); intro D9 c9 e9 t9 u9 k9 h9 tk9 P9 F9 N9 l9; (obtain ⟨P91, P92, P93, P94, P95⟩ := P9); (try simp only [AllLt, and_true] at l9); (try dsimp only); (try k_fold)) | ((with_reducible show wpAny _ _ (PySem.call (Value.ref 115) _) _ _ _); k_dflt (refine' can_dsub _ _ _ _ _ _ _ _ _ _ _ _ _ _ _ _ _ _ _ _ _ ?p0 ?p1 ?p2 ?p3 ?p4 ?p5 ?p6 _ _ _ _ _ _ _ _ _ _ _ _ _ _ _ _ _ ?k1 ?k2 ?k3 ?k4 ?k5 ?kK ?kd ?ku ?_; (case k1 => k_asm); (case k2 => k_asm); (case k3 => k_asm); (case k4 => k_asm); (case k5 => k_asm); (case kK => first | exact rfl | assumption); (case p0 => k_mem); (case p1 => k_mem); (case p2 => assumption); (case p3 => assumption); (case p4 => assumption); (case p5 => assumption); (case p6 => assumption); (case kd => first | exact room hdp (by decide) | ((try simp only [depth_under_make, depth_under_kw, depth_in1, depth_deeper, depth_caller]); (try dsimp only [ktrTop]); omega) | ktr_room); (case ku => first | exact room hun (by decide) | ((try simp only [units_in1, units_deeper, Around.mark_units, units_caller]); (try dsimp only [ktrTop]); omega) | ktr_units)); intro D9 c9 e9 t9 u9 k9 h9 tk9 P9 F9 N9 l9; (obtain ⟨P91, P92, P93, P94, P95⟩ := P9); (try simp only [AllLt, and_true] at l9); (try dsimp only); (try k_fold)) | ((with_reducible show wpAny _ _ (PySem.call (Value.ref 164) _) _ _ _); k_dflt (refine' can_settled _ _ _ _ _ _ _ _ _ _ ?p0 ?p1 _ _ _ _ _ _ _ _ _ _ _ _ _ _ _ _ _ ?k1 ?k2 ?k3 ?k4 ?k5 ?kK ?kd ?ku ?_; (case k1 => k_asm); (case k2 => k_asm); (case k3 => k_asm); (case k4 => k_asm); (case k5 => k_asm); (case kK => first | exact rfl | assumption); (case p0 => omega); (case p1 => assumption); (case kd => first | exact room hdp (by decide) | ((try simp only [depth_under_make, depth_under_kw, depth_in1, depth_deeper, depth_caller]); (try dsimp only [ktrTop]); omega) | ktr_room); (case ku => first | exact room hun (by decide) | ((try simp only [units_in1, units_deeper, Around.mark_units, units_caller]); (try dsimp only [ktrTop]); omega) | ktr_units)); intro r9 tl9 h9 tk9 R9 F9 N9 l9; (try dsimp only); (try k_fold)) | ((with_reducible show wpAny _ _ (PySem.call (Value.ref 86) _) _ _ _); k_dflt (refine' can_decimal _ _ _ _ _ _ _ _ _ ?p0 ?p1 ?p2 _ _ _ _ _ _ _ _ _ _ _ _ _ _ _ _ _ ?k1 ?k2 ?k3 ?k4 ?k5 ?kK ?kd ?ku ?_; (case k1 => k_asm); (case k2 => k_asm); (case k3 => k_asm); (case k4 => k_asm); (case k5 => k_asm); (case kK => first | exact rfl | assumption); (case p0 => first | with_reducible assumption | (refine' RelN.mono ?r1 ?r2; (case r1 => with_reducible assumption); (case r2 => (repeat' (first | (with_reducible exact fun _ h => h) | (with_reducible exact fun _ h => List.mem_append_left _ h) | (with_reducible refine List.forall_mem_cons.mpr (And.intro ?_ ?_)) | (with_reducible refine List.forall_mem_append.mpr (And.intro ?_ ?_)) | (with_reducible refine sub_cons ?_) | (with_reducible refine sub_appR ?_) | k_mem))))); (case p1 => assumption); (case p2 => assumption); (case kd => first | exact room hdp (by decide) | ((try simp only [depth_under_make, depth_under_kw, depth_in1, depth_deeper, depth_caller]); (try dsimp only [ktrTop]); omega) | ktr_room); (case ku => first | exact room hun (by decide) | ((try simp only [units_in1, units_deeper, Around.mark_units, units_caller]); (try dsimp only [ktrTop]); omega) | ktr_units)); intro D9 c9 e9 t9 u9 k9 h9 tk9 P9 F9 N9 l9; (obtain ⟨P91, P92, P93, P94, P95⟩ := P9); (try simp only [AllLt, and_true] at l9); (try dsimp only); (try k_fold)) ); (try k_steps))
  unfold Paused
  refine wpAny_If ?_
  k_steps
  repeat' (unfold Paused; (first | ((with_reducible show wpAny _ _ (PySem.call (Value.ref 157) _) _ _ _); k_dflt (refine' can_isw _ _ _ _ _ _ _ ?p0 _ _ _ _ _ _ _ _ _ _ _ _ _ _ _ _ _ ?k1 ?k2 ?k3 ?k4 ?k5 ?kK ?kd ?ku ?_; (case k1 => k_asm); (case k2 => k_asm); (case k3 => k_asm); (case k4 => k_asm); (case k5 => k_asm); (case kK => first | exact rfl | assumption); (case p0 => first | with_reducible assumption | (refine' RelN.mono ?r1 ?r2; (case r1 => with_reducible assumption); (case r2 => (repeat' (first | (with_reducible exact fun _ h => h) | (with_reducible exact fun _ h => List.mem_append_left _ h) | (with_reducible refine List.forall_mem_cons.mpr (And.intro ?_ ?_)) | (with_reducible refine List.forall_mem_append.mpr (And.intro ?_ ?_)) | (with_reducible refine sub_cons ?_) | (with_reducible refine sub_appR ?_) | k_mem))))); (case kd => first | exact room hdp (by decide) | ((try simp only [depth_under_make, depth_under_kw, depth_in1, depth_deeper, depth_caller]); (try dsimp only [ktrTop]); omega) | ktr_room); (case ku => first | exact room hun (by decide) | ((try simp only [units_in1, units_deeper, Around.mark_units, units_caller]); (try dsimp only [ktrTop]); omega) | ktr_units)); intro h9 tk9 F9 N9; (try dsimp only [Num.isWb]); (try dsimp only); (try k_fold)) | ((with_reducible show wpAny _ _ (PySem.call (Value.ref 171) _) _ _ _); refine wpAny_call ?_; k_dflt (refine' code_def ?k1 ?k2 ?k3 ?k4 ?k5 ?kA ?kF ?kK ?k6 ?k7 ?k8 ?k9 ?kB ?_ ?c2 ?c3 ?c4 ?c5; (case kA => exact rfl); (case kF => exact rfl); (case kK => first | exact rfl | assumption); (case k1 => k_asm); (case k2 => k_asm); (case k3 => k_asm); (case k4 => k_asm); (case k5 => k_asm); (case k6 => k_is); (case k7 => k_is); (case k8 => ktr_room); (case k9 => exact BindsTo.of_eq rfl); (case c5 => decide); (case kB => exact locs rfl); (case c2 => exact rfl); (case c3 => exact rfl); (case c4 => exact rfl); k_whole; intro g' L' h' FG' F' N' B' X' T'; (try dsimp only); (try k_lift B'); (try k_fold))) | ((with_reducible show wpAny _ _ (PySem.call (Value.ref 108) _) _ _ _); k_dflt (refine' can_dadd _ _ _ _ _ _ _ _ _ _ _ _ _ _ _ _ _ _ _ _ _ ?p0 ?p1 ?p2 ?p3 ?p4 ?p5 ?p6 _ _ _ _ _ _ _ _ _ _ _ _ _ _ _ _ _ ?k1 ?k2 ?k3 ?k4 ?k5 ?kK ?kd ?ku ?_; (case k1 => k_asm); (case k2 => k_asm); (case k3 => k_asm); (case k4 => k_asm); (case k5 => k_asm); (case kK => first | exact rfl | assumption); (case p0 => k_mem); (case p1 => k_mem); (case p2 => assumption); (case p3 => assumption); (case p4 => assumption); (case p5 => assumption); (case p6 => assumption); (case kd => first | exact room hdp (by decide) | ((try simp only [depth_under_make, depth_under_kw, depth_in1, depth_deeper, depth_caller]); (try dsimp only [ktrTop]); omega) | ktr_room); (case ku => first | exact room hun (by decide) | ((try simp only [units_in1, units_deeper, Around.mark_units, units_caller]); (try dsimp only [ktrTop]); omega) | ktr_units)); intro D9 c9 e9 t9 u9 k9 h9 tk9 P9 F9 N9 l9; (obtain ⟨P91, P92, P93, P94, P95⟩ := P9); (try simp only [AllLt, and_true] at l9); (try dsimp only); (try k_fold)) | ((with_reducible show wpAny _ _ (PySem.call (Value.ref 115) _) _ _ _); k_dflt (refine' can_dsub _ _ _ _ _ _ _ _ _ _ _ _ _ _ _ _ _ _ _ _ _ ?p0 ?p1 ?p2 ?p3 ?p4 ?p5 ?p6 _ _ _ _ _ _ _ _ _ _ _ _ _ _ _ _ _ ?k1 ?k2 ?k3 ?k4 ?k5 ?kK ?kd ?ku ?_; (case k1 => k_asm); (case k2 => k_asm); (case k3 => k_asm); (case k4 => k_asm); (case k5 => k_asm); (case kK => first | exact rfl | assumption); (case p0 => k_mem); (case p1 => k_mem); (case p2 => assumption); (case p3 => assumption); (case p4 => assumption); (case p5 => assumption); (case p6 => assumption); (case kd => first | exact room hdp (by decide) | ((try simp only [depth_under_make, depth_under_kw, depth_in1, depth_deeper, depth_caller]); (try dsimp only [ktrTop]); omega) | ktr_room); (case ku => first | exact room hun (by decide) | ((try simp only [units_in1, units_deeper, Around.mark_units, units_caller]); (try dsimp only [ktrTop]); omega) | ktr_units)); intro D9 c9 e9 t9 u9 k9 h9 tk9 P9 F9 N9 l9; (obtain ⟨P91, P92, P93, P94, P95⟩ := P9); (try simp only [AllLt, and_true] at l9); (try dsimp only); (try k_fold)) | ((with_reducible show wpAny _ _ (PySem.call (Value.ref 164) _) _ _ _); k_dflt (refine' can_settled _ _ _ _ _ _ _ _ _ _ ?p0 ?p1 _ _ _ _ _ _ _ _ _ _ _ _ _ _ _ _ _ ?k1 ?k2 ?k3 ?k4 ?k5 ?kK ?kd ?ku ?_; (case k1 => k_asm); (case k2 => k_asm); (case k3 => k_asm); (case k4 => k_asm); (case k5 => k_asm); (case kK => first | exact rfl | assumption); (case p0 => omega); (case p1 => assumption); (case kd => first | exact room hdp (by decide) | ((try simp only [depth_under_make, depth_under_kw, depth_in1, depth_deeper, depth_caller]); (try dsimp only [ktrTop]); omega) | ktr_room); (case ku => first | exact room hun (by decide) | ((try simp only [units_in1, units_deeper, Around.mark_units, units_caller]); (try dsimp only [ktrTop]); omega) | ktr_units)); intro r9 tl9 h9 tk9 R9 F9 N9 l9; (try dsimp only); (try k_fold)) | ((with_reducible show wpAny _ _ (PySem.call (Value.ref 86) _) _ _ _); k_dflt (refine' can_decimal _ _ _ _ _ _ _ _ _ ?p0 ?p1 ?p2 _ _ _ _ _ _ _ _ _ _ _ _ _ _ _ _ _ ?k1 ?k2 ?k3 ?k4 ?k5 ?kK ?kd ?ku ?_; (case k1 => k_asm); (case k2 => k_asm); (case k3 => k_asm); (case k4 => k_asm); (case k5 => k_asm); (case kK => first | exact rfl | assumption); (case p0 => first | with_reducible assumption | (refine' RelN.mono ?r1 ?r2; (case r1 => with_reducible assumption); (case r2 => (repeat' (first | (with_reducible exact fun _ h => h) | (with_reducible exact fun _ h => List.mem_append_left _ h) | (with_reducible refine List.forall_mem_cons.mpr (And.intro ?_ ?_)) | (with_reducible refine List.forall_mem_append.mpr (And.intro ?_ ?_)) | (with_reducible refine sub_cons ?_) | (with_reducible refine sub_appR ?_) | k_mem))))); (case p1 => assumption); (case p2 => assumption); (case kd => first | exact room hdp (by decide) | ((try simp only [depth_under_make, depth_under_kw, depth_in1, depth_deeper, depth_caller]); (try dsimp only [ktrTop]); omega) | ktr_room); (case ku => first | exact room hun (by decide) | ((try simp only [units_in1, units_deeper, Around.mark_units, units_caller]); (try dsimp only [ktrTop]); omega) | ktr_units)); intro D9 c9 e9 t9 u9 k9 h9 tk9 P9 F9 N9 l9; (obtain ⟨P91, P92, P93, P94, P95⟩ := P9); (try simp only [AllLt, and_true] at l9); (try dsimp only); (try k_fold)) ); (try k_steps))
  unfold Paused
  rename News _ _ _ _ => kN
  rename Fr _ _ _ _ => kF
  refine' join_if (Xa.isWb && Ya.isWb) kF kN ?jc ?j1 ?j2
  case jc =>
    have hR' := hR
    have hS' := hS
    cases hR with
    | whole b1 b2 =>
      cases hS with
      | whole b3 b4 =>
        k_steps
        repeat' (unfold Paused; (first | ((with_reducible show wpAny _ _ (PySem.call (Value.ref 157) _) _ _ _); k_dflt (refine' can_isw _ _ _ _ _ _ _ ?p0 _ _ _ _ _ _ _ _ _ _ _ _ _ _ _ _ _ ?k1 ?k2 ?k3 ?k4 ?k5 ?kK ?kd ?ku ?_; (case k1 => k_asm); (case k2 => k_asm); (case k3 => k_asm); (case k4 => k_asm); (case k5 => k_asm); (case kK => first | exact rfl | assumption); (case p0 => first | with_reducible assumption | (refine' RelN.mono ?r1 ?r2; (case r1 => with_reducible assumption); (case r2 => (repeat' (first | (with_reducible exact fun _ h => h) | (with_reducible exact fun _ h => List.mem_append_left _ h) | (with_reducible refine List.forall_mem_cons.mpr (And.intro ?_ ?_)) | (with_reducible refine List.forall_mem_append.mpr (And.intro ?_ ?_)) | (with_reducible refine sub_cons ?_) | (with_reducible refine sub_appR ?_) | k_mem))))); (case kd => first | exact room hdp (by decide) | ((try simp only [depth_under_make, depth_under_kw, depth_in1, depth_deeper, depth_caller]); (try dsimp only [ktrTop]); omega) | ktr_room); (case ku => first | exact room hun (by decide) | ((try simp only [units_in1, units_deeper, Around.mark_units, units_caller]); (try dsimp only [ktrTop]); omega) | ktr_units)); intro h9 tk9 F9 N9; (try dsimp only [Num.isWb]); (try dsimp only); (try k_fold)) | ((with_reducible show wpAny _ _ (PySem.call (Value.ref 171) _) _ _ _); refine wpAny_call ?_; k_dflt (refine' code_def ?k1 ?k2 ?k3 ?k4 ?k5 ?kA ?kF ?kK ?k6 ?k7 ?k8 ?k9 ?kB ?_ ?c2 ?c3 ?c4 ?c5; (case kA => exact rfl); (case kF => exact rfl); (case kK => first | exact rfl | assumption); (case k1 => k_asm); (case k2 => k_asm); (case k3 => k_asm); (case k4 => k_asm); (case k5 => k_asm); (case k6 => k_is); (case k7 => k_is); (case k8 => ktr_room); (case k9 => exact BindsTo.of_eq rfl); (case c5 => decide); (case kB => exact locs rfl); (case c2 => exact rfl); (case c3 => exact rfl); (case c4 => exact rfl); k_whole; intro g' L' h' FG' F' N' B' X' T'; (try dsimp only); (try k_lift B'); (try k_fold))) | ((with_reducible show wpAny _ _ (PySem.call (Value.ref 108) _) _ _ _); k_dflt (refine' can_dadd _ _ _ _ _ _ _ _ _ _ _ _ _ _ _ _ _ _ _ _ _ ?p0 ?p1 ?p2 ?p3 ?p4 ?p5 ?p6 _ _ _ _ _ _ _ _ _ _ _ _ _ _ _ _ _ ?k1 ?k2 ?k3 ?k4 ?k5 ?kK ?kd ?ku ?_; (case k1 => k_asm); (case k2 => k_asm); (case k3 => k_asm); (case k4 => k_asm); (case k5 => k_asm); (case kK => first | exact rfl | assumption); (case p0 => k_mem); (case p1 => k_mem); (case p2 => assumption); (case p3 => assumption); (case p4 => assumption); (case p5 => assumption); (case p6 => assumption); (case kd => first | exact room hdp (by decide) | ((try simp only [depth_under_make, depth_under_kw, depth_in1, depth_deeper, depth_caller]); (try dsimp only [ktrTop]); omega) | ktr_room); (case ku => first | exact room hun (by decide) | ((try simp only [units_in1, units_deeper, Around.mark_units, units_caller]); (try dsimp only [ktrTop]); omega) | ktr_units)); intro D9 c9 e9 t9 u9 k9 h9 tk9 P9 F9 N9 l9; (obtain ⟨P91, P92, P93, P94, P95⟩ := P9); (try simp only [AllLt, and_true] at l9); (try dsimp only); (try k_fold)) | ((with_reducible show wpAny _ _ (PySem.call (Value.ref 115) _) _ _ _); k_dflt (refine' can_dsub _ _ _ _ _ _ _ _ _ _ _ _ _ _ _ _ _ _ _ _ _ ?p0 ?p1 ?p2 ?p3 ?p4 ?p5 ?p6 _ _ _ _ _ _ _ _ _ _ _ _ _ _ _ _ _ ?k1 ?k2 ?k3 ?k4 ?k5 ?kK ?kd ?ku ?_; (case k1 => k_asm); (case k2 => k_asm); (case k3 => k_asm); (case k4 => k_asm); (case k5 => k_asm); (case kK => first | exact rfl | assumption); (case p0 => k_mem); (case p1 => k_mem); (case p2 => assumption); (case p3 => assumption); (case p4 => assumption); (case p5 => assumption); (case p6 => assumption); (case kd => first | exact room hdp (by decide) | ((try simp only [depth_under_make, depth_under_kw, depth_in1, depth_deeper, depth_caller]); (try dsimp only [ktrTop]); omega) | ktr_room); (case ku => first | exact room hun (by decide) | ((try simp only [units_in1, units_deeper, Around.mark_units, units_caller]); (try dsimp only [ktrTop]); omega) | ktr_units)); intro D9 c9 e9 t9 u9 k9 h9 tk9 P9 F9 N9 l9; (obtain ⟨P91, P92, P93, P94, P95⟩ := P9); (try simp only [AllLt, and_true] at l9); (try dsimp only); (try k_fold)) | ((with_reducible show wpAny _ _ (PySem.call (Value.ref 164) _) _ _ _); k_dflt (refine' can_settled _ _ _ _ _ _ _ _ _ _ ?p0 ?p1 _ _ _ _ _ _ _ _ _ _ _ _ _ _ _ _ _ ?k1 ?k2 ?k3 ?k4 ?k5 ?kK ?kd ?ku ?_; (case k1 => k_asm); (case k2 => k_asm); (case k3 => k_asm); (case k4 => k_asm); (case k5 => k_asm); (case kK => first | exact rfl | assumption); (case p0 => omega); (case p1 => assumption); (case kd => first | exact room hdp (by decide) | ((try simp only [depth_under_make, depth_under_kw, depth_in1, depth_deeper, depth_caller]); (try dsimp only [ktrTop]); omega) | ktr_room); (case ku => first | exact room hun (by decide) | ((try simp only [units_in1, units_deeper, Around.mark_units, units_caller]); (try dsimp only [ktrTop]); omega) | ktr_units)); intro r9 tl9 h9 tk9 R9 F9 N9 l9; (try dsimp only); (try k_fold)) | ((with_reducible show wpAny _ _ (PySem.call (Value.ref 86) _) _ _ _); k_dflt (refine' can_decimal _ _ _ _ _ _ _ _ _ ?p0 ?p1 ?p2 _ _ _ _ _ _ _ _ _ _ _ _ _ _ _ _ _ ?k1 ?k2 ?k3 ?k4 ?k5 ?kK ?kd ?ku ?_; (case k1 => k_asm); (case k2 => k_asm); (case k3 => k_asm); (case k4 => k_asm); (case k5 => k_asm); (case kK => first | exact rfl | assumption); (case p0 => first | with_reducible assumption | (refine' RelN.mono ?r1 ?r2; (case r1 => with_reducible assumption); (case r2 => (repeat' (first | (with_reducible exact fun _ h => h) | (with_reducible exact fun _ h => List.mem_append_left _ h) | (with_reducible refine List.forall_mem_cons.mpr (And.intro ?_ ?_)) | (with_reducible refine List.forall_mem_append.mpr (And.intro ?_ ?_)) | (with_reducible refine sub_cons ?_) | (with_reducible refine sub_appR ?_) | k_mem))))); (case p1 => assumption); (case p2 => assumption); (case kd => first | exact room hdp (by decide) | ((try simp only [depth_under_make, depth_under_kw, depth_in1, depth_deeper, depth_caller]); (try dsimp only [ktrTop]); omega) | ktr_room); (case ku => first | exact room hun (by decide) | ((try simp only [units_in1, units_deeper, Around.mark_units, units_caller]); (try dsimp only [ktrTop]); omega) | ktr_units)); intro D9 c9 e9 t9 u9 k9 h9 tk9 P9 F9 N9 l9; (obtain ⟨P91, P92, P93, P94, P95⟩ := P9); (try simp only [AllLt, and_true] at l9); (try dsimp only); (try k_fold)) ); (try k_steps))
        exact jt0 rfl (by k_asm) (by assumption)
      | dec hm2 hI2 =>
        k_steps
        repeat' (unfold Paused; (first | ((with_reducible show wpAny _ _ (PySem.call (Value.ref 157) _) _ _ _); k_dflt (refine' can_isw _ _ _ _ _ _ _ ?p0 _ _ _ _ _ _ _ _ _ _ _ _ _ _ _ _ _ ?k1 ?k2 ?k3 ?k4 ?k5 ?kK ?kd ?ku ?_; (case k1 => k_asm); (case k2 => k_asm); (case k3 => k_asm); (case k4 => k_asm); (case k5 => k_asm); (case kK => first | exact rfl | assumption); (case p0 => first | with_reducible assumption | (refine' RelN.mono ?r1 ?r2; (case r1 => with_reducible assumption); (case r2 => (repeat' (first | (with_reducible exact fun _ h => h) | (with_reducible exact fun _ h => List.mem_append_left _ h) | (with_reducible refine List.forall_mem_cons.mpr (And.intro ?_ ?_)) | (with_reducible refine List.forall_mem_append.mpr (And.intro ?_ ?_)) | (with_reducible refine sub_cons ?_) | (with_reducible refine sub_appR ?_) | k_mem))))); (case kd => first | exact room hdp (by decide) | ((try simp only [depth_under_make, depth_under_kw, depth_in1, depth_deeper, depth_caller]); (try dsimp only [ktrTop]); omega) | ktr_room); (case ku => first | exact room hun (by decide) | ((try simp only [units_in1, units_deeper, Around.mark_units, units_caller]); (try dsimp only [ktrTop]); omega) | ktr_units)); intro h9 tk9 F9 N9; (try dsimp only [Num.isWb]); (try dsimp only); (try k_fold)) | ((with_reducible show wpAny _ _ (PySem.call (Value.ref 171) _) _ _ _); refine wpAny_call ?_; k_dflt (refine' code_def ?k1 ?k2 ?k3 ?k4 ?k5 ?kA ?kF ?kK ?k6 ?k7 ?k8 ?k9 ?kB ?_ ?c2 ?c3 ?c4 ?c5; (case kA => exact rfl); (case kF => exact rfl); (case kK => first | exact rfl | assumption); (case k1 => k_asm); (case k2 => k_asm); (case k3 => k_asm); (case k4 => k_asm); (case k5 => k_asm); (case k6 => k_is); (case k7 => k_is); (case k8 => ktr_room); (case k9 => exact BindsTo.of_eq rfl); (case c5 => decide); (case kB => exact locs rfl); (case c2 => exact rfl); (case c3 => exact rfl); (case c4 => exact rfl); k_whole; intro g' L' h' FG' F' N' B' X' T'; (try dsimp only); (try k_lift B'); (try k_fold))) | ((with_reducible show wpAny _ _ (PySem.call (Value.ref 108) _) _ _ _); k_dflt (refine' can_dadd _ _ _ _ _ _ _ _ _ _ _ _ _ _ _ _ _ _ _ _ _ ?p0 ?p1 ?p2 ?p3 ?p4 ?p5 ?p6 _ _ _ _ _ _ _ _ _ _ _ _ _ _ _ _ _ ?k1 ?k2 ?k3 ?k4 ?k5 ?kK ?kd ?ku ?_; (case k1 => k_asm); (case k2 => k_asm); (case k3 => k_asm); (case k4 => k_asm); (case k5 => k_asm); (case kK => first | exact rfl | assumption); (case p0 => k_mem); (case p1 => k_mem); (case p2 => assumption); (case p3 => assumption); (case p4 => assumption); (case p5 => assumption); (case p6 => assumption); (case kd => first | exact room hdp (by decide) | ((try simp only [depth_under_make, depth_under_kw, depth_in1, depth_deeper, depth_caller]); (try dsimp only [ktrTop]); omega) | ktr_room); (case ku => first | exact room hun (by decide) | ((try simp only [units_in1, units_deeper, Around.mark_units, units_caller]); (try dsimp only [ktrTop]); omega) | ktr_units)); intro D9 c9 e9 t9 u9 k9 h9 tk9 P9 F9 N9 l9; (obtain ⟨P91, P92, P93, P94, P95⟩ := P9); (try simp only [AllLt, and_true] at l9); (try dsimp only); (try k_fold)) | ((with_reducible show wpAny _ _ (PySem.call (Value.ref 115) _) _ _ _); k_dflt (refine' can_dsub _ _ _ _ _ _ _ _ _ _ _ _ _ _ _ _ _ _ _ _ _ ?p0 ?p1 ?p2 ?p3 ?p4 ?p5 ?p6 _ _ _ _ _ _ _ _ _ _ _ _ _ _ _ _ _ ?k1 ?k2 ?k3 ?k4 ?k5 ?kK ?kd ?ku ?_; (case k1 => k_asm); (case k2 => k_asm); (case k3 => k_asm); (case k4 => k_asm); (case k5 => k_asm); (case kK => first | exact rfl | assumption); (case p0 => k_mem); (case p1 => k_mem); (case p2 => assumption); (case p3 => assumption); (case p4 => assumption); (case p5 => assumption); (case p6 => assumption); (case kd => first | exact room hdp (by decide) | ((try simp only [depth_under_make, depth_under_kw, depth_in1, depth_deeper, depth_caller]); (try dsimp only [ktrTop]); omega) | ktr_room); (case ku => first | exact room hun (by decide) | ((try simp only [units_in1, units_deeper, Around.mark_units, units_caller]); (try dsimp only [ktrTop]); omega) | ktr_units)); intro D9 c9 e9 t9 u9 k9 h9 tk9 P9 F9 N9 l9; (obtain ⟨P91, P92, P93, P94, P95⟩ := P9); (try simp only [AllLt, and_true] at l9); (try dsimp only); (try k_fold)) | ((with_reducible show wpAny _ _ (PySem.call (Value.ref 164) _) _ _ _); k_dflt (refine' can_settled _ _ _ _ _ _ _ _ _ _ ?p0 ?p1 _ _ _ _ _ _ _ _ _ _ _ _ _ _ _ _ _ ?k1 ?k2 ?k3 ?k4 ?k5 ?kK ?kd ?ku ?_; (case k1 => k_asm); (case k2 => k_asm); (case k3 => k_asm); (case k4 => k_asm); (case k5 => k_asm); (case kK => first | exact rfl | assumption); (case p0 => omega); (case p1 => assumption); (case kd => first | exact room hdp (by decide) | ((try simp only [depth_under_make, depth_under_kw, depth_in1, depth_deeper, depth_caller]); (try dsimp only [ktrTop]); omega) | ktr_room); (case ku => first | exact room hun (by decide) | ((try simp only [units_in1, units_deeper, Around.mark_units, units_caller]); (try dsimp only [ktrTop]); omega) | ktr_units)); intro r9 tl9 h9 tk9 R9 F9 N9 l9; (try dsimp only); (try k_fold)) | ((with_reducible show wpAny _ _ (PySem.call (Value.ref 86) _) _ _ _); k_dflt (refine' can_decimal _ _ _ _ _ _ _ _ _ ?p0 ?p1 ?p2 _ _ _ _ _ _ _ _ _ _ _ _ _ _ _ _ _ ?k1 ?k2 ?k3 ?k4 ?k5 ?kK ?kd ?ku ?_; (case k1 => k_asm); (case k2 => k_asm); (case k3 => k_asm); (case k4 => k_asm); (case k5 => k_asm); (case kK => first | exact rfl | assumption); (case p0 => first | with_reducible assumption | (refine' RelN.mono ?r1 ?r2; (case r1 => with_reducible assumption); (case r2 => (repeat' (first | (with_reducible exact fun _ h => h) | (with_reducible exact fun _ h => List.mem_append_left _ h) | (with_reducible refine List.forall_mem_cons.mpr (And.intro ?_ ?_)) | (with_reducible refine List.forall_mem_append.mpr (And.intro ?_ ?_)) | (with_reducible refine sub_cons ?_) | (with_reducible refine sub_appR ?_) | k_mem))))); (case p1 => assumption); (case p2 => assumption); (case kd => first | exact room hdp (by decide) | ((try simp only [depth_under_make, depth_under_kw, depth_in1, depth_deeper, depth_caller]); (try dsimp only [ktrTop]); omega) | ktr_room); (case ku => first | exact room hun (by decide) | ((try simp only [units_in1, units_deeper, Around.mark_units, units_caller]); (try dsimp only [ktrTop]); omega) | ktr_units)); intro D9 c9 e9 t9 u9 k9 h9 tk9 P9 F9 N9 l9; (obtain ⟨P91, P92, P93, P94, P95⟩ := P9); (try simp only [AllLt, and_true] at l9); (try dsimp only); (try k_fold)) ); (try k_steps))
        exact jt0 rfl (by k_asm) (by assumption)
    | dec hm1 hI1 =>
      k_steps
      repeat' (unfold Paused; (first | ((with_reducible show wpAny _ _ (PySem.call (Value.ref 157) _) _ _ _); k_dflt (refine' can_isw _ _ _ _ _ _ _ ?p0 _ _ _ _ _ _ _ _ _ _ _ _ _ _ _ _ _ ?k1 ?k2 ?k3 ?k4 ?k5 ?kK ?kd ?ku ?_; (case k1 => k_asm); (case k2 => k_asm); (case k3 => k_asm); (case k4 => k_asm); (case k5 => k_asm); (case kK => first | exact rfl | assumption); (case p0 => first | with_reducible assumption | (refine' RelN.mono ?r1 ?r2; (case r1 => with_reducible assumption); (case r2 => (repeat' (first | (with_reducible exact fun _ h => h) | (with_reducible exact fun _ h => List.mem_append_left _ h) | (with_reducible refine List.forall_mem_cons.mpr (And.intro ?_ ?_)) | (with_reducible refine List.forall_mem_append.mpr (And.intro ?_ ?_)) | (with_reducible refine sub_cons ?_) | (with_reducible refine sub_appR ?_) | k_mem))))); (case kd => first | exact room hdp (by decide) | ((try simp only [depth_under_make, depth_under_kw, depth_in1, depth_deeper, depth_caller]); (try dsimp only [ktrTop]); omega) | ktr_room); (case ku => first | exact room hun (by decide) | ((try simp only [units_in1, units_deeper, Around.mark_units, units_caller]); (try dsimp only [ktrTop]); omega) | ktr_units)); intro h9 tk9 F9 N9; (try dsimp only [Num.isWb]); (try dsimp only); (try k_fold)) | ((with_reducible show wpAny _ _ (PySem.call (Value.ref 171) _) _ _ _); refine wpAny_call ?_; k_dflt (refine' code_def ?k1 ?k2 ?k3 ?k4 ?k5 ?kA ?kF ?kK ?k6 ?k7 ?k8 ?k9 ?kB ?_ ?c2 ?c3 ?c4 ?c5; (case kA => exact rfl); (case kF => exact rfl); (case kK => first | exact rfl | assumption); (case k1 => k_asm); (case k2 => k_asm); (case k3 => k_asm); (case k4 => k_asm); (case k5 => k_asm); (case k6 => k_is); (case k7 => k_is); (case k8 => ktr_room); (case k9 => exact BindsTo.of_eq rfl); (case c5 => decide); (case kB => exact locs rfl); (case c2 => exact rfl); (case c3 => exact rfl); (case c4 => exact rfl); k_whole; intro g' L' h' FG' F' N' B' X' T'; (try dsimp only); (try k_lift B'); (try k_fold))) | ((with_reducible show wpAny _ _ (PySem.call (Value.ref 108) _) _ _ _); k_dflt (refine' can_dadd _ _ _ _ _ _ _ _ _ _ _ _ _ _ _ _ _ _ _ _ _ ?p0 ?p1 ?p2 ?p3 ?p4 ?p5 ?p6 _ _ _ _ _ _ _ _ _ _ _ _ _ _ _ _ _ ?k1 ?k2 ?k3 ?k4 ?k5 ?kK ?kd ?ku ?_; (case k1 => k_asm); (case k2 => k_asm); (case k3 => k_asm); (case k4 => k_asm); (case k5 => k_asm); (case kK => first | exact rfl | assumption); (case p0 => k_mem); (case p1 => k_mem); (case p2 => assumption); (case p3 => assumption); (case p4 => assumption); (case p5 => assumption); (case p6 => assumption); (case kd => first | exact room hdp (by decide) | ((try simp only [depth_under_make, depth_under_kw, depth_in1, depth_deeper, depth_caller]); (try dsimp only [ktrTop]); omega) | ktr_room); (case ku => first | exact room hun (by decide) | ((try simp only [units_in1, units_deeper, Around.mark_units, units_caller]); (try dsimp only [ktrTop]); omega) | ktr_units)); intro D9 c9 e9 t9 u9 k9 h9 tk9 P9 F9 N9 l9; (obtain ⟨P91, P92, P93, P94, P95⟩ := P9); (try simp only [AllLt, and_true] at l9); (try dsimp only); (try k_fold)) | ((with_reducible show wpAny _ _ (PySem.call (Value.ref 115) _) _ _ _); k_dflt (refine' can_dsub _ _ _ _ _ _ _ _ _ _ _ _ _ _ _ _ _ _ _ _ _ ?p0 ?p1 ?p2 ?p3 ?p4 ?p5 ?p6 _ _ _ _ _ _ _ _ _ _ _ _ _ _ _ _ _ ?k1 ?k2 ?k3 ?k4 ?k5 ?kK ?kd ?ku ?_; (case k1 => k_asm); (case k2 => k_asm); (case k3 => k_asm); (case k4 => k_asm); (case k5 => k_asm); (case kK => first | exact rfl | assumption); (case p0 => k_mem); (case p1 => k_mem); (case p2 => assumption); (case p3 => assumption); (case p4 => assumption); (case p5 => assumption); (case p6 => assumption); (case kd => first | exact room hdp (by decide) | ((try simp only [depth_under_make, depth_under_kw, depth_in1, depth_deeper, depth_caller]); (try dsimp only [ktrTop]); omega) | ktr_room); (case ku => first | exact room hun (by decide) | ((try simp only [units_in1, units_deeper, Around.mark_units, units_caller]); (try dsimp only [ktrTop]); omega) | ktr_units)); intro D9 c9 e9 t9 u9 k9 h9 tk9 P9 F9 N9 l9; (obtain ⟨P91, P92, P93, P94, P95⟩ := P9); (try simp only [AllLt, and_true] at l9); (try dsimp only); (try k_fold)) | ((with_reducible show wpAny _ _ (PySem.call (Value.ref 164) _) _ _ _); k_dflt (refine' can_settled _ _ _ _ _ _ _ _ _ _ ?p0 ?p1 _ _ _ _ _ _ _ _ _ _ _ _ _ _ _ _ _ ?k1 ?k2 ?k3 ?k4 ?k5 ?kK ?kd ?ku ?_; (case k1 => k_asm); (case k2 => k_asm); (case k3 => k_asm); (case k4 => k_asm); (case k5 => k_asm); (case kK => first | exact rfl | assumption); (case p0 => omega); (case p1 => assumption); (case kd => first | exact room hdp (by decide) | ((try simp only [depth_under_make, depth_under_kw, depth_in1, depth_deeper, depth_caller]); (try dsimp only [ktrTop]); omega) | ktr_room); (case ku => first | exact room hun (by decide) | ((try simp only [units_in1, units_deeper, Around.mark_units, units_caller]); (try dsimp only [ktrTop]); omega) | ktr_units)); intro r9 tl9 h9 tk9 R9 F9 N9 l9; (try dsimp only); (try k_fold)) | ((with_reducible show wpAny _ _ (PySem.call (Value.ref 86) _) _ _ _); k_dflt (refine' can_decimal _ _ _ _ _ _ _ _ _ ?p0 ?p1 ?p2 _ _ _ _ _ _ _ _ _ _ _ _ _ _ _ _ _ ?k1 ?k2 ?k3 ?k4 ?k5 ?kK ?kd ?ku ?_; (case k1 => k_asm); (case k2 => k_asm); (case k3 => k_asm); (case k4 => k_asm); (case k5 => k_asm); (case kK => first | exact rfl | assumption); (case p0 => first | with_reducible assumption | (refine' RelN.mono ?r1 ?r2; (case r1 => with_reducible assumption); (case r2 => (repeat' (first | (with_reducible exact fun _ h => h) | (with_reducible exact fun _ h => List.mem_append_left _ h) | (with_reducible refine List.forall_mem_cons.mpr (And.intro ?_ ?_)) | (with_reducible refine List.forall_mem_append.mpr (And.intro ?_ ?_)) | (with_reducible refine sub_cons ?_) | (with_reducible refine sub_appR ?_) | k_mem))))); (case p1 => assumption); (case p2 => assumption); (case kd => first | exact room hdp (by decide) | ((try simp only [depth_under_make, depth_under_kw, depth_in1, depth_deeper, depth_caller]); (try dsimp only [ktrTop]); omega) | ktr_room); (case ku => first | exact room hun (by decide) | ((try simp only [units_in1, units_deeper, Around.mark_units, units_caller]); (try dsimp only [ktrTop]); omega) | ktr_units)); intro D9 c9 e9 t9 u9 k9 h9 tk9 P9 F9 N9 l9; (obtain ⟨P91, P92, P93, P94, P95⟩ := P9); (try simp only [AllLt, and_true] at l9); (try dsimp only); (try k_fold)) ); (try k_steps))
      exact jt0 rfl (by k_asm) (by assumption)
  case j1 =>
    intro hb h tk tl F1 N1 l1
    have N2 := news_tl N1
    clear N1
    rcases isW_cases (X := Xa) (Y := Ya) with ⟨n, m', rfl, rfl⟩ | hq
    · cases hR with
      | whole b1 b2 =>
        cases hS with
        | whole b3 b4 =>
          k_steps
          repeat' (unfold Paused; (first | ((with_reducible show wpAny _ _ (PySem.call (Value.ref 157) _) _ _ _); k_dflt (refine' can_isw _ _ _ _ _ _ _ ?p0 _ _ _ _ _ _ _ _ _ _ _ _ _ _ _ _ _ ?k1 ?k2 ?k3 ?k4 ?k5 ?kK ?kd ?ku ?_; (case k1 => k_asm); (case k2 => k_asm); (case k3 => k_asm); (case k4 => k_asm); (case k5 => k_asm); (case kK => first | exact rfl | assumption); (case p0 => first | with_reducible assumption | (refine' RelN.mono ?r1 ?r2; (case r1 => with_reducible assumption); (case r2 => (repeat' (first | (with_reducible exact fun _ h => h) | (with_reducible exact fun _ h => List.mem_append_left _ h) | (with_reducible refine List.forall_mem_cons.mpr (And.intro ?_ ?_)) | (with_reducible refine List.forall_mem_append.mpr (And.intro ?_ ?_)) | (with_reducible refine sub_cons ?_) | (with_reducible refine sub_appR ?_) | k_mem))))); (case kd => first | exact room hdp (by decide) | ((try simp only [depth_under_make, depth_under_kw, depth_in1, depth_deeper, depth_caller]); (try dsimp only [ktrTop]); omega) | ktr_room); (case ku => first | exact room hun (by decide) | ((try simp only [units_in1, units_deeper, Around.mark_units, units_caller]); (try dsimp only [ktrTop]); omega) | ktr_units)); intro h9 tk9 F9 N9; (try dsimp only [Num.isWb]); (try dsimp only); (try k_fold)) | ((with_reducible show wpAny _ _ (PySem.call (Value.ref 171) _) _ _ _); refine wpAny_call ?_; k_dflt (refine' code_def ?k1 ?k2 ?k3 ?k4 ?k5 ?kA ?kF ?kK ?k6 ?k7 ?k8 ?k9 ?kB ?_ ?c2 ?c3 ?c4 ?c5; (case kA => exact rfl); (case kF => exact rfl); (case kK => first | exact rfl | assumption); (case k1 => k_asm); (case k2 => k_asm); (case k3 => k_asm); (case k4 => k_asm); (case k5 => k_asm); (case k6 => k_is); (case k7 => k_is); (case k8 => ktr_room); (case k9 => exact BindsTo.of_eq rfl); (case c5 => decide); (case kB => exact locs rfl); (case c2 => exact rfl); (case c3 => exact rfl); (case c4 => exact rfl); k_whole; intro g' L' h' FG' F' N' B' X' T'; (try dsimp only); (try k_lift B'); (try k_fold))) | ((with_reducible show wpAny _ _ (PySem.call (Value.ref 108) _) _ _ _); k_dflt (refine' can_dadd _ _ _ _ _ _ _ _ _ _ _ _ _ _ _ _ _ _ _ _ _ ?p0 ?p1 ?p2 ?p3 ?p4 ?p5 ?p6 _ _ _ _ _ _ _ _ _ _ _ _ _ _ _ _ _ ?k1 ?k2 ?k3 ?k4 ?k5 ?kK ?kd ?ku ?_; (case k1 => k_asm); (case k2 => k_asm); (case k3 => k_asm); (case k4 => k_asm); (case k5 => k_asm); (case kK => first | exact rfl | assumption); (case p0 => k_mem); (case p1 => k_mem); (case p2 => assumption); (case p3 => assumption); (case p4 => assumption); (case p5 => assumption); (case p6 => assumption); (case kd => first | exact room hdp (by decide) | ((try simp only [depth_under_make, depth_under_kw, depth_in1, depth_deeper, depth_caller]); (try dsimp only [ktrTop]); omega) | ktr_room); (case ku => first | exact room hun (by decide) | ((try simp only [units_in1, units_deeper, Around.mark_units, units_caller]); (try dsimp only [ktrTop]); omega) | ktr_units)); intro D9 c9 e9 t9 u9 k9 h9 tk9 P9 F9 N9 l9; (obtain ⟨P91, P92, P93, P94, P95⟩ := P9); (try simp only [AllLt, and_true] at l9); (try dsimp only); (try k_fold)) | ((with_reducible show wpAny _ _ (PySem.call (Value.ref 115) _) _ _ _); k_dflt (refine' can_dsub _ _ _ _ _ _ _ _ _ _ _ _ _ _ _ _ _ _ _ _ _ ?p0 ?p1 ?p2 ?p3 ?p4 ?p5 ?p6 _ _ _ _ _ _ _ _ _ _ _ _ _ _ _ _ _ ?k1 ?k2 ?k3 ?k4 ?k5 ?kK ?kd ?ku ?_; (case k1 => k_asm); (case k2 => k_asm); (case k3 => k_asm); (case k4 => k_asm); (case k5 => k_asm); (case kK => first | exact rfl | assumption); (case p0 => k_mem); (case p1 => k_mem); (case p2 => assumption); (case p3 => assumption); (case p4 => assumption); (case p5 => assumption); (case p6 => assumption); (case kd => first | exact room hdp (by decide) | ((try simp only [depth_under_make, depth_under_kw, depth_in1, depth_deeper, depth_caller]); (try dsimp only [ktrTop]); omega) | ktr_room); (case ku => first | exact room hun (by decide) | ((try simp only [units_in1, units_deeper, Around.mark_units, units_caller]); (try dsimp only [ktrTop]); omega) | ktr_units)); intro D9 c9 e9 t9 u9 k9 h9 tk9 P9 F9 N9 l9; (obtain ⟨P91, P92, P93, P94, P95⟩ := P9); (try simp only [AllLt, and_true] at l9); (try dsimp only); (try k_fold)) | ((with_reducible show wpAny _ _ (PySem.call (Value.ref 164) _) _ _ _); k_dflt (refine' can_settled _ _ _ _ _ _ _ _ _ _ ?p0 ?p1 _ _ _ _ _ _ _ _ _ _ _ _ _ _ _ _ _ ?k1 ?k2 ?k3 ?k4 ?k5 ?kK ?kd ?ku ?_; (case k1 => k_asm); (case k2 => k_asm); (case k3 => k_asm); (case k4 => k_asm); (case k5 => k_asm); (case kK => first | exact rfl | assumption); (case p0 => omega); (case p1 => assumption); (case kd => first | exact room hdp (by decide) | ((try simp only [depth_under_make, depth_under_kw, depth_in1, depth_deeper, depth_caller]); (try dsimp only [ktrTop]); omega) | ktr_room); (case ku => first | exact room hun (by decide) | ((try simp only [units_in1, units_deeper, Around.mark_units, units_caller]); (try dsimp only [ktrTop]); omega) | ktr_units)); intro r9 tl9 h9 tk9 R9 F9 N9 l9; (try dsimp only); (try k_fold)) | ((with_reducible show wpAny _ _ (PySem.call (Value.ref 86) _) _ _ _); k_dflt (refine' can_decimal _ _ _ _ _ _ _ _ _ ?p0 ?p1 ?p2 _ _ _ _ _ _ _ _ _ _ _ _ _ _ _ _ _ ?k1 ?k2 ?k3 ?k4 ?k5 ?kK ?kd ?ku ?_; (case k1 => k_asm); (case k2 => k_asm); (case k3 => k_asm); (case k4 => k_asm); (case k5 => k_asm); (case kK => first | exact rfl | assumption); (case p0 => first | with_reducible assumption | (refine' RelN.mono ?r1 ?r2; (case r1 => with_reducible assumption); (case r2 => (repeat' (first | (with_reducible exact fun _ h => h) | (with_reducible exact fun _ h => List.mem_append_left _ h) | (with_reducible refine List.forall_mem_cons.mpr (And.intro ?_ ?_)) | (with_reducible refine List.forall_mem_append.mpr (And.intro ?_ ?_)) | (with_reducible refine sub_cons ?_) | (with_reducible refine sub_appR ?_) | k_mem))))); (case p1 => assumption); (case p2 => assumption); (case kd => first | exact room hdp (by decide) | ((try simp only [depth_under_make, depth_under_kw, depth_in1, depth_deeper, depth_caller]); (try dsimp only [ktrTop]); omega) | ktr_room); (case ku => first | exact room hun (by decide) | ((try simp only [units_in1, units_deeper, Around.mark_units, units_caller]); (try dsimp only [ktrTop]); omega) | ktr_units)); intro D9 c9 e9 t9 u9 k9 h9 tk9 P9 F9 N9 l9; (obtain ⟨P91, P92, P93, P94, P95⟩ := P9); (try simp only [AllLt, and_true] at l9); (try dsimp only); (try k_fold)) ); (try k_steps))
          all_goals (first | (refine' ret_N1 (Q := Q) hret ?eX ?eR ?eF ?eN ?el ?e1; (case eF => k_asm); (case eN => assumption); (case eR => assumption); (case el => assumption); (case e1 => first | assumption | exact allLt_of (by assumption) | tbn_find | kcu_lt); (case eX => rfl)) | (refine' ret_N (Q := Q) hret ?eX ?eR ?eF ?eN ?es ?el; (case eF => k_asm); (case eN => assumption); (case eR => assumption); (case es => (repeat' (first | (with_reducible exact fun _ h => h) | (with_reducible exact fun _ h => List.mem_append_left _ h) | (with_reducible refine List.forall_mem_cons.mpr (And.intro ?_ ?_)) | (with_reducible refine List.forall_mem_append.mpr (And.intro ?_ ?_)) | (with_reducible refine sub_cons ?_) | (with_reducible refine sub_appR ?_) | k_mem))); (case el => assumption); (case eX => rfl)) | (refine' ret_ND (Q := Q) hret ?eX ?eP ?eF ?eN ?em ?es ?el; (case eF => k_asm); (case eN => assumption); (case em => k_mem); (case es => (repeat' (first | (with_reducible exact fun _ h => h) | (with_reducible exact fun _ h => List.mem_append_left _ h) | (with_reducible refine List.forall_mem_cons.mpr (And.intro ?_ ?_)) | (with_reducible refine List.forall_mem_append.mpr (And.intro ?_ ?_)) | (with_reducible refine sub_cons ?_) | (with_reducible refine sub_appR ?_) | k_mem))); (case el => first | assumption | exact allLt_of (by assumption) | tbn_find | kcu_lt); (case eP => assumption); (case eX => exact plusN_no hb)))
    · exact absurd hb (by rw [hq]; decide)
  case j2 =>
    intro hb h tk tl F1 N1 l1
    have N2 := news_tl N1
    clear N1
    k_steps
    repeat' (unfold Paused; (first | ((with_reducible show wpAny _ _ (PySem.call (Value.ref 157) _) _ _ _); k_dflt (refine' can_isw _ _ _ _ _ _ _ ?p0 _ _ _ _ _ _ _ _ _ _ _ _ _ _ _ _ _ ?k1 ?k2 ?k3 ?k4 ?k5 ?kK ?kd ?ku ?_; (case k1 => k_asm); (case k2 => k_asm); (case k3 => k_asm); (case k4 => k_asm); (case k5 => k_asm); (case kK => first | exact rfl | assumption); (case p0 => first | with_reducible assumption | (refine' RelN.mono ?r1 ?r2; (case r1 => with_reducible assumption); (case r2 => (repeat' (first | (with_reducible exact fun _ h => h) | (with_reducible exact fun _ h => List.mem_append_left _ h) | (with_reducible refine List.forall_mem_cons.mpr (And.intro ?_ ?_)) | (with_reducible refine List.forall_mem_append.mpr (And.intro ?_ ?_)) | (with_reducible refine sub_cons ?_) | (with_reducible refine sub_appR ?_) | k_mem))))); (case kd => first | exact room hdp (by decide) | ((try simp only [depth_under_make, depth_under_kw, depth_in1, depth_deeper, depth_caller]); (try dsimp only [ktrTop]); omega) | ktr_room); (case ku => first | exact room hun (by decide) | ((try simp only [units_in1, units_deeper, Around.mark_units, units_caller]); (try dsimp only [ktrTop]); omega) | ktr_units)); intro h9 tk9 F9 N9; (try dsimp only [Num.isWb]); (try dsimp only); (try k_fold)) | ((with_reducible show wpAny _ _ (PySem.call (Value.ref 171) _) _ _ _); refine wpAny_call ?_; k_dflt (refine' code_def ?k1 ?k2 ?k3 ?k4 ?k5 ?kA ?kF ?kK ?k6 ?k7 ?k8 ?k9 ?kB ?_ ?c2 ?c3 ?c4 ?c5; (case kA => exact rfl); (case kF => exact rfl); (case kK => first | exact rfl | assumption); (case k1 => k_asm); (case k2 => k_asm); (case k3 => k_asm); (case k4 => k_asm); (case k5 => k_asm); (case k6 => k_is); (case k7 => k_is); (case k8 => ktr_room); (case k9 => exact BindsTo.of_eq rfl); (case c5 => decide); (case kB => exact locs rfl); (case c2 => exact rfl); (case c3 => exact rfl); (case c4 => exact rfl); k_whole; intro g' L' h' FG' F' N' B' X' T'; (try dsimp only); (try k_lift B'); (try k_fold))) | ((with_reducible show wpAny _ _ (PySem.call (Value.ref 108) _) _ _ _); k_dflt (refine' can_dadd _ _ _ _ _ _ _ _ _ _ _ _ _ _ _ _ _ _ _ _ _ ?p0 ?p1 ?p2 ?p3 ?p4 ?p5 ?p6 _ _ _ _ _ _ _ _ _ _ _ _ _ _ _ _ _ ?k1 ?k2 ?k3 ?k4 ?k5 ?kK ?kd ?ku ?_; (case k1 => k_asm); (case k2 => k_asm); (case k3 => k_asm); (case k4 => k_asm); (case k5 => k_asm); (case kK => first | exact rfl | assumption); (case p0 => k_mem); (case p1 => k_mem); (case p2 => assumption); (case p3 => assumption); (case p4 => assumption); (case p5 => assumption); (case p6 => assumption); (case kd => first | exact room hdp (by decide) | ((try simp only [depth_under_make, depth_under_kw, depth_in1, depth_deeper, depth_caller]); (try dsimp only [ktrTop]); omega) | ktr_room); (case ku => first | exact room hun (by decide) | ((try simp only [units_in1, units_deeper, Around.mark_units, units_caller]); (try dsimp only [ktrTop]); omega) | ktr_units)); intro D9 c9 e9 t9 u9 k9 h9 tk9 P9 F9 N9 l9; (obtain ⟨P91, P92, P93, P94, P95⟩ := P9); (try simp only [AllLt, and_true] at l9); (try dsimp only); (try k_fold)) | ((with_reducible show wpAny _ _ (PySem.call (Value.ref 115) _) _ _ _); k_dflt (refine' can_dsub _ _ _ _ _ _ _ _ _ _ _ _ _ _ _ _ _ _ _ _ _ ?p0 ?p1 ?p2 ?p3 ?p4 ?p5 ?p6 _ _ _ _ _ _ _ _ _ _ _ _ _ _ _ _ _ ?k1 ?k2 ?k3 ?k4 ?k5 ?kK ?kd ?ku ?_; (case k1 => k_asm); (case k2 => k_asm); (case k3 => k_asm); (case k4 => k_asm); (case k5 => k_asm); (case kK => first | exact rfl | assumption); (case p0 => k_mem); (case p1 => k_mem); (case p2 => assumption); (case p3 => assumption); (case p4 => assumption); (case p5 => assumption); (case p6 => assumption); (case kd => first | exact room hdp (by decide) | ((try simp only [depth_under_make, depth_under_kw, depth_in1, depth_deeper, depth_caller]); (try dsimp only [ktrTop]); omega) | ktr_room); (case ku => first | exact room hun (by decide) | ((try simp only [units_in1, units_deeper, Around.mark_units, units_caller]); (try dsimp only [ktrTop]); omega) | ktr_units)); intro D9 c9 e9 t9 u9 k9 h9 tk9 P9 F9 N9 l9; (obtain ⟨P91, P92, P93, P94, P95⟩ := P9); (try simp only [AllLt, and_true] at l9); (try dsimp only); (try k_fold)) | ((with_reducible show wpAny _ _ (PySem.call (Value.ref 164) _) _ _ _); k_dflt (refine' can_settled _ _ _ _ _ _ _ _ _ _ ?p0 ?p1 _ _ _ _ _ _ _ _ _ _ _ _ _ _ _ _ _ ?k1 ?k2 ?k3 ?k4 ?k5 ?kK ?kd ?ku ?_; (case k1 => k_asm); (case k2 => k_asm); (case k3 => k_asm); (case k4 => k_asm); (case k5 => k_asm); (case kK => first | exact rfl | assumption); (case p0 => omega); (case p1 => assumption); (case kd => first | exact room hdp (by decide) | ((try simp only [depth_under_make, depth_under_kw, depth_in1, depth_deeper, depth_caller]); (try dsimp only [ktrTop]); omega) | ktr_room); (case ku => first | exact room hun (by decide) | ((try simp only [units_in1, units_deeper, Around.mark_units, units_caller]); (try dsimp only [ktrTop]); omega) | ktr_units)); intro r9 tl9 h9 tk9 R9 F9 N9 l9; (try dsimp only); (try k_fold)) | ((with_reducible show wpAny _ _ (PySem.call (Value.ref 86) _) _ _ _); k_dflt (refine' can_decimal _ _ _ _ _ _ _ _ _ ?p0 ?p1 ?p2 _ _ _ _ _ _ _ _ _ _ _ _ _ _ _ _ _ ?k1 ?k2 ?k3 ?k4 ?k5 ?kK ?kd ?ku ?_; (case k1 => k_asm); (case k2 => k_asm); (case k3 => k_asm); (case k4 => k_asm); (case k5 => k_asm); (case kK => first | exact rfl | assumption); (case p0 => first | with_reducible assumption | (refine' RelN.mono ?r1 ?r2; (case r1 => with_reducible assumption); (case r2 => (repeat' (first | (with_reducible exact fun _ h => h) | (with_reducible exact fun _ h => List.mem_append_left _ h) | (with_reducible refine List.forall_mem_cons.mpr (And.intro ?_ ?_)) | (with_reducible refine List.forall_mem_append.mpr (And.intro ?_ ?_)) | (with_reducible refine sub_cons ?_) | (with_reducible refine sub_appR ?_) | k_mem))))); (case p1 => assumption); (case p2 => assumption); (case kd => first | exact room hdp (by decide) | ((try simp only [depth_under_make, depth_under_kw, depth_in1, depth_deeper, depth_caller]); (try dsimp only [ktrTop]); omega) | ktr_room); (case ku => first | exact room hun (by decide) | ((try simp only [units_in1, units_deeper, Around.mark_units, units_caller]); (try dsimp only [ktrTop]); omega) | ktr_units)); intro D9 c9 e9 t9 u9 k9 h9 tk9 P9 F9 N9 l9; (obtain ⟨P91, P92, P93, P94, P95⟩ := P9); (try simp only [AllLt, and_true] at l9); (try dsimp only); (try k_fold)) ); (try k_steps))
    all_goals (first | (refine' ret_N1 (Q := Q) hret ?eX ?eR ?eF ?eN ?el ?e1; (case eF => k_asm); (case eN => assumption); (case eR => assumption); (case el => assumption); (case e1 => first | assumption | exact allLt_of (by assumption) | tbn_find | kcu_lt); (case eX => rfl)) | (refine' ret_N (Q := Q) hret ?eX ?eR ?eF ?eN ?es ?el; (case eF => k_asm); (case eN => assumption); (case eR => assumption); (case es => (repeat' (first | (with_reducible exact fun _ h => h) | (with_reducible exact fun _ h => List.mem_append_left _ h) | (with_reducible refine List.forall_mem_cons.mpr (And.intro ?_ ?_)) | (with_reducible refine List.forall_mem_append.mpr (And.intro ?_ ?_)) | (with_reducible refine sub_cons ?_) | (with_reducible refine sub_appR ?_) | k_mem))); (case el => assumption); (case eX => rfl)) | (refine' ret_ND (Q := Q) hret ?eX ?eP ?eF ?eN ?em ?es ?el; (case eF => k_asm); (case eN => assumption); (case em => k_mem); (case es => (repeat' (first | (with_reducible exact fun _ h => h) | (with_reducible exact fun _ h => List.mem_append_left _ h) | (with_reducible refine List.forall_mem_cons.mpr (And.intro ?_ ?_)) | (with_reducible refine List.forall_mem_append.mpr (And.intro ?_ ?_)) | (with_reducible refine sub_cons ?_) | (with_reducible refine sub_appR ?_) | k_mem))); (case el => first | assumption | exact allLt_of (by assumption) | tbn_find | kcu_lt); (case eP => assumption); (case eX => exact plusN_no hb)))
end
section
local macro_rules | `(tactic| walk_at "exec If BoolOp") => `(tactic| (refine pause ?_))
set_option maxRecDepth 100000 in
set_option maxHeartbeats 8000000 in
theorem can_lessR (w mean mg mb news) (v w' : Value) (Xa Ya : Num) (d : Int) (to t8 td : Tok) (hR : RelN news v Xa) (hS : RelN news w' Ya) (hX : Ok d Xa) (hY : Ok d Ya) (hd : 1 ≤ d ∧ d ≤ 5) :
    Can w mean mg mb 213 12 news [.str (Str.ofString "-") to, v, w', .int 8 t8, .int d td] (RetN news (lessN d Xa Ya)) := by
  dsimp only [Can, RetV, RetD, RetN, prg, lo]
  k_fill
  k_with_none
  intro dp un gd cn cs a ccd cl outer A₀ base h₀ L m s Q E B F X N T hkk hdp hun hret
  have hXs := hX.2
  have hYs := hY.2
  refine wpAny_call ?_
  k_dflt cell_enter
  k_steps
  repeat' (unfold Paused; (first | ((with_reducible show wpAny _ _ (PySem.call (Value.ref 157) _) _ _ _); k_dflt (refine' can_isw _ _ _ _ _ _ _ ?p0 _ _ _ _ _ _ _ _ _ _ _ _ _ _ _ _ _ ?k1 ?k2 ?k3 ?k4 ?k5 ?kK ?kd ?ku ?_; (case k1 => k_asm); (case k2 => k_asm); (case k3 => k_asm); (case k4 => k_asm); (case k5 => k_asm); (case kK => first | exact rfl | assumption); (case p0 => first | with_reducible assumption | (refine' RelN.mono ?r1 ?r2; (case r1 => with_reducible assumption); (case r2 => (repeat' (first | (with_reducible exact fun _ h => h) | (with_reducible exact fun _ h => List.mem_append_left _ h) | (with_reducible refine List.forall_mem_cons.mpr (And.intro ?_ ?_)) | (with_reducible refine List.forall_mem_append.mpr (And.intro ?_ ?_)) | (with_reducible refine sub_cons ?_) | (with_reducible refine sub_appR ?_) | k_mem))))); (case kd => first | exact room hdp (by decide) | ((try simp only [depth_under_make, depth_under_kw, depth_in1, depth_deeper, depth_caller]); (try dsimp only [ktrTop]); omega) | ktr_room); (case ku => first | exact room hun (by decide) | ((try simp only [units_in1, units_deeper, Around.mark_units, units_caller]); (try dsimp only [ktrTop]); omega) | ktr_units)); intro h9 tk9 F9 N9; (try dsimp only [Num.isWb]); (try dsimp only); (try k_fold)) | ((with_reducible show wpAny _ _ (PySem.call (Value.ref 171) _) _ _ _); refine wpAny_call ?_; k_dflt (refine' code_def ?k1 ?k2 ?k3 ?k4 ?k5 ?kA ?kF ?kK ?k6 ?k7 ?k8 ?k9 ?kB ?_ ?c2 ?c3 ?c4 ?c5; (case kA => exact rfl); (case kF => exact rfl); (case kK => first | exact rfl | assumption); (case k1 => k_asm); (case k2 => k_asm); (case k3 => k_asm); (case k4 => k_asm); (case k5 => k_asm); (case k6 => k_is); (case k7 => k_is); (case k8 => ktr_room); (case k9 => exact BindsTo.of_eq rfl); (case c5 => decide); (case kB => exact locs rfl); (case c2 => exact rfl); (case c3 => exact rfl); (case c4 => exact rfl); k_whole; intro g' L' h' FG' F' N' B' X' T'; (try dsimp only); (try k_lift B'); (try k_fold))) | ((with_reducible show wpAny _ _ (PySem.call (Value.ref 108) _) _ _ _); k_dflt (refine' can_dadd _ _ _ _ _ _ _ _ _ _ _ _ _ _ _ _ _ _ _ _ _ ?p0 ?p1 ?p2 ?p3 ?p4 ?p5 ?p6 _ _ _ _ _ _ _ _ _ _ _ _ _ _ _ _ _ ?k1 ?k2 ?k3 ?k4 ?k5 ?kK ?kd ?ku ?_; (case k1 => k_asm); (case k2 => k_asm); (case k3 => k_asm); (case k4 => k_asm); (case k5 => k_asm); (case kK => first | exact rfl | assumption); (case p0 => k_mem); (case p1 => k_mem); (case p2 => assumption); (case p3 => assumption); (case p4 => assumption); (case p5 => assumption); (case p6 => assumption); (case kd => first | exact room hdp (by decide) | ((try simp only [depth_under_make, depth_under_kw, depth_in1, depth_deeper, depth_caller]); (try dsimp only [ktrTop]); omega) | ktr_room); (case ku => first | exact room hun (by decide) | ((try simp only [units_in1, units_deeper, Around.mark_units, units_caller]); (try dsimp only [ktrTop]); omega) | ktr_units)); intro D9 c9 e9 t9 u9 k9 h9 tk9 P9 F9 N9 l9; (obtain ⟨P91, P92, P93, P94, P95⟩ := P9); (try simp only [AllLt, and_true] at l9); (try dsimp only); (try k_fold)) | ((with_reducible show wpAny _ _ (PySem.call (Value.ref 115) _) _ _ _); k_dflt (refine' can_dsub _ _ _ _ _ _ _ _ _ _ _ _ _ _ _ _ _ _ _ _ _ ?p0 ?p1 ?p2 ?p3 ?p4 ?p5 ?p6 _ _ _ _ _ _ _ _ _ _ _ _ _ _ _ _ _ ?k1 ?k2 ?k3 ?k4 ?k5 ?kK ?kd ?ku ?_; (case k1 => k_asm); (case k2 => k_asm); (case k3 => k_asm); (case k4 => k_asm); (case k5 => k_asm); (case kK => first | exact rfl | assumption); (case p0 => k_mem); (case p1 => k_mem); (case p2 => assumption); (case p3 => assumption); (case p4 => assumption); (case p5 => assumption); (case p6 => assumption); (case kd => first | exact room hdp (by decide) | ((try simp only [depth_under_make, depth_under_kw, depth_in1, depth_deeper, depth_caller]); (try dsimp only [ktrTop]); omega) | ktr_room); (case ku => first | exact room hun (by decide) | ((try simp only [units_in1, units_deeper, Around.mark_units, units_caller]); (try dsimp only [ktrTop]); omega) | ktr_units)); intro D9 c9 e9 t9 u9 k9 h9 tk9 P9 F9 N9 l9; (obtain ⟨P91, P92, P93, P94, P95⟩ := P9); (try simp only [AllLt, and_true] at l9); (try dsimp only); (try k_fold)) | ((with_reducible show wpAny _ _ (PySem.call (Value.ref 164) _) _ _ _); k_dflt (refine' can_settled _ _ _ _ _ _ _ _ _ _ ?p0 ?p1 _ _ _ _ _ _ _ _ _ _ _ _ _ _ _ _ _ ?k1 ?k2 ?k3 ?k4 ?k5 ?kK ?kd ?ku ?_; (case k1 => k_asm); (case k2 => k_asm); (case k3 => k_asm); (case k4 => k_asm); (case k5 => k_asm); (case kK => first | exact rfl | assumption); (case p0 => omega); (case p1 => assumption); (case kd => first | exact room hdp (by decide) | ((try simp only [depth_under_make, depth_under_kw, depth_in1, depth_deeper, depth_caller]); (try dsimp only [ktrTop]); omega) | ktr_room); (case ku => first | exact room hun (by decide) | ((try simp only [units_in1, units_deeper, Around.mark_units, units_caller]); (try dsimp only [ktrTop]); omega) | ktr_units)); intro r9 tl9 h9 tk9 R9 F9 N9 l9; (try dsimp only); (try k_fold)) | ((with_reducible show wpAny _ _ (PySem.call (Value.ref 86) _) _ _ _); k_dflt (refine' can_decimal _ _ _ _ _ _ _ _ _ ?p0 ?p1 ?p2 _ _ _ _ _ _ _ _ _ _ _ _ _ _ _ _ _ ?k1 ?k2 ?k3 ?k4 ?k5 ?kK ?kd ?ku ?_; (case k1 => k_asm); (case k2 => k_asm); (case k3 => k_asm); (case k4 => k_asm); (case k5 => k_asm); (case kK => first | exact rfl | assumption); (case p0 => first | with_reducible assumption | (refine' RelN.mono ?r1 ?r2; (case r1 => with_reducible assumption); (case r2 => (repeat' (first | (with_reducible exact fun _ h => h) | (with_reducible exact fun _ h => List.mem_append_left _ h) | (with_reducible refine List.forall_mem_cons.mpr (And.intro ?_ ?_)) | (with_reducible refine List.forall_mem_append.mpr (And.intro ?_ ?_)) | (with_reducible refine sub_cons ?_) | (with_reducible refine sub_appR ?_) | k_mem))))); (case p1 => assumption); (case p2 => assumption); (case kd => first | exact room hdp (by decide) | ((try simp only [depth_under_make, depth_under_kw, depth_in1, depth_deeper, depth_caller]); (try dsimp only [ktrTop]); omega) | ktr_room); (case ku => first | exact room hun (by decide) | ((try simp only [units_in1, units_deeper, Around.mark_units, units_caller]); (try dsimp only [ktrTop]); omega) | ktr_units)); intro D9 c9 e9 t9 u9 k9 h9 tk9 P9 F9 N9 l9; (obtain ⟨P91, P92, P93, P94, P95⟩ := P9); (try simp only [AllLt, and_true] at l9); (try dsimp only); (try k_fold)) ); (try k_steps))
  unfold Paused
  refine wpAny_If ?_
  k_steps
  repeat' (unfold Paused; (first | ((with_reducible show wpAny _ _ (PySem.call (Value.ref 157) _) _ _ _); k_dflt (refine' can_isw _ _ _ _ _ _ _ ?p0 _ _ _ _ _ _ _ _ _ _ _ _ _ _ _ _ _ ?k1 ?k2 ?k3 ?k4 ?k5 ?kK ?kd ?ku ?_; (case k1 => k_asm); (case k2 => k_asm); (case k3 => k_asm); (case k4 => k_asm); (case k5 => k_asm); (case kK => first | exact rfl | assumption); (case p0 => first | with_reducible assumption | (refine' RelN.mono ?r1 ?r2; (case r1 => with_reducible assumption); (case r2 => (repeat' (first | (with_reducible exact fun _ h => h) | (with_reducible exact fun _ h => List.mem_append_left _ h) | (with_reducible refine List.forall_mem_cons.mpr (And.intro ?_ ?_)) | (with_reducible refine List.forall_mem_append.mpr (And.intro ?_ ?_)) | (with_reducible refine sub_cons ?_) | (with_reducible refine sub_appR ?_) | k_mem))))); (case kd => first | exact room hdp (by decide) | ((try simp only [depth_under_make, depth_under_kw, depth_in1, depth_deeper, depth_caller]); (try dsimp only [ktrTop]); omega) | ktr_room); (case ku => first | exact room hun (by decide) | ((try simp only [units_in1, units_deeper, Around.mark_units, units_caller]); (try dsimp only [ktrTop]); omega) | ktr_units)); intro h9 tk9 F9 N9; (try dsimp only [Num.isWb]); (try dsimp only); (try k_fold)) | ((with_reducible show wpAny _ _ (PySem.call (Value.ref 171) _) _ _ _); refine wpAny_call ?_; k_dflt (refine' code_def ?k1 ?k2 ?k3 ?k4 ?k5 ?kA ?kF ?kK ?k6 ?k7 ?k8 ?k9 ?kB ?_ ?c2 ?c3 ?c4 ?c5; (case kA => exact rfl); (case kF => exact rfl); (case kK => first | exact rfl | assumption); (case k1 => k_asm); (case k2 => k_asm); (case k3 => k_asm); (case k4 => k_asm); (case k5 => k_asm); (case k6 => k_is); (case k7 => k_is); (case k8 => ktr_room); (case k9 => exact BindsTo.of_eq rfl); (case c5 => decide); (case kB => exact locs rfl); (case c2 => exact rfl); (case c3 => exact rfl); (case c4 => exact rfl); k_whole; intro g' L' h' FG' F' N' B' X' T'; (try dsimp only); (try k_lift B'); (try k_fold))) | ((with_reducible show wpAny _ _ (PySem.call (Value.ref 108) _) _ _ _); k_dflt (refine' can_dadd _ _ _ _ _ _ _ _ _ _ _ _ _ _ _ _ _ _ _ _ _ ?p0 ?p1 ?p2 ?p3 ?p4 ?p5 ?p6 _ _ _ _ _ _ _ _ _ _ _ _ _ _ _ _ _ ?k1 ?k2 ?k3 ?k4 ?k5 ?kK ?kd ?ku ?_; (case k1 => k_asm); (case k2 => k_asm); (case k3 => k_asm); (case k4 => k_asm); (case k5 => k_asm); (case kK => first | exact rfl | assumption); (case p0 => k_mem); (case p1 => k_mem); (case p2 => assumption); (case p3 => assumption); (case p4 => assumption); (case p5 => assumption); (case p6 => assumption); (case kd => first | exact room hdp (by decide) | ((try simp only [depth_under_make, depth_under_kw, depth_in1, depth_deeper, depth_caller]); (try dsimp only [ktrTop]); omega) | ktr_room); (case ku => first | exact room hun (by decide) | ((try simp only [units_in1, units_deeper, Around.mark_units, units_caller]); (try dsimp only [ktrTop]); omega) | ktr_units)); intro D9 c9 e9 t9 u9 k9 h9 tk9 P9 F9 N9 l9; (obtain ⟨P91, P92, P93, P94, P95⟩ := P9); (try simp only [AllLt, and_true] at l9); (try dsimp only); (try k_fold)) | ((with_reducible show wpAny _ _ (PySem.call (Value.ref 115) _) _ _ _); k_dflt (refine' can_dsub _ _ _ _ _ _ _ _ _ _ _ _ _ _ _ _ _ _ _ _ _ ?p0 ?p1 ?p2 ?p3 ?p4 ?p5 ?p6 _ _ _ _ _ _ _ _ _ _ _ _ _ _ _ _ _ ?k1 ?k2 ?k3 ?k4 ?k5 ?kK ?kd ?ku ?_; (case k1 => k_asm); (case k2 => k_asm); (case k3 => k_asm); (case k4 => k_asm); (case k5 => k_asm); (case kK => first | exact rfl | assumption); (case p0 => k_mem); (case p1 => k_mem); (case p2 => assumption); (case p3 => assumption); (case p4 => assumption); (case p5 => assumption); (case p6 => assumption); (case kd => first | exact room hdp (by decide) | ((try simp only [depth_under_make, depth_under_kw, depth_in1, depth_deeper, depth_caller]); (try dsimp only [ktrTop]); omega) | ktr_room); (case ku => first | exact room hun (by decide) | ((try simp only [units_in1, units_deeper, Around.mark_units, units_caller]); (try dsimp only [ktrTop]); omega) | ktr_units)); intro D9 c9 e9 t9 u9 k9 h9 tk9 P9 F9 N9 l9; (obtain ⟨P91, P92, P93, P94, P95⟩ := P9); (try simp only [AllLt, and_true] at l9); (try dsimp only); (try k_fold)) | ((with_reducible show wpAny _ _ (PySem.call (Value.ref 164) _) _ _ _); k_dflt (refine' can_settled _ _ _ _ _ _ _ _ _ _ ?p0 ?p1 _ _ _ _ _ _ _ _ _ _ _ _ _ _ _ _ _ ?k1 ?k2 ?k3 ?k4 ?k5 ?kK ?kd ?ku ?_; (case k1 => k_asm); (case k2 => k_asm); (case k3 => k_asm); (case k4 => k_asm); (case k5 => k_asm); (case kK => first | exact rfl | assumption); (case p0 => omega); (case p1 => assumption); (case kd => first | exact room hdp (by decide) | ((try simp only [depth_under_make, depth_under_kw, depth_in1, depth_deeper, depth_caller]); (try dsimp only [ktrTop]); omega) | ktr_room); (case ku => first | exact room hun (by decide) | ((try simp only [units_in1, units_deeper, Around.mark_units, units_caller]); (try dsimp only [ktrTop]); omega) | ktr_units)); intro r9 tl9 h9 tk9 R9 F9 N9 l9; (try dsimp only); (try k_fold)) | ((with_reducible show wpAny _ _ (PySem.call (Value.ref 86) _) _ _ _); k_dflt (refine' can_decimal _ _ _ _ _ _ _ _ _ ?p0 ?p1 ?p2 _ _ _ _ _ _ _ _ _ _ _ _ _ _ _ _ _ ?k1 ?k2 ?k3 ?k4 ?k5 ?kK ?kd ?ku ?_; (case k1 => k_asm); (case k2 => k_asm); (case k3 => k_asm); (case k4 => k_asm); (case k5 => k_asm); (case kK => first | exact rfl | assumption); (case p0 => first | with_reducible assumption | (refine' RelN.mono ?r1 ?r2; (case r1 => with_reducible assumption); (case r2 => (repeat' (first | (with_reducible exact fun _ h => h) | (with_reducible exact fun _ h => List.mem_append_left _ h) | (with_reducible refine List.forall_mem_cons.mpr (And.intro ?_ ?_)) | (with_reducible refine List.forall_mem_append.mpr (And.intro ?_ ?_)) | (with_reducible refine sub_cons ?_) | (with_reducible refine sub_appR ?_) | k_mem))))); (case p1 => assumption); (case p2 => assumption); (case kd => first | exact room hdp (by decide) | ((try simp only [depth_under_make, depth_under_kw, depth_in1, depth_deeper, depth_caller]); (try dsimp only [ktrTop]); omega) | ktr_room); (case ku => first | exact room hun (by decide) | ((try simp only [units_in1, units_deeper, Around.mark_units, units_caller]); (try dsimp only [ktrTop]); omega) | ktr_units)); intro D9 c9 e9 t9 u9 k9 h9 tk9 P9 F9 N9 l9; (obtain ⟨P91, P92, P93, P94, P95⟩ := P9); (try simp only [AllLt, and_true] at l9); (try dsimp only); (try k_fold)) ); (try k_steps))
  unfold Paused
  rename News _ _ _ _ => kN
  rename Fr _ _ _ _ => kF
  refine' join_if (Xa.isWb && Ya.isWb) kF kN ?jc ?j1 ?j2
  case jc =>
    have hR' := hR
    have hS' := hS
    cases hR with
    | whole b1 b2 =>
      cases hS with
      | whole b3 b4 =>
        k_steps
        repeat' (unfold Paused; (first | ((with_reducible show wpAny _ _ (PySem.call (Value.ref 157) _) _ _ _); k_dflt (refine' can_isw _ _ _ _ _ _ _ ?p0 _ _ _ _ _ _ _ _ _ _ _ _ _ _ _ _ _ ?k1 ?k2 ?k3 ?k4 ?k5 ?kK ?kd ?ku ?_; (case k1 => k_asm); (case k2 => k_asm); (case k3 => k_asm); (case k4 => k_asm); (case k5 => k_asm); (case kK => first | exact rfl | assumption); (case p0 => first | with_reducible assumption | (refine' RelN.mono ?r1 ?r2; (case r1 => with_reducible assumption); (case r2 => (repeat' (first | (with_reducible exact fun _ h => h) | (with_reducible exact fun _ h => List.mem_append_left _ h) | (with_reducible refine List.forall_mem_cons.mpr (And.intro ?_ ?_)) | (with_reducible refine List.forall_mem_append.mpr (And.intro ?_ ?_)) | (with_reducible refine sub_cons ?_) | (with_reducible refine sub_appR ?_) | k_mem))))); (case kd => first | exact room hdp (by decide) | ((try simp only [depth_under_make, depth_under_kw, depth_in1, depth_deeper, depth_caller]); (try dsimp only [ktrTop]); omega) | ktr_room); (case ku => first | exact room hun (by decide) | ((try simp only [units_in1, units_deeper, Around.mark_units, units_caller]); (try dsimp only [ktrTop]); omega) | ktr_units)); intro h9 tk9 F9 N9; (try dsimp only [Num.isWb]); (try dsimp only); (try k_fold)) | ((with_reducible show wpAny _ _ (PySem.call (Value.ref 171) _) _ _ _); refine wpAny_call ?_; k_dflt (refine' code_def ?k1 ?k2 ?k3 ?k4 ?k5 ?kA ?kF ?kK ?k6 ?k7 ?k8 ?k9 ?kB ?_ ?c2 ?c3 ?c4 ?c5; (case kA => exact rfl); (case kF => exact rfl); (case kK => first | exact rfl | assumption); (case k1 => k_asm); (case k2 => k_asm); (case k3 => k_asm); (case k4 => k_asm); (case k5 => k_asm); (case k6 => k_is); (case k7 => k_is); (case k8 => ktr_room); (case k9 => exact BindsTo.of_eq rfl); (case c5 => decide); (case kB => exact locs rfl); (case c2 => exact rfl); (case c3 => exact rfl); (case c4 => exact rfl); k_whole; intro g' L' h' FG' F' N' B' X' T'; (try dsimp only); (try k_lift B'); (try k_fold))) | ((with_reducible show wpAny _ _ (PySem.call (Value.ref 108) _) _ _ _); k_dflt (refine' can_dadd _ _ _ _ _ _ _ _ _ _ _ _ _ _ _ _ _ _ _ _ _ ?p0 ?p1 ?p2 ?p3 ?p4 ?p5 ?p6 _ _ _ _ _ _ _ _ _ _ _ _ _ _ _ _ _ ?k1 ?k2 ?k3 ?k4 ?k5 ?kK ?kd ?ku ?_; (case k1 => k_asm); (case k2 => k_asm); (case k3 => k_asm); (case k4 => k_asm); (case k5 => k_asm); (case kK => first | exact rfl | assumption); (case p0 => k_mem); (case p1 => k_mem); (case p2 => assumption); (case p3 => assumption); (case p4 => assumption); (case p5 => assumption); (case p6 => assumption); (case kd => first | exact room hdp (by decide) | ((try simp only [depth_under_make, depth_under_kw, depth_in1, depth_deeper, depth_caller]); (try dsimp only [ktrTop]); omega) | ktr_room); (case ku => first | exact room hun (by decide) | ((try simp only [units_in1, units_deeper, Around.mark_units, units_caller]); (try dsimp only [ktrTop]); omega) | ktr_units)); intro D9 c9 e9 t9 u9 k9 h9 tk9 P9 F9 N9 l9; (obtain ⟨P91, P92, P93, P94, P95⟩ := P9); (try simp only [AllLt, and_true] at l9); (try dsimp only); (try k_fold)) | ((with_reducible show wpAny _ _ (PySem.call (Value.ref 115) _) _ _ _); k_dflt (refine' can_dsub _ _ _ _ _ _ _ _ _ _ _ _ _ _ _ _ _ _ _ _ _ ?p0 ?p1 ?p2 ?p3 ?p4 ?p5 ?p6 _ _ _ _ _ _ _ _ _ _ _ _ _ _ _ _ _ ?k1 ?k2 ?k3 ?k4 ?k5 ?kK ?kd ?ku ?_; (case k1 => k_asm); (case k2 => k_asm); (case k3 => k_asm); (case k4 => k_asm); (case k5 => k_asm); (case kK => first | exact rfl | assumption); (case p0 => k_mem); (case p1 => k_mem); (case p2 => assumption); (case p3 => assumption); (case p4 => assumption); (case p5 => assumption); (case p6 => assumption); (case kd => first | exact room hdp (by decide) | ((try simp only [depth_under_make, depth_under_kw, depth_in1, depth_deeper, depth_caller]); (try dsimp only [ktrTop]); omega) | ktr_room); (case ku => first | exact room hun (by decide) | ((try simp only [units_in1, units_deeper, Around.mark_units, units_caller]); (try dsimp only [ktrTop]); omega) | ktr_units)); intro D9 c9 e9 t9 u9 k9 h9 tk9 P9 F9 N9 l9; (obtain ⟨P91, P92, P93, P94, P95⟩ := P9); (try simp only [AllLt, and_true] at l9); (try dsimp only); (try k_fold)) | ((with_reducible show wpAny _ _ (PySem.call (Value.ref 164) _) _ _ _); k_dflt (refine' can_settled _ _ _ _ _ _ _ _ _ _ ?p0 ?p1 _ _ _ _ _ _ _ _ _ _ _ _ _ _ _ _ _ ?k1 ?k2 ?k3 ?k4 ?k5 ?kK ?kd ?ku ?_; (case k1 => k_asm); (case k2 => k_asm); (case k3 => k_asm); (case k4 => k_asm); (case k5 => k_asm); (case kK => first | exact rfl | assumption); (case p0 => omega); (case p1 => assumption); (case kd => first | exact room hdp (by decide) | ((try simp only [depth_under_make, depth_under_kw, depth_in1, depth_deeper, depth_caller]); (try dsimp only [ktrTop]); omega) | ktr_room); (case ku => first | exact room hun (by decide) | ((try simp only [units_in1, units_deeper, Around.mark_units, units_caller]); (try dsimp only [ktrTop]); omega) | ktr_units)); intro r9 tl9 h9 tk9 R9 F9 N9 l9; (try dsimp only); (try k_fold)) | ((with_reducible show wpAny _ _ (PySem.call (Value.ref 86) _) _ _ _); k_dflt (refine' can_decimal _ _ _ _ _ _ _ _ _ ?p0 ?p1 ?p2 _ _ _ _ _ _ _ _ _ _ _ _ _ _ _ _ _ ?k1 ?k2 ?k3 ?k4 ?k5 ?kK ?kd ?ku ?_; (case k1 => k_asm); (case k2 => k_asm); (case k3 => k_asm); (case k4 => k_asm); (case k5 => k_asm); (case kK => first | exact rfl | assumption); (case p0 => first | with_reducible assumption | (refine' RelN.mono ?r1 ?r2; (case r1 => with_reducible assumption); (case r2 => (repeat' (first | (with_reducible exact fun _ h => h) | (with_reducible exact fun _ h => List.mem_append_left _ h) | (with_reducible refine List.forall_mem_cons.mpr (And.intro ?_ ?_)) | (with_reducible refine List.forall_mem_append.mpr (And.intro ?_ ?_)) | (with_reducible refine sub_cons ?_) | (with_reducible refine sub_appR ?_) | k_mem))))); (case p1 => assumption); (case p2 => assumption); (case kd => first | exact room hdp (by decide) | ((try simp only [depth_under_make, depth_under_kw, depth_in1, depth_deeper, depth_caller]); (try dsimp only [ktrTop]); omega) | ktr_room); (case ku => first | exact room hun (by decide) | ((try simp only [units_in1, units_deeper, Around.mark_units, units_caller]); (try dsimp only [ktrTop]); omega) | ktr_units)); intro D9 c9 e9 t9 u9 k9 h9 tk9 P9 F9 N9 l9; (obtain ⟨P91, P92, P93, P94, P95⟩ := P9); (try simp only [AllLt, and_true] at l9); (try dsimp only); (try k_fold)) ); (try k_steps))
        exact jt0 rfl (by k_asm) (by assumption)
      | dec hm2 hI2 =>
        k_steps
        repeat' (unfold Paused; (first | ((with_reducible show wpAny _ _ (PySem.call (Value.ref 157) _) _ _ _); k_dflt (refine' can_isw _ _ _ _ _ _ _ ?p0 _ _ _ _ _ _ _ _ _ _ _ _ _ _ _ _ _ ?k1 ?k2 ?k3 ?k4 ?k5 ?kK ?kd ?ku ?_; (case k1 => k_asm); (case k2 => k_asm); (case k3 => k_asm); (case k4 => k_asm); (case k5 => k_asm); (case kK => first | exact rfl | assumption); (case p0 => first | with_reducible assumption | (refine' RelN.mono ?r1 ?r2; (case r1 => with_reducible assumption); (case r2 => (repeat' (first | (with_reducible exact fun _ h => h) | (with_reducible exact fun _ h => List.mem_append_left _ h) | (with_reducible refine List.forall_mem_cons.mpr (And.intro ?_ ?_)) | (with_reducible refine List.forall_mem_append.mpr (And.intro ?_ ?_)) | (with_reducible refine sub_cons ?_) | (with_reducible refine sub_appR ?_) | k_mem))))); (case kd => first | exact room hdp (by decide) | ((try simp only [depth_under_make, depth_under_kw, depth_in1, depth_deeper, depth_caller]); (try dsimp only [ktrTop]); omega) | ktr_room); (case ku => first | exact room hun (by decide) | ((try simp only [units_in1, units_deeper, Around.mark_units, units_caller]); (try dsimp only [ktrTop]); omega) | ktr_units)); intro h9 tk9 F9 N9; (try dsimp only [Num.isWb]); (try dsimp only); (try k_fold)) | ((with_reducible show wpAny _ _ (PySem.call (Value.ref 171) _) _ _ _); refine wpAny_call ?_; k_dflt (refine' code_def ?k1 ?k2 ?k3 ?k4 ?k5 ?kA ?kF ?kK ?k6 ?k7 ?k8 ?k9 ?kB ?_ ?c2 ?c3 ?c4 ?c5; (case kA => exact rfl); (case kF => exact rfl); (case kK => first | exact rfl | assumption); (case k1 => k_asm); (case k2 => k_asm); (case k3 => k_asm); (case k4 => k_asm); (case k5 => k_asm); (case k6 => k_is); (case k7 => k_is); (case k8 => ktr_room); (case k9 => exact BindsTo.of_eq rfl); (case c5 => decide); (case kB => exact locs rfl); (case c2 => exact rfl); (case c3 => exact rfl); (case c4 => exact rfl); k_whole; intro g' L' h' FG' F' N' B' X' T'; (try dsimp only); (try k_lift B'); (try k_fold))) | ((with_reducible show wpAny _ _ (PySem.call (Value.ref 108) _) _ _ _); k_dflt (refine' can_dadd _ _ _ _ _ _ _ _ _ _ _ _ _ _ _ _ _ _ _ _ _ ?p0 ?p1 ?p2 ?p3 ?p4 ?p5 ?p6 _ _ _ _ _ _ _ _ _ _ _ _ _ _ _ _ _ ?k1 ?k2 ?k3 ?k4 ?k5 ?kK ?kd ?ku ?_; (case k1 => k_asm); (case k2 => k_asm); (case k3 => k_asm); (case k4 => k_asm); (case k5 => k_asm); (case kK => first | exact rfl | assumption); (case p0 => k_mem); (case p1 => k_mem); (case p2 => assumption); (case p3 => assumption); (case p4 => assumption); (case p5 => assumption); (case p6 => assumption); (case kd => first | exact room hdp (by decide) | ((try simp only [depth_under_make, depth_under_kw, depth_in1, depth_deeper, depth_caller]); (try dsimp only [ktrTop]); omega) | ktr_room); (case ku => first | exact room hun (by decide) | ((try simp only [units_in1, units_deeper, Around.mark_units, units_caller]); (try dsimp only [ktrTop]); omega) | ktr_units)); intro D9 c9 e9 t9 u9 k9 h9 tk9 P9 F9 N9 l9; (obtain ⟨P91, P92, P93, P94, P95⟩ := P9); (try simp only [AllLt, and_true] at l9); (try dsimp only); (try k_fold)) | ((with_reducible show wpAny _ _ (PySem.call (Value.ref 115) _) _ _ _); k_dflt (refine' can_dsub _ _ _ _ _ _ _ _ _ _ _ _ _ _ _ _ _ _ _ _ _ ?p0 ?p1 ?p2 ?p3 ?p4 ?p5 ?p6 _ _ _ _ _ _ _ _ _ _ _ _ _ _ _ _ _ ?k1 ?k2 ?k3 ?k4 ?k5 ?kK ?kd ?ku ?_; (case k1 => k_asm); (case k2 => k_asm); (case k3 => k_asm); (case k4 => k_asm); (case k5 => k_asm); (case kK => first | exact rfl | assumption); (case p0 => k_mem); (case p1 => k_mem); (case p2 => assumption); (case p3 => assumption); (case p4 => assumption); (case p5 => assumption); (case p6 => assumption); (case kd => first | exact room hdp (by decide) | ((try simp only [depth_under_make, depth_under_kw, depth_in1, depth_deeper, depth_caller]); (try dsimp only [ktrTop]); omega) | ktr_room); (case ku => first | exact room hun (by decide) | ((try simp only [units_in1, units_deeper, Around.mark_units, units_caller]); (try dsimp only [ktrTop]); omega) | ktr_units)); intro D9 c9 e9 t9 u9 k9 h9 tk9 P9 F9 N9 l9; (obtain ⟨P91, P92, P93, P94, P95⟩ := P9); (try simp only [AllLt, and_true] at l9); (try dsimp only); (try k_fold)) | ((with_reducible show wpAny _ _ (PySem.call (Value.ref 164) _) _ _ _); k_dflt (refine' can_settled _ _ _ _ _ _ _ _ _ _ ?p0 ?p1 _ _ _ _ _ _ _ _ _ _ _ _ _ _ _ _ _ ?k1 ?k2 ?k3 ?k4 ?k5 ?kK ?kd ?ku ?_; (case k1 => k_asm); (case k2 => k_asm); (case k3 => k_asm); (case k4 => k_asm); (case k5 => k_asm); (case kK => first | exact rfl | assumption); (case p0 => omega); (case p1 => assumption); (case kd => first | exact room hdp (by decide) | ((try simp only [depth_under_make, depth_under_kw, depth_in1, depth_deeper, depth_caller]); (try dsimp only [ktrTop]); omega) | ktr_room); (case ku => first | exact room hun (by decide) | ((try simp only [units_in1, units_deeper, Around.mark_units, units_caller]); (try dsimp only [ktrTop]); omega) | ktr_units)); intro r9 tl9 h9 tk9 R9 F9 N9 l9; (try dsimp only); (try k_fold)) | ((with_reducible show wpAny _ _ (PySem.call (Value.ref 86) _) _ _ _); k_dflt (refine' can_decimal _ _ _ _ _ _ _ _ _ ?p0 ?p1 ?p2 _ _ _ _ _ _ _ _ _ _ _ _ _ _ _ _ _ ?k1 ?k2 ?k3 ?k4 ?k5 ?kK ?kd ?ku ?_; (case k1 => k_asm); (case k2 => k_asm); (case k3 => k_asm); (case k4 => k_asm); (case k5 => k_asm); (case kK => first | exact rfl | assumption); (case p0 => first | with_reducible assumption | (refine' RelN.mono ?r1 ?r2; (case r1 => with_reducible assumption); (case r2 => (repeat' (first | (with_reducible exact fun _ h => h) | (with_reducible exact fun _ h => List.mem_append_left _ h) | (with_reducible refine List.forall_mem_cons.mpr (And.intro ?_ ?_)) | (with_reducible refine List.forall_mem_append.mpr (And.intro ?_ ?_)) | (with_reducible refine sub_cons ?_) | (with_reducible refine sub_appR ?_) | k_mem))))); (case p1 => assumption); (case p2 => assumption); (case kd => first | exact room hdp (by decide) | ((try simp only [depth_under_make, depth_under_kw, depth_in1, depth_deeper, depth_caller]); (try dsimp only [ktrTop]); omega) | ktr_room); (case ku => first | exact room hun (by decide) | ((try simp only [units_in1, units_deeper, Around.mark_units, units_caller]); (try dsimp only [ktrTop]); omega) | ktr_units)); intro D9 c9 e9 t9 u9 k9 h9 tk9 P9 F9 N9 l9; (obtain ⟨P91, P92, P93, P94, P95⟩ := P9); (try simp only [AllLt, and_true] at l9); (try dsimp only); (try k_fold)) ); (try k_steps))
        exact jt0 rfl (by k_asm) (by assumption)
    | dec hm1 hI1 =>
      k_steps
      repeat' (unfold Paused; (first | ((with_reducible show wpAny _ _ (PySem.call (Value.ref 157) _) _ _ _); k_dflt (refine' can_isw _ _ _ _ _ _ _ ?p0 _ _ _ _ _ _ _ _ _ _ _ _ _ _ _ _ _ ?k1 ?k2 ?k3 ?k4 ?k5 ?kK ?kd ?ku ?_; (case k1 => k_asm); (case k2 => k_asm); (case k3 => k_asm); (case k4 => k_asm); (case k5 => k_asm); (case kK => first | exact rfl | assumption); (case p0 => first | with_reducible assumption | (refine' RelN.mono ?r1 ?r2; (case r1 => with_reducible assumption); (case r2 => (repeat' (first | (with_reducible exact fun _ h => h) | (with_reducible exact fun _ h => List.mem_append_left _ h) | (with_reducible refine List.forall_mem_cons.mpr (And.intro ?_ ?_)) | (with_reducible refine List.forall_mem_append.mpr (And.intro ?_ ?_)) | (with_reducible refine sub_cons ?_) | (with_reducible refine sub_appR ?_) | k_mem))))); (case kd => first | exact room hdp (by decide) | ((try simp only [depth_under_make, depth_under_kw, depth_in1, depth_deeper, depth_caller]); (try dsimp only [ktrTop]); omega) | ktr_room); (case ku => first | exact room hun (by decide) | ((try simp only [units_in1, units_deeper, Around.mark_units, units_caller]); (try dsimp only [ktrTop]); omega) | ktr_units)); intro h9 tk9 F9 N9; (try dsimp only [Num.isWb]); (try dsimp only); (try k_fold)) | ((with_reducible show wpAny _ _ (PySem.call (Value.ref 171) _) _ _ _); refine wpAny_call ?_; k_dflt (refine' code_def ?k1 ?k2 ?k3 ?k4 ?k5 ?kA ?kF ?kK ?k6 ?k7 ?k8 ?k9 ?kB ?_ ?c2 ?c3 ?c4 ?c5; (case kA => exact rfl); (case kF => exact rfl); (case kK => first | exact rfl | assumption); (case k1 => k_asm); (case k2 => k_asm); (case k3 => k_asm); (case k4 => k_asm); (case k5 => k_asm); (case k6 => k_is); (case k7 => k_is); (case k8 => ktr_room); (case k9 => exact BindsTo.of_eq rfl); (case c5 => decide); (case kB => exact locs rfl); (case c2 => exact rfl); (case c3 => exact rfl); (case c4 => exact rfl); k_whole; intro g' L' h' FG' F' N' B' X' T'; (try dsimp only); (try k_lift B'); (try k_fold))) | ((with_reducible show wpAny _ _ (PySem.call (Value.ref 108) _) _ _ _); k_dflt (refine' can_dadd _ _ _ _ _ _ _ _ _ _ _ _ _ _ _ _ _ _ _ _ _ ?p0 ?p1 ?p2 ?p3 ?p4 ?p5 ?p6 _ _ _ _ _ _ _ _ _ _ _ _ _ _ _ _ _ ?k1 ?k2 ?k3 ?k4 ?k5 ?kK ?kd ?ku ?_; (case k1 => k_asm); (case k2 => k_asm); (case k3 => k_asm); (case k4 => k_asm); (case k5 => k_asm); (case kK => first | exact rfl | assumption); (case p0 => k_mem); (case p1 => k_mem); (case p2 => assumption); (case p3 => assumption); (case p4 => assumption); (case p5 => assumption); (case p6 => assumption); (case kd => first | exact room hdp (by decide) | ((try simp only [depth_under_make, depth_under_kw, depth_in1, depth_deeper, depth_caller]); (try dsimp only [ktrTop]); omega) | ktr_room); (case ku => first | exact room hun (by decide) | ((try simp only [units_in1, units_deeper, Around.mark_units, units_caller]); (try dsimp only [ktrTop]); omega) | ktr_units)); intro D9 c9 e9 t9 u9 k9 h9 tk9 P9 F9 N9 l9; (obtain ⟨P91, P92, P93, P94, P95⟩ := P9); (try simp only [AllLt, and_true] at l9); (try dsimp only); (try k_fold)) | ((with_reducible show wpAny _ _ (PySem.call (Value.ref 115) _) _ _ _); k_dflt (refine' can_dsub _ _ _ _ _ _ _ _ _ _ _ _ _ _ _ _ _ _ _ _ _ ?p0 ?p1 ?p2 ?p3 ?p4 ?p5 ?p6 _ _ _ _ _ _ _ _ _ _ _ _ _ _ _ _ _ ?k1 ?k2 ?k3 ?k4 ?k5 ?kK ?kd ?ku ?_; (case k1 => k_asm); (case k2 => k_asm); (case k3 => k_asm); (case k4 => k_asm); (case k5 => k_asm); (case kK => first | exact rfl | assumption); (case p0 => k_mem); (case p1 => k_mem); (case p2 => assumption); (case p3 => assumption); (case p4 => assumption); (case p5 => assumption); (case p6 => assumption); (case kd => first | exact room hdp (by decide) | ((try simp only [depth_under_make, depth_under_kw, depth_in1, depth_deeper, depth_caller]); (try dsimp only [ktrTop]); omega) | ktr_room); (case ku => first | exact room hun (by decide) | ((try simp only [units_in1, units_deeper, Around.mark_units, units_caller]); (try dsimp only [ktrTop]); omega) | ktr_units)); intro D9 c9 e9 t9 u9 k9 h9 tk9 P9 F9 N9 l9; (obtain ⟨P91, P92, P93, P94, P95⟩ := P9); (try simp only [AllLt, and_true] at l9); (try dsimp only); (try k_fold)) | ((with_reducible show wpAny _ _ (PySem.call (Value.ref 164) _) _ _ _); k_dflt (refine' can_settled _ _ _ _ _ _ _ _ _ _ ?p0 ?p1 _ _ _ _ _ _ _ _ _ _ _ _ _ _ _ _ _ ?k1 ?k2 ?k3 ?k4 ?k5 ?kK ?kd ?ku ?_; (case k1 => k_asm); (case k2 => k_asm); (case k3 => k_asm); (case k4 => k_asm); (case k5 => k_asm); (case kK => first | exact rfl | assumption); (case p0 => omega); (case p1 => assumption); (case kd => first | exact room hdp (by decide) | ((try simp only [depth_under_make, depth_under_kw, depth_in1, depth_deeper, depth_caller]); (try dsimp only [ktrTop]); omega) | ktr_room); (case ku => first | exact room hun (by decide) | ((try simp only [units_in1, units_deeper, Around.mark_units, units_caller]); (try dsimp only [ktrTop]); omega) | ktr_units)); intro r9 tl9 h9 tk9 R9 F9 N9 l9; (try dsimp only); (try k_fold)) | ((with_reducible show wpAny _ _ (PySem.call (Value.ref 86) _) _ _ _); k_dflt (refine' can_decimal _ _ _ _ _ _ _ _ _ ?p0 ?p1 ?p2 _ _ _ _ _ _ _ _ _ _ _ _ _ _ _ _ _ ?k1 ?k2 ?k3 ?k4 ?k5 ?kK ?kd ?ku ?_; (case k1 => k_asm); (case k2 => k_asm); (case k3 => k_asm); (case k4 => k_asm); (case k5 => k_asm); (case kK => first | exact rfl | assumption); (case p0 => first | with_reducible assumption | (refine' RelN.mono ?r1 ?r2; (case r1 => with_reducible assumption); (case r2 => (repeat' (first | (with_reducible exact fun _ h => h) | (with_reducible exact fun _ h => List.mem_append_left _ h) | (with_reducible refine List.forall_mem_cons.mpr (And.intro ?_ ?_)) | (with_reducible refine List.forall_mem_append.mpr (And.intro ?_ ?_)) | (with_reducible refine sub_cons ?_) | (with_reducible refine sub_appR ?_) | k_mem))))); (case p1 => assumption); (case p2 => assumption); (case kd => first | exact room hdp (by decide) | ((try simp only [depth_under_make, depth_under_kw, depth_in1, depth_deeper, depth_caller]); (try dsimp only [ktrTop]); omega) | ktr_room); (case ku => first | exact room hun (by decide) | ((try simp only [units_in1, units_deeper, Around.mark_units, units_caller]); (try dsimp only [ktrTop]); omega) | ktr_units)); intro D9 c9 e9 t9 u9 k9 h9 tk9 P9 F9 N9 l9; (obtain ⟨P91, P92, P93, P94, P95⟩ := P9); (try simp only [AllLt, and_true] at l9); (try dsimp only); (try k_fold)) ); (try k_steps))
      exact jt0 rfl (by k_asm) (by assumption)
  case j1 =>
    intro hb h tk tl F1 N1 l1
    have N2 := news_tl N1
    clear N1
    rcases isW_cases (X := Xa) (Y := Ya) with ⟨n, m', rfl, rfl⟩ | hq
    · cases hR with
      | whole b1 b2 =>
        cases hS with
        | whole b3 b4 =>
          k_steps
          repeat' (unfold Paused; (first | ((with_reducible show wpAny _ _ (PySem.call (Value.ref 157) _) _ _ _); k_dflt (refine' can_isw _ _ _ _ _ _ _ ?p0 _ _ _ _ _ _ _ _ _ _ _ _ _ _ _ _ _ ?k1 ?k2 ?k3 ?k4 ?k5 ?kK ?kd ?ku ?_; (case k1 => k_asm); (case k2 => k_asm); (case k3 => k_asm); (case k4 => k_asm); (case k5 => k_asm); (case kK => first | exact rfl | assumption); (case p0 => first | with_reducible assumption | (refine' RelN.mono ?r1 ?r2; (case r1 => with_reducible assumption); (case r2 => (repeat' (first | (with_reducible exact fun _ h => h) | (with_reducible exact fun _ h => List.mem_append_left _ h) | (with_reducible refine List.forall_mem_cons.mpr (And.intro ?_ ?_)) | (with_reducible refine List.forall_mem_append.mpr (And.intro ?_ ?_)) | (with_reducible refine sub_cons ?_) | (with_reducible refine sub_appR ?_) | k_mem))))); (case kd => first | exact room hdp (by decide) | ((try simp only [depth_under_make, depth_under_kw, depth_in1, depth_deeper, depth_caller]); (try dsimp only [ktrTop]); omega) | ktr_room); (case ku => first | exact room hun (by decide) | ((try simp only [units_in1, units_deeper, Around.mark_units, units_caller]); (try dsimp only [ktrTop]); omega) | ktr_units)); intro h9 tk9 F9 N9; (try dsimp only [Num.isWb]); (try dsimp only); (try k_fold)) | ((with_reducible show wpAny _ _ (PySem.call (Value.ref 171) _) _ _ _); refine wpAny_call ?_; k_dflt (refine' code_def ?k1 ?k2 ?k3 ?k4 ?k5 ?kA ?kF ?kK ?k6 ?k7 ?k8 ?k9 ?kB ?_ ?c2 ?c3 ?c4 ?c5; (case kA => exact rfl); (case kF => exact rfl); (case kK => first | exact rfl | assumption); (case k1 => k_asm); (case k2 => k_asm); (case k3 => k_asm); (case k4 => k_asm); (case k5 => k_asm); (case k6 => k_is); (case k7 => k_is); (case k8 => ktr_room); (case k9 => exact BindsTo.of_eq rfl); (case c5 => decide); (case kB => exact locs rfl); (case c2 => exact rfl); (case c3 => exact rfl); (case c4 => exact rfl); k_whole; intro g' L' h' FG' F' N' B' X' T'; (try dsimp only); (try k_lift B'); (try k_fold))) | ((with_reducible show wpAny _ _ (PySem.call (Value.ref 108) _) _ _ _); k_dflt (refine' can_dadd _ _ _ _ _ _ _ _ _ _ _ _ _ _ _ _ _ _ _ _ _ ?p0 ?p1 ?p2 ?p3 ?p4 ?p5 ?p6 _ _ _ _ _ _ _ _ _ _ _ _ _ _ _ _ _ ?k1 ?k2 ?k3 ?k4 ?k5 ?kK ?kd ?ku ?_; (case k1 => k_asm); (case k2 => k_asm); (case k3 => k_asm); (case k4 => k_asm); (case k5 => k_asm); (case kK => first | exact rfl | assumption); (case p0 => k_mem); (case p1 => k_mem); (case p2 => assumption); (case p3 => assumption); (case p4 => assumption); (case p5 => assumption); (case p6 => assumption); (case kd => first | exact room hdp (by decide) | ((try simp only [depth_under_make, depth_under_kw, depth_in1, depth_deeper, depth_caller]); (try dsimp only [ktrTop]); omega) | ktr_room); (case ku => first | exact room hun (by decide) | ((try simp only [units_in1, units_deeper, Around.mark_units, units_caller]); (try dsimp only [ktrTop]); omega) | ktr_units)); intro D9 c9 e9 t9 u9 k9 h9 tk9 P9 F9 N9 l9; (obtain ⟨P91, P92, P93, P94, P95⟩ := P9); (try simp only [AllLt, and_true] at l9); (try dsimp only); (try k_fold)) | ((with_reducible show wpAny _ _ (PySem.call (Value.ref 115) _) _ _ _); k_dflt (refine' can_dsub _ _ _ _ _ _ _ _ _ _ _ _ _ _ _ _ _ _ _ _ _ ?p0 ?p1 ?p2 ?p3 ?p4 ?p5 ?p6 _ _ _ _ _ _ _ _ _ _ _ _ _ _ _ _ _ ?k1 ?k2 ?k3 ?k4 ?k5 ?kK ?kd ?ku ?_; (case k1 => k_asm); (case k2 => k_asm); (case k3 => k_asm); (case k4 => k_asm); (case k5 => k_asm); (case kK => first | exact rfl | assumption); (case p0 => k_mem); (case p1 => k_mem); (case p2 => assumption); (case p3 => assumption); (case p4 => assumption); (case p5 => assumption); (case p6 => assumption); (case kd => first | exact room hdp (by decide) | ((try simp only [depth_under_make, depth_under_kw, depth_in1, depth_deeper, depth_caller]); (try dsimp only [ktrTop]); omega) | ktr_room); (case ku => first | exact room hun (by decide) | ((try simp only [units_in1, units_deeper, Around.mark_units, units_caller]); (try dsimp only [ktrTop]); omega) | ktr_units)); intro D9 c9 e9 t9 u9 k9 h9 tk9 P9 F9 N9 l9; (obtain ⟨P91, P92, P93, P94, P95⟩ := P9); (try simp only [AllLt, and_true] at l9); (try dsimp only); (try k_fold)) | ((with_reducible show wpAny _ _ (PySem.call (Value.ref 164) _) _ _ _); k_dflt (refine' can_settled _ _ _ _ _ _ _ _ _ _ ?p0 ?p1 _ _ _ _ _ _ _ _ _ _ _ _ _ _ _ _ _ ?k1 ?k2 ?k3 ?k4 ?k5 ?kK ?kd ?ku ?_; (case k1 => k_asm); (case k2 => k_asm); (case k3 => k_asm); (case k4 => k_asm); (case k5 => k_asm); (case kK => first | exact rfl | assumption); (case p0 => omega); (case p1 => assumption); (case kd => first | exact room hdp (by decide) | ((try simp only [depth_under_make, depth_under_kw, depth_in1, depth_deeper, depth_caller]); (try dsimp only [ktrTop]); omega) | ktr_room); (case ku => first | exact room hun (by decide) | ((try simp only [units_in1, units_deeper, Around.mark_units, units_caller]); (try dsimp only [ktrTop]); omega) | ktr_units)); intro r9 tl9 h9 tk9 R9 F9 N9 l9; (try dsimp only); (try k_fold)) | ((with_reducible show wpAny _ _ (PySem.call (Value.ref 86) _) _ _ _); k_dflt (refine' can_decimal _ _ _ _ _ _ _ _ _ ?p0 ?p1 ?p2 _ _ _ _ _ _ _ _ _ _ _ _ _ _ _ _ _ ?k1 ?k2 ?k3 ?k4 ?k5 ?kK ?kd ?ku ?_; (case k1 => k_asm); (case k2 => k_asm); (case k3 => k_asm); (case k4 => k_asm); (case k5 => k_asm); (case kK => first | exact rfl | assumption); (case p0 => first | with_reducible assumption | (refine' RelN.mono ?r1 ?r2; (case r1 => with_reducible assumption); (case r2 => (repeat' (first | (with_reducible exact fun _ h => h) | (with_reducible exact fun _ h => List.mem_append_left _ h) | (with_reducible refine List.forall_mem_cons.mpr (And.intro ?_ ?_)) | (with_reducible refine List.forall_mem_append.mpr (And.intro ?_ ?_)) | (with_reducible refine sub_cons ?_) | (with_reducible refine sub_appR ?_) | k_mem))))); (case p1 => assumption); (case p2 => assumption); (case kd => first | exact room hdp (by decide) | ((try simp only [depth_under_make, depth_under_kw, depth_in1, depth_deeper, depth_caller]); (try dsimp only [ktrTop]); omega) | ktr_room); (case ku => first | exact room hun (by decide) | ((try simp only [units_in1, units_deeper, Around.mark_units, units_caller]); (try dsimp only [ktrTop]); omega) | ktr_units)); intro D9 c9 e9 t9 u9 k9 h9 tk9 P9 F9 N9 l9; (obtain ⟨P91, P92, P93, P94, P95⟩ := P9); (try simp only [AllLt, and_true] at l9); (try dsimp only); (try k_fold)) ); (try k_steps))
          all_goals (first | (refine' ret_N1 (Q := Q) hret ?eX ?eR ?eF ?eN ?el ?e1; (case eF => k_asm); (case eN => assumption); (case eR => assumption); (case el => assumption); (case e1 => first | assumption | exact allLt_of (by assumption) | tbn_find | kcu_lt); (case eX => rfl)) | (refine' ret_N (Q := Q) hret ?eX ?eR ?eF ?eN ?es ?el; (case eF => k_asm); (case eN => assumption); (case eR => assumption); (case es => (repeat' (first | (with_reducible exact fun _ h => h) | (with_reducible exact fun _ h => List.mem_append_left _ h) | (with_reducible refine List.forall_mem_cons.mpr (And.intro ?_ ?_)) | (with_reducible refine List.forall_mem_append.mpr (And.intro ?_ ?_)) | (with_reducible refine sub_cons ?_) | (with_reducible refine sub_appR ?_) | k_mem))); (case el => assumption); (case eX => rfl)) | (refine' ret_ND (Q := Q) hret ?eX ?eP ?eF ?eN ?em ?es ?el; (case eF => k_asm); (case eN => assumption); (case em => k_mem); (case es => (repeat' (first | (with_reducible exact fun _ h => h) | (with_reducible exact fun _ h => List.mem_append_left _ h) | (with_reducible refine List.forall_mem_cons.mpr (And.intro ?_ ?_)) | (with_reducible refine List.forall_mem_append.mpr (And.intro ?_ ?_)) | (with_reducible refine sub_cons ?_) | (with_reducible refine sub_appR ?_) | k_mem))); (case el => first | assumption | exact allLt_of (by assumption) | tbn_find | kcu_lt); (case eP => assumption); (case eX => exact lessN_no hb)))
    · exact absurd hb (by rw [hq]; decide)
  case j2 =>
    intro hb h tk tl F1 N1 l1
    have N2 := news_tl N1
    clear N1
    k_steps
    repeat' (unfold Paused; (first | ((with_reducible show wpAny _ _ (PySem.call (Value.ref 157) _) _ _ _); k_dflt (refine' can_isw _ _ _ _ _ _ _ ?p0 _ _ _ _ _ _ _ _ _ _ _ _ _ _ _ _ _ ?k1 ?k2 ?k3 ?k4 ?k5 ?kK ?kd ?ku ?_; (case k1 => k_asm); (case k2 => k_asm); (case k3 => k_asm); (case k4 => k_asm); (case k5 => k_asm); (case kK => first | exact rfl | assumption); (case p0 => first | with_reducible assumption | (refine' RelN.mono ?r1 ?r2; (case r1 => with_reducible assumption); (case r2 => (repeat' (first | (with_reducible exact fun _ h => h) | (with_reducible exact fun _ h => List.mem_append_left _ h) | (with_reducible refine List.forall_mem_cons.mpr (And.intro ?_ ?_)) | (with_reducible refine List.forall_mem_append.mpr (And.intro ?_ ?_)) | (with_reducible refine sub_cons ?_) | (with_reducible refine sub_appR ?_) | k_mem))))); (case kd => first | exact room hdp (by decide) | ((try simp only [depth_under_make, depth_under_kw, depth_in1, depth_deeper, depth_caller]); (try dsimp only [ktrTop]); omega) | ktr_room); (case ku => first | exact room hun (by decide) | ((try simp only [units_in1, units_deeper, Around.mark_units, units_caller]); (try dsimp only [ktrTop]); omega) | ktr_units)); intro h9 tk9 F9 N9; (try dsimp only [Num.isWb]); (try dsimp only); (try k_fold)) | ((with_reducible show wpAny _ _ (PySem.call (Value.ref 171) _) _ _ _); refine wpAny_call ?_; k_dflt (refine' code_def ?k1 ?k2 ?k3 ?k4 ?k5 ?kA ?kF ?kK ?k6 ?k7 ?k8 ?k9 ?kB ?_ ?c2 ?c3 ?c4 ?c5; (case kA => exact rfl); (case kF => exact rfl); (case kK => first | exact rfl | assumption); (case k1 => k_asm); (case k2 => k_asm); (case k3 => k_asm); (case k4 => k_asm); (case k5 => k_asm); (case k6 => k_is); (case k7 => k_is); (case k8 => ktr_room); (case k9 => exact BindsTo.of_eq rfl); (case c5 => decide); (case kB => exact locs rfl); (case c2 => exact rfl); (case c3 => exact rfl); (case c4 => exact rfl); k_whole; intro g' L' h' FG' F' N' B' X' T'; (try dsimp only); (try k_lift B'); (try k_fold))) | ((with_reducible show wpAny _ _ (PySem.call (Value.ref 108) _) _ _ _); k_dflt (refine' can_dadd _ _ _ _ _ _ _ _ _ _ _ _ _ _ _ _ _ _ _ _ _ ?p0 ?p1 ?p2 ?p3 ?p4 ?p5 ?p6 _ _ _ _ _ _ _ _ _ _ _ _ _ _ _ _ _ ?k1 ?k2 ?k3 ?k4 ?k5 ?kK ?kd ?ku ?_; (case k1 => k_asm); (case k2 => k_asm); (case k3 => k_asm); (case k4 => k_asm); (case k5 => k_asm); (case kK => first | exact rfl | assumption); (case p0 => k_mem); (case p1 => k_mem); (case p2 => assumption); (case p3 => assumption); (case p4 => assumption); (case p5 => assumption); (case p6 => assumption); (case kd => first | exact room hdp (by decide) | ((try simp only [depth_under_make, depth_under_kw, depth_in1, depth_deeper, depth_caller]); (try dsimp only [ktrTop]); omega) | ktr_room); (case ku => first | exact room hun (by decide) | ((try simp only [units_in1, units_deeper, Around.mark_units, units_caller]); (try dsimp only [ktrTop]); omega) | ktr_units)); intro D9 c9 e9 t9 u9 k9 h9 tk9 P9 F9 N9 l9; (obtain ⟨P91, P92, P93, P94, P95⟩ := P9); (try simp only [AllLt, and_true] at l9); (try dsimp only); (try k_fold)) | ((with_reducible show wpAny _ _ (PySem.call (Value.ref 115) _) _ _ _); k_dflt (refine' can_dsub _ _ _ _ _ _ _ _ _ _ _ _ _ _ _ _ _ _ _ _ _ ?p0 ?p1 ?p2 ?p3 ?p4 ?p5 ?p6 _ _ _ _ _ _ _ _ _ _ _ _ _ _ _ _ _ ?k1 ?k2 ?k3 ?k4 ?k5 ?kK ?kd ?ku ?_; (case k1 => k_asm); (case k2 => k_asm); (case k3 => k_asm); (case k4 => k_asm); (case k5 => k_asm); (case kK => first | exact rfl | assumption); (case p0 => k_mem); (case p1 => k_mem); (case p2 => assumption); (case p3 => assumption); (case p4 => assumption); (case p5 => assumption); (case p6 => assumption); (case kd => first | exact room hdp (by decide) | ((try simp only [depth_under_make, depth_under_kw, depth_in1, depth_deeper, depth_caller]); (try dsimp only [ktrTop]); omega) | ktr_room); (case ku => first | exact room hun (by decide) | ((try simp only [units_in1, units_deeper, Around.mark_units, units_caller]); (try dsimp only [ktrTop]); omega) | ktr_units)); intro D9 c9 e9 t9 u9 k9 h9 tk9 P9 F9 N9 l9; (obtain ⟨P91, P92, P93, P94, P95⟩ := P9); (try simp only [AllLt, and_true] at l9); (try dsimp only); (try k_fold)) | ((with_reducible show wpAny _ _ (PySem.call (Value.ref 164) _) _ _ _); k_dflt (refine' can_settled _ _ _ _ _ _ _ _ _ _ ?p0 ?p1 _ _ _ _ _ _ _ _ _ _ _ _ _ _ _ _ _ ?k1 ?k2 ?k3 ?k4 ?k5 ?kK ?kd ?ku ?_; (case k1 => k_asm); (case k2 => k_asm); (case k3 => k_asm); (case k4 => k_asm); (case k5 => k_asm); (case kK => first | exact rfl | assumption); (case p0 => omega); (case p1 => assumption); (case kd => first | exact room hdp (by decide) | ((try simp only [depth_under_make, depth_under_kw, depth_in1, depth_deeper, depth_caller]); (try dsimp only [ktrTop]); omega) | ktr_room); (case ku => first | exact room hun (by decide) | ((try simp only [units_in1, units_deeper, Around.mark_units, units_caller]); (try dsimp only [ktrTop]); omega) | ktr_units)); intro r9 tl9 h9 tk9 R9 F9 N9 l9; (try dsimp only); (try k_fold)) | ((with_reducible show wpAny _ _ (PySem.call (Value.ref 86) _) _ _ _); k_dflt (refine' can_decimal _ _ _ _ _ _ _ _ _ ?p0 ?p1 ?p2 _ _ _ _ _ _ _ _ _ _ _ _ _ _ _ _ _ ?k1 ?k2 ?k3 ?k4 ?k5 ?kK ?kd ?ku ?_; (case k1 => k_asm); (case k2 => k_asm); (case k3 => k_asm); (case k4 => k_asm); (case k5 => k_asm); (case kK => first | exact rfl | assumption); (case p0 => first | with_reducible assumption | (refine' RelN.mono ?r1 ?r2; (case r1 => with_reducible assumption); (case r2 => (repeat' (first | (with_reducible exact fun _ h => h) | (with_reducible exact fun _ h => List.mem_append_left _ h) | (with_reducible refine List.forall_mem_cons.mpr (And.intro ?_ ?_)) | (with_reducible refine List.forall_mem_append.mpr (And.intro ?_ ?_)) | (with_reducible refine sub_cons ?_) | (with_reducible refine sub_appR ?_) | k_mem))))); (case p1 => assumption); (case p2 => assumption); (case kd => first | exact room hdp (by decide) | ((try simp only [depth_under_make, depth_under_kw, depth_in1, depth_deeper, depth_caller]); (try dsimp only [ktrTop]); omega) | ktr_room); (case ku => first | exact room hun (by decide) | ((try simp only [units_in1, units_deeper, Around.mark_units, units_caller]); (try dsimp only [ktrTop]); omega) | ktr_units)); intro D9 c9 e9 t9 u9 k9 h9 tk9 P9 F9 N9 l9; (obtain ⟨P91, P92, P93, P94, P95⟩ := P9); (try simp only [AllLt, and_true] at l9); (try dsimp only); (try k_fold)) ); (try k_steps))
    all_goals (first | (refine' ret_N1 (Q := Q) hret ?eX ?eR ?eF ?eN ?el ?e1; (case eF => k_asm); (case eN => assumption); (case eR => assumption); (case el => assumption); (case e1 => first | assumption | exact allLt_of (by assumption) | tbn_find | kcu_lt); (case eX => rfl)) | (refine' ret_N (Q := Q) hret ?eX ?eR ?eF ?eN ?es ?el; (case eF => k_asm); (case eN => assumption); (case eR => assumption); (case es => (repeat' (first | (with_reducible exact fun _ h => h) | (with_reducible exact fun _ h => List.mem_append_left _ h) | (with_reducible refine List.forall_mem_cons.mpr (And.intro ?_ ?_)) | (with_reducible refine List.forall_mem_append.mpr (And.intro ?_ ?_)) | (with_reducible refine sub_cons ?_) | (with_reducible refine sub_appR ?_) | k_mem))); (case el => assumption); (case eX => rfl)) | (refine' ret_ND (Q := Q) hret ?eX ?eP ?eF ?eN ?em ?es ?el; (case eF => k_asm); (case eN => assumption); (case em => k_mem); (case es => (repeat' (first | (with_reducible exact fun _ h => h) | (with_reducible exact fun _ h => List.mem_append_left _ h) | (with_reducible refine List.forall_mem_cons.mpr (And.intro ?_ ?_)) | (with_reducible refine List.forall_mem_append.mpr (And.intro ?_ ?_)) | (with_reducible refine sub_cons ?_) | (with_reducible refine sub_appR ?_) | k_mem))); (case el => first | assumption | exact allLt_of (by assumption) | tbn_find | kcu_lt); (case eP => assumption); (case eX => exact lessN_no hb)))
end
set_option maxRecDepth 100000 in
set_option maxHeartbeats 8000000 in
theorem can_plus (w mean mg mb news) (v w' : Value) (X Y : Num) (d : Int) (td : Tok) (mx : Bool) (hR : RelN news v X) (hS : RelN news w' Y) (hX : Ok d X) (hY : Ok d Y) (hd : 1 ≤ d ∧ d ≤ 5) (hmx : mx = false → X.isDec ∧ Y.isDec) :
    Can w mean mg mb 241 15 news [v, w', .int d td, .bool mx] (RetN news (plusN d X Y)) := by
  dsimp only [Can, RetV, RetD, RetN, prg, lo]
  k_fill
  k_with_none
  intro dp un gd cn cs a ccd cl outer A₀ base h₀ L m s Q E B F X N T hkk hdp hun hret
  have hXs := hX.2
  have hYs := hY.2
  cases mx
  case true =>
    refine wpAny_call ?_
    k_dflt cell_enter
    k_steps
    repeat' (unfold Paused; (first | ((with_reducible show wpAny _ _ (PySem.call (Value.ref 108) _) _ _ _); k_dflt (refine' can_dadd _ _ _ _ _ _ _ _ _ _ _ _ _ _ _ _ _ _ _ _ _ ?p0 ?p1 ?p2 ?p3 ?p4 ?p5 ?p6 _ _ _ _ _ _ _ _ _ _ _ _ _ _ _ _ _ ?k1 ?k2 ?k3 ?k4 ?k5 ?kK ?kd ?ku ?_; (case k1 => k_asm); (case k2 => k_asm); (case k3 => k_asm); (case k4 => k_asm); (case k5 => k_asm); (case kK => first | exact rfl | assumption); (case p0 => k_mem); (case p1 => k_mem); (case p2 => assumption); (case p3 => assumption); (case p4 => assumption); (case p5 => assumption); (case p6 => assumption); (case kd => first | exact room hdp (by decide) | ((try simp only [depth_under_make, depth_under_kw, depth_in1, depth_deeper, depth_caller]); (try dsimp only [ktrTop]); omega) | ktr_room); (case ku => first | exact room hun (by decide) | ((try simp only [units_in1, units_deeper, Around.mark_units, units_caller]); (try dsimp only [ktrTop]); omega) | ktr_units)); intro D9 c9 e9 t9 u9 k9 h9 tk9 P9 F9 N9 l9; (obtain ⟨P91, P92, P93, P94, P95⟩ := P9); (try simp only [AllLt, and_true] at l9); (try dsimp only); (try k_fold)) | ((with_reducible show wpAny _ _ (PySem.call (Value.ref 115) _) _ _ _); k_dflt (refine' can_dsub _ _ _ _ _ _ _ _ _ _ _ _ _ _ _ _ _ _ _ _ _ ?p0 ?p1 ?p2 ?p3 ?p4 ?p5 ?p6 _ _ _ _ _ _ _ _ _ _ _ _ _ _ _ _ _ ?k1 ?k2 ?k3 ?k4 ?k5 ?kK ?kd ?ku ?_; (case k1 => k_asm); (case k2 => k_asm); (case k3 => k_asm); (case k4 => k_asm); (case k5 => k_asm); (case kK => first | exact rfl | assumption); (case p0 => k_mem); (case p1 => k_mem); (case p2 => assumption); (case p3 => assumption); (case p4 => assumption); (case p5 => assumption); (case p6 => assumption); (case kd => first | exact room hdp (by decide) | ((try simp only [depth_under_make, depth_under_kw, depth_in1, depth_deeper, depth_caller]); (try dsimp only [ktrTop]); omega) | ktr_room); (case ku => first | exact room hun (by decide) | ((try simp only [units_in1, units_deeper, Around.mark_units, units_caller]); (try dsimp only [ktrTop]); omega) | ktr_units)); intro D9 c9 e9 t9 u9 k9 h9 tk9 P9 F9 N9 l9; (obtain ⟨P91, P92, P93, P94, P95⟩ := P9); (try simp only [AllLt, and_true] at l9); (try dsimp only); (try k_fold)) | ((with_reducible show wpAny _ _ (PySem.call (Value.ref 213) _) _ _ _); k_dflt (refine' can_plusR _ _ _ _ _ _ _ _ _ _ _ _ _ ?p0 ?p1 ?p2 ?p3 ?p4 _ _ _ _ _ _ _ _ _ _ _ _ _ _ _ _ _ ?k1 ?k2 ?k3 ?k4 ?k5 ?kK ?kd ?ku ?_; (case k1 => k_asm); (case k2 => k_asm); (case k3 => k_asm); (case k4 => k_asm); (case k5 => k_asm); (case kK => first | exact rfl | assumption); (case p0 => first | with_reducible assumption | (refine' RelN.mono ?r1 ?r2; (case r1 => with_reducible assumption); (case r2 => (repeat' (first | (with_reducible exact fun _ h => h) | (with_reducible exact fun _ h => List.mem_append_left _ h) | (with_reducible refine List.forall_mem_cons.mpr (And.intro ?_ ?_)) | (with_reducible refine List.forall_mem_append.mpr (And.intro ?_ ?_)) | (with_reducible refine sub_cons ?_) | (with_reducible refine sub_appR ?_) | k_mem))))); (case p1 => first | with_reducible assumption | (refine' RelN.mono ?r1 ?r2; (case r1 => with_reducible assumption); (case r2 => (repeat' (first | (with_reducible exact fun _ h => h) | (with_reducible exact fun _ h => List.mem_append_left _ h) | (with_reducible refine List.forall_mem_cons.mpr (And.intro ?_ ?_)) | (with_reducible refine List.forall_mem_append.mpr (And.intro ?_ ?_)) | (with_reducible refine sub_cons ?_) | (with_reducible refine sub_appR ?_) | k_mem))))); (case p2 => assumption); (case p3 => assumption); (case p4 => assumption); (case kd => first | exact room hdp (by decide) | ((try simp only [depth_under_make, depth_under_kw, depth_in1, depth_deeper, depth_caller]); (try dsimp only [ktrTop]); omega) | ktr_room); (case ku => first | exact room hun (by decide) | ((try simp only [units_in1, units_deeper, Around.mark_units, units_caller]); (try dsimp only [ktrTop]); omega) | ktr_units)); intro r9 tl9 h9 tk9 R9 F9 N9 l9; (try dsimp only); (try k_fold)) | ((with_reducible show wpAny _ _ (PySem.call (Value.ref 213) _) _ _ _); k_dflt (refine' can_lessR _ _ _ _ _ _ _ _ _ _ _ _ _ ?p0 ?p1 ?p2 ?p3 ?p4 _ _ _ _ _ _ _ _ _ _ _ _ _ _ _ _ _ ?k1 ?k2 ?k3 ?k4 ?k5 ?kK ?kd ?ku ?_; (case k1 => k_asm); (case k2 => k_asm); (case k3 => k_asm); (case k4 => k_asm); (case k5 => k_asm); (case kK => first | exact rfl | assumption); (case p0 => first | with_reducible assumption | (refine' RelN.mono ?r1 ?r2; (case r1 => with_reducible assumption); (case r2 => (repeat' (first | (with_reducible exact fun _ h => h) | (with_reducible exact fun _ h => List.mem_append_left _ h) | (with_reducible refine List.forall_mem_cons.mpr (And.intro ?_ ?_)) | (with_reducible refine List.forall_mem_append.mpr (And.intro ?_ ?_)) | (with_reducible refine sub_cons ?_) | (with_reducible refine sub_appR ?_) | k_mem))))); (case p1 => first | with_reducible assumption | (refine' RelN.mono ?r1 ?r2; (case r1 => with_reducible assumption); (case r2 => (repeat' (first | (with_reducible exact fun _ h => h) | (with_reducible exact fun _ h => List.mem_append_left _ h) | (with_reducible refine List.forall_mem_cons.mpr (And.intro ?_ ?_)) | (with_reducible refine List.forall_mem_append.mpr (And.intro ?_ ?_)) | (with_reducible refine sub_cons ?_) | (with_reducible refine sub_appR ?_) | k_mem))))); (case p2 => assumption); (case p3 => assumption); (case p4 => assumption); (case kd => first | exact room hdp (by decide) | ((try simp only [depth_under_make, depth_under_kw, depth_in1, depth_deeper, depth_caller]); (try dsimp only [ktrTop]); omega) | ktr_room); (case ku => first | exact room hun (by decide) | ((try simp only [units_in1, units_deeper, Around.mark_units, units_caller]); (try dsimp only [ktrTop]); omega) | ktr_units)); intro r9 tl9 h9 tk9 R9 F9 N9 l9; (try dsimp only); (try k_fold)) ); (try k_steps))
    all_goals (first | (refine' ret_N1 (Q := Q) hret ?eX ?eR ?eF ?eN ?el ?e1; (case eF => k_asm); (case eN => assumption); (case eR => assumption); (case el => assumption); (case e1 => first | assumption | exact allLt_of (by assumption) | tbn_find | kcu_lt); (case eX => rfl)) | (refine' ret_N (Q := Q) hret ?eX ?eR ?eF ?eN ?es ?el; (case eF => k_asm); (case eN => assumption); (case eR => assumption); (case es => (repeat' (first | (with_reducible exact fun _ h => h) | (with_reducible exact fun _ h => List.mem_append_left _ h) | (with_reducible refine List.forall_mem_cons.mpr (And.intro ?_ ?_)) | (with_reducible refine List.forall_mem_append.mpr (And.intro ?_ ?_)) | (with_reducible refine sub_cons ?_) | (with_reducible refine sub_appR ?_) | k_mem))); (case el => assumption); (case eX => rfl)) | (refine' ret_ND (Q := Q) hret ?eX ?eP ?eF ?eN ?em ?es ?el; (case eF => k_asm); (case eN => assumption); (case em => k_mem); (case es => (repeat' (first | (with_reducible exact fun _ h => h) | (with_reducible exact fun _ h => List.mem_append_left _ h) | (with_reducible refine List.forall_mem_cons.mpr (And.intro ?_ ?_)) | (with_reducible refine List.forall_mem_append.mpr (And.intro ?_ ?_)) | (with_reducible refine sub_cons ?_) | (with_reducible refine sub_appR ?_) | k_mem))); (case el => first | assumption | exact allLt_of (by assumption) | tbn_find | kcu_lt); (case eP => assumption); (case eX => rfl)))
  case false =>
    have hq := hmx rfl
    cases hR with
    | whole b1 b2 => exact hq.1.elim
    | dec hm hI =>
      cases hS with
      | whole b1 b2 => exact hq.2.elim
      | dec hm' hI' =>
        refine wpAny_call ?_
        k_dflt cell_enter
        k_steps
        repeat' (unfold Paused; (first | ((with_reducible show wpAny _ _ (PySem.call (Value.ref 108) _) _ _ _); k_dflt (refine' can_dadd _ _ _ _ _ _ _ _ _ _ _ _ _ _ _ _ _ _ _ _ _ ?p0 ?p1 ?p2 ?p3 ?p4 ?p5 ?p6 _ _ _ _ _ _ _ _ _ _ _ _ _ _ _ _ _ ?k1 ?k2 ?k3 ?k4 ?k5 ?kK ?kd ?ku ?_; (case k1 => k_asm); (case k2 => k_asm); (case k3 => k_asm); (case k4 => k_asm); (case k5 => k_asm); (case kK => first | exact rfl | assumption); (case p0 => k_mem); (case p1 => k_mem); (case p2 => assumption); (case p3 => assumption); (case p4 => assumption); (case p5 => assumption); (case p6 => assumption); (case kd => first | exact room hdp (by decide) | ((try simp only [depth_under_make, depth_under_kw, depth_in1, depth_deeper, depth_caller]); (try dsimp only [ktrTop]); omega) | ktr_room); (case ku => first | exact room hun (by decide) | ((try simp only [units_in1, units_deeper, Around.mark_units, units_caller]); (try dsimp only [ktrTop]); omega) | ktr_units)); intro D9 c9 e9 t9 u9 k9 h9 tk9 P9 F9 N9 l9; (obtain ⟨P91, P92, P93, P94, P95⟩ := P9); (try simp only [AllLt, and_true] at l9); (try dsimp only); (try k_fold)) | ((with_reducible show wpAny _ _ (PySem.call (Value.ref 115) _) _ _ _); k_dflt (refine' can_dsub _ _ _ _ _ _ _ _ _ _ _ _ _ _ _ _ _ _ _ _ _ ?p0 ?p1 ?p2 ?p3 ?p4 ?p5 ?p6 _ _ _ _ _ _ _ _ _ _ _ _ _ _ _ _ _ ?k1 ?k2 ?k3 ?k4 ?k5 ?kK ?kd ?ku ?_; (case k1 => k_asm); (case k2 => k_asm); (case k3 => k_asm); (case k4 => k_asm); (case k5 => k_asm); (case kK => first | exact rfl | assumption); (case p0 => k_mem); (case p1 => k_mem); (case p2 => assumption); (case p3 => assumption); (case p4 => assumption); (case p5 => assumption); (case p6 => assumption); (case kd => first | exact room hdp (by decide) | ((try simp only [depth_under_make, depth_under_kw, depth_in1, depth_deeper, depth_caller]); (try dsimp only [ktrTop]); omega) | ktr_room); (case ku => first | exact room hun (by decide) | ((try simp only [units_in1, units_deeper, Around.mark_units, units_caller]); (try dsimp only [ktrTop]); omega) | ktr_units)); intro D9 c9 e9 t9 u9 k9 h9 tk9 P9 F9 N9 l9; (obtain ⟨P91, P92, P93, P94, P95⟩ := P9); (try simp only [AllLt, and_true] at l9); (try dsimp only); (try k_fold)) | ((with_reducible show wpAny _ _ (PySem.call (Value.ref 213) _) _ _ _); k_dflt (refine' can_plusR _ _ _ _ _ _ _ _ _ _ _ _ _ ?p0 ?p1 ?p2 ?p3 ?p4 _ _ _ _ _ _ _ _ _ _ _ _ _ _ _ _ _ ?k1 ?k2 ?k3 ?k4 ?k5 ?kK ?kd ?ku ?_; (case k1 => k_asm); (case k2 => k_asm); (case k3 => k_asm); (case k4 => k_asm); (case k5 => k_asm); (case kK => first | exact rfl | assumption); (case p0 => first | with_reducible assumption | (refine' RelN.mono ?r1 ?r2; (case r1 => with_reducible assumption); (case r2 => (repeat' (first | (with_reducible exact fun _ h => h) | (with_reducible exact fun _ h => List.mem_append_left _ h) | (with_reducible refine List.forall_mem_cons.mpr (And.intro ?_ ?_)) | (with_reducible refine List.forall_mem_append.mpr (And.intro ?_ ?_)) | (with_reducible refine sub_cons ?_) | (with_reducible refine sub_appR ?_) | k_mem))))); (case p1 => first | with_reducible assumption | (refine' RelN.mono ?r1 ?r2; (case r1 => with_reducible assumption); (case r2 => (repeat' (first | (with_reducible exact fun _ h => h) | (with_reducible exact fun _ h => List.mem_append_left _ h) | (with_reducible refine List.forall_mem_cons.mpr (And.intro ?_ ?_)) | (with_reducible refine List.forall_mem_append.mpr (And.intro ?_ ?_)) | (with_reducible refine sub_cons ?_) | (with_reducible refine sub_appR ?_) | k_mem))))); (case p2 => assumption); (case p3 => assumption); (case p4 => assumption); (case kd => first | exact room hdp (by decide) | ((try simp only [depth_under_make, depth_under_kw, depth_in1, depth_deeper, depth_caller]); (try dsimp only [ktrTop]); omega) | ktr_room); (case ku => first | exact room hun (by decide) | ((try simp only [units_in1, units_deeper, Around.mark_units, units_caller]); (try dsimp only [ktrTop]); omega) | ktr_units)); intro r9 tl9 h9 tk9 R9 F9 N9 l9; (try dsimp only); (try k_fold)) | ((with_reducible show wpAny _ _ (PySem.call (Value.ref 213) _) _ _ _); k_dflt (refine' can_lessR _ _ _ _ _ _ _ _ _ _ _ _ _ ?p0 ?p1 ?p2 ?p3 ?p4 _ _ _ _ _ _ _ _ _ _ _ _ _ _ _ _ _ ?k1 ?k2 ?k3 ?k4 ?k5 ?kK ?kd ?ku ?_; (case k1 => k_asm); (case k2 => k_asm); (case k3 => k_asm); (case k4 => k_asm); (case k5 => k_asm); (case kK => first | exact rfl | assumption); (case p0 => first | with_reducible assumption | (refine' RelN.mono ?r1 ?r2; (case r1 => with_reducible assumption); (case r2 => (repeat' (first | (with_reducible exact fun _ h => h) | (with_reducible exact fun _ h => List.mem_append_left _ h) | (with_reducible refine List.forall_mem_cons.mpr (And.intro ?_ ?_)) | (with_reducible refine List.forall_mem_append.mpr (And.intro ?_ ?_)) | (with_reducible refine sub_cons ?_) | (with_reducible refine sub_appR ?_) | k_mem))))); (case p1 => first | with_reducible assumption | (refine' RelN.mono ?r1 ?r2; (case r1 => with_reducible assumption); (case r2 => (repeat' (first | (with_reducible exact fun _ h => h) | (with_reducible exact fun _ h => List.mem_append_left _ h) | (with_reducible refine List.forall_mem_cons.mpr (And.intro ?_ ?_)) | (with_reducible refine List.forall_mem_append.mpr (And.intro ?_ ?_)) | (with_reducible refine sub_cons ?_) | (with_reducible refine sub_appR ?_) | k_mem))))); (case p2 => assumption); (case p3 => assumption); (case p4 => assumption); (case kd => first | exact room hdp (by decide) | ((try simp only [depth_under_make, depth_under_kw, depth_in1, depth_deeper, depth_caller]); (try dsimp only [ktrTop]); omega) | ktr_room); (case ku => first | exact room hun (by decide) | ((try simp only [units_in1, units_deeper, Around.mark_units, units_caller]); (try dsimp only [ktrTop]); omega) | ktr_units)); intro r9 tl9 h9 tk9 R9 F9 N9 l9; (try dsimp only); (try k_fold)) ); (try k_steps))
        all_goals (first | (refine' ret_N1 (Q := Q) hret ?eX ?eR ?eF ?eN ?el ?e1; (case eF => k_asm); (case eN => assumption); (case eR => assumption); (case el => assumption); (case e1 => first | assumption | exact allLt_of (by assumption) | tbn_find | kcu_lt); (case eX => rfl)) | (refine' ret_N (Q := Q) hret ?eX ?eR ?eF ?eN ?es ?el; (case eF => k_asm); (case eN => assumption); (case eR => assumption); (case es => (repeat' (first | (with_reducible exact fun _ h => h) | (with_reducible exact fun _ h => List.mem_append_left _ h) | (with_reducible refine List.forall_mem_cons.mpr (And.intro ?_ ?_)) | (with_reducible refine List.forall_mem_append.mpr (And.intro ?_ ?_)) | (with_reducible refine sub_cons ?_) | (with_reducible refine sub_appR ?_) | k_mem))); (case el => assumption); (case eX => rfl)) | (refine' ret_ND (Q := Q) hret ?eX ?eP ?eF ?eN ?em ?es ?el; (case eF => k_asm); (case eN => assumption); (case em => k_mem); (case es => (repeat' (first | (with_reducible exact fun _ h => h) | (with_reducible exact fun _ h => List.mem_append_left _ h) | (with_reducible refine List.forall_mem_cons.mpr (And.intro ?_ ?_)) | (with_reducible refine List.forall_mem_append.mpr (And.intro ?_ ?_)) | (with_reducible refine sub_cons ?_) | (with_reducible refine sub_appR ?_) | k_mem))); (case el => first | assumption | exact allLt_of (by assumption) | tbn_find | kcu_lt); (case eP => assumption); (case eX => rfl)))
set_option maxRecDepth 100000 in
set_option maxHeartbeats 8000000 in
theorem can_less (w mean mg mb news) (v w' : Value) (X Y : Num) (d : Int) (td : Tok) (mx : Bool) (hR : RelN news v X) (hS : RelN news w' Y) (hX : Ok d X) (hY : Ok d Y) (hd : 1 ≤ d ∧ d ≤ 5) (hmx : mx = false → X.isDec ∧ Y.isDec) :
    Can w mean mg mb 248 15 news [v, w', .int d td, .bool mx] (RetN news (lessN d X Y)) := by
  dsimp only [Can, RetV, RetD, RetN, prg, lo]
  k_fill
  k_with_none
  intro dp un gd cn cs a ccd cl outer A₀ base h₀ L m s Q E B F X N T hkk hdp hun hret
  have hXs := hX.2
  have hYs := hY.2
  cases mx
  case true =>
    refine wpAny_call ?_
    k_dflt cell_enter
    k_steps
    repeat' (unfold Paused; (first | ((with_reducible show wpAny _ _ (PySem.call (Value.ref 108) _) _ _ _); k_dflt (refine' can_dadd _ _ _ _ _ _ _ _ _ _ _ _ _ _ _ _ _ _ _ _ _ ?p0 ?p1 ?p2 ?p3 ?p4 ?p5 ?p6 _ _ _ _ _ _ _ _ _ _ _ _ _ _ _ _ _ ?k1 ?k2 ?k3 ?k4 ?k5 ?kK ?kd ?ku ?_; (case k1 => k_asm); (case k2 => k_asm); (case k3 => k_asm); (case k4 => k_asm); (case k5 => k_asm); (case kK => first | exact rfl | assumption); (case p0 => k_mem); (case p1 => k_mem); (case p2 => assumption); (case p3 => assumption); (case p4 => assumption); (case p5 => assumption); (case p6 => assumption); (case kd => first | exact room hdp (by decide) | ((try simp only [depth_under_make, depth_under_kw, depth_in1, depth_deeper, depth_caller]); (try dsimp only [ktrTop]); omega) | ktr_room); (case ku => first | exact room hun (by decide) | ((try simp only [units_in1, units_deeper, Around.mark_units, units_caller]); (try dsimp only [ktrTop]); omega) | ktr_units)); intro D9 c9 e9 t9 u9 k9 h9 tk9 P9 F9 N9 l9; (obtain ⟨P91, P92, P93, P94, P95⟩ := P9); (try simp only [AllLt, and_true] at l9); (try dsimp only); (try k_fold)) | ((with_reducible show wpAny _ _ (PySem.call (Value.ref 115) _) _ _ _); k_dflt (refine' can_dsub _ _ _ _ _ _ _ _ _ _ _ _ _ _ _ _ _ _ _ _ _ ?p0 ?p1 ?p2 ?p3 ?p4 ?p5 ?p6 _ _ _ _ _ _ _ _ _ _ _ _ _ _ _ _ _ ?k1 ?k2 ?k3 ?k4 ?k5 ?kK ?kd ?ku ?_; (case k1 => k_asm); (case k2 => k_asm); (case k3 => k_asm); (case k4 => k_asm); (case k5 => k_asm); (case kK => first | exact rfl | assumption); (case p0 => k_mem); (case p1 => k_mem); (case p2 => assumption); (case p3 => assumption); (case p4 => assumption); (case p5 => assumption); (case p6 => assumption); (case kd => first | exact room hdp (by decide) | ((try simp only [depth_under_make, depth_under_kw, depth_in1, depth_deeper, depth_caller]); (try dsimp only [ktrTop]); omega) | ktr_room); (case ku => first | exact room hun (by decide) | ((try simp only [units_in1, units_deeper, Around.mark_units, units_caller]); (try dsimp only [ktrTop]); omega) | ktr_units)); intro D9 c9 e9 t9 u9 k9 h9 tk9 P9 F9 N9 l9; (obtain ⟨P91, P92, P93, P94, P95⟩ := P9); (try simp only [AllLt, and_true] at l9); (try dsimp only); (try k_fold)) | ((with_reducible show wpAny _ _ (PySem.call (Value.ref 213) _) _ _ _); k_dflt (refine' can_plusR _ _ _ _ _ _ _ _ _ _ _ _ _ ?p0 ?p1 ?p2 ?p3 ?p4 _ _ _ _ _ _ _ _ _ _ _ _ _ _ _ _ _ ?k1 ?k2 ?k3 ?k4 ?k5 ?kK ?kd ?ku ?_; (case k1 => k_asm); (case k2 => k_asm); (case k3 => k_asm); (case k4 => k_asm); (case k5 => k_asm); (case kK => first | exact rfl | assumption); (case p0 => first | with_reducible assumption | (refine' RelN.mono ?r1 ?r2; (case r1 => with_reducible assumption); (case r2 => (repeat' (first | (with_reducible exact fun _ h => h) | (with_reducible exact fun _ h => List.mem_append_left _ h) | (with_reducible refine List.forall_mem_cons.mpr (And.intro ?_ ?_)) | (with_reducible refine List.forall_mem_append.mpr (And.intro ?_ ?_)) | (with_reducible refine sub_cons ?_) | (with_reducible refine sub_appR ?_) | k_mem))))); (case p1 => first | with_reducible assumption | (refine' RelN.mono ?r1 ?r2; (case r1 => with_reducible assumption); (case r2 => (repeat' (first | (with_reducible exact fun _ h => h) | (with_reducible exact fun _ h => List.mem_append_left _ h) | (with_reducible refine List.forall_mem_cons.mpr (And.intro ?_ ?_)) | (with_reducible refine List.forall_mem_append.mpr (And.intro ?_ ?_)) | (with_reducible refine sub_cons ?_) | (with_reducible refine sub_appR ?_) | k_mem))))); (case p2 => assumption); (case p3 => assumption); (case p4 => assumption); (case kd => first | exact room hdp (by decide) | ((try simp only [depth_under_make, depth_under_kw, depth_in1, depth_deeper, depth_caller]); (try dsimp only [ktrTop]); omega) | ktr_room); (case ku => first | exact room hun (by decide) | ((try simp only [units_in1, units_deeper, Around.mark_units, units_caller]); (try dsimp only [ktrTop]); omega) | ktr_units)); intro r9 tl9 h9 tk9 R9 F9 N9 l9; (try dsimp only); (try k_fold)) | ((with_reducible show wpAny _ _ (PySem.call (Value.ref 213) _) _ _ _); k_dflt (refine' can_lessR _ _ _ _ _ _ _ _ _ _ _ _ _ ?p0 ?p1 ?p2 ?p3 ?p4 _ _ _ _ _ _ _ _ _ _ _ _ _ _ _ _ _ ?k1 ?k2 ?k3 ?k4 ?k5 ?kK ?kd ?ku ?_; (case k1 => k_asm); (case k2 => k_asm); (case k3 => k_asm); (case k4 => k_asm); (case k5 => k_asm); (case kK => first | exact rfl | assumption); (case p0 => first | with_reducible assumption | (refine' RelN.mono ?r1 ?r2; (case r1 => with_reducible assumption); (case r2 => (repeat' (first | (with_reducible exact fun _ h => h) | (with_reducible exact fun _ h => List.mem_append_left _ h) | (with_reducible refine List.forall_mem_cons.mpr (And.intro ?_ ?_)) | (with_reducible refine List.forall_mem_append.mpr (And.intro ?_ ?_)) | (with_reducible refine sub_cons ?_) | (with_reducible refine sub_appR ?_) | k_mem))))); (case p1 => first | with_reducible assumption | (refine' RelN.mono ?r1 ?r2; (case r1 => with_reducible assumption); (case r2 => (repeat' (first | (with_reducible exact fun _ h => h) | (with_reducible exact fun _ h => List.mem_append_left _ h) | (with_reducible refine List.forall_mem_cons.mpr (And.intro ?_ ?_)) | (with_reducible refine List.forall_mem_append.mpr (And.intro ?_ ?_)) | (with_reducible refine sub_cons ?_) | (with_reducible refine sub_appR ?_) | k_mem))))); (case p2 => assumption); (case p3 => assumption); (case p4 => assumption); (case kd => first | exact room hdp (by decide) | ((try simp only [depth_under_make, depth_under_kw, depth_in1, depth_deeper, depth_caller]); (try dsimp only [ktrTop]); omega) | ktr_room); (case ku => first | exact room hun (by decide) | ((try simp only [units_in1, units_deeper, Around.mark_units, units_caller]); (try dsimp only [ktrTop]); omega) | ktr_units)); intro r9 tl9 h9 tk9 R9 F9 N9 l9; (try dsimp only); (try k_fold)) ); (try k_steps))
    all_goals (first | (refine' ret_N1 (Q := Q) hret ?eX ?eR ?eF ?eN ?el ?e1; (case eF => k_asm); (case eN => assumption); (case eR => assumption); (case el => assumption); (case e1 => first | assumption | exact allLt_of (by assumption) | tbn_find | kcu_lt); (case eX => rfl)) | (refine' ret_N (Q := Q) hret ?eX ?eR ?eF ?eN ?es ?el; (case eF => k_asm); (case eN => assumption); (case eR => assumption); (case es => (repeat' (first | (with_reducible exact fun _ h => h) | (with_reducible exact fun _ h => List.mem_append_left _ h) | (with_reducible refine List.forall_mem_cons.mpr (And.intro ?_ ?_)) | (with_reducible refine List.forall_mem_append.mpr (And.intro ?_ ?_)) | (with_reducible refine sub_cons ?_) | (with_reducible refine sub_appR ?_) | k_mem))); (case el => assumption); (case eX => rfl)) | (refine' ret_ND (Q := Q) hret ?eX ?eP ?eF ?eN ?em ?es ?el; (case eF => k_asm); (case eN => assumption); (case em => k_mem); (case es => (repeat' (first | (with_reducible exact fun _ h => h) | (with_reducible exact fun _ h => List.mem_append_left _ h) | (with_reducible refine List.forall_mem_cons.mpr (And.intro ?_ ?_)) | (with_reducible refine List.forall_mem_append.mpr (And.intro ?_ ?_)) | (with_reducible refine sub_cons ?_) | (with_reducible refine sub_appR ?_) | k_mem))); (case el => first | assumption | exact allLt_of (by assumption) | tbn_find | kcu_lt); (case eP => assumption); (case eX => rfl)))
  case false =>
    have hq := hmx rfl
    cases hR with
    | whole b1 b2 => exact hq.1.elim
    | dec hm hI =>
      cases hS with
      | whole b1 b2 => exact hq.2.elim
      | dec hm' hI' =>
        refine wpAny_call ?_
        k_dflt cell_enter
        k_steps
        repeat' (unfold Paused; (first | ((with_reducible show wpAny _ _ (PySem.call (Value.ref 108) _) _ _ _); k_dflt (refine' can_dadd _ _ _ _ _ _ _ _ _ _ _ _ _ _ _ _ _ _ _ _ _ ?p0 ?p1 ?p2 ?p3 ?p4 ?p5 ?p6 _ _ _ _ _ _ _ _ _ _ _ _ _ _ _ _ _ ?k1 ?k2 ?k3 ?k4 ?k5 ?kK ?kd ?ku ?_; (case k1 => k_asm); (case k2 => k_asm); (case k3 => k_asm); (case k4 => k_asm); (case k5 => k_asm); (case kK => first | exact rfl | assumption); (case p0 => k_mem); (case p1 => k_mem); (case p2 => assumption); (case p3 => assumption); (case p4 => assumption); (case p5 => assumption); (case p6 => assumption); (case kd => first | exact room hdp (by decide) | ((try simp only [depth_under_make, depth_under_kw, depth_in1, depth_deeper, depth_caller]); (try dsimp only [ktrTop]); omega) | ktr_room); (case ku => first | exact room hun (by decide) | ((try simp only [units_in1, units_deeper, Around.mark_units, units_caller]); (try dsimp only [ktrTop]); omega) | ktr_units)); intro D9 c9 e9 t9 u9 k9 h9 tk9 P9 F9 N9 l9; (obtain ⟨P91, P92, P93, P94, P95⟩ := P9); (try simp only [AllLt, and_true] at l9); (try dsimp only); (try k_fold)) | ((with_reducible show wpAny _ _ (PySem.call (Value.ref 115) _) _ _ _); k_dflt (refine' can_dsub _ _ _ _ _ _ _ _ _ _ _ _ _ _ _ _ _ _ _ _ _ ?p0 ?p1 ?p2 ?p3 ?p4 ?p5 ?p6 _ _ _ _ _ _ _ _ _ _ _ _ _ _ _ _ _ ?k1 ?k2 ?k3 ?k4 ?k5 ?kK ?kd ?ku ?_; (case k1 => k_asm); (case k2 => k_asm); (case k3 => k_asm); (case k4 => k_asm); (case k5 => k_asm); (case kK => first | exact rfl | assumption); (case p0 => k_mem); (case p1 => k_mem); (case p2 => assumption); (case p3 => assumption); (case p4 => assumption); (case p5 => assumption); (case p6 => assumption); (case kd => first | exact room hdp (by decide) | ((try simp only [depth_under_make, depth_under_kw, depth_in1, depth_deeper, depth_caller]); (try dsimp only [ktrTop]); omega) | ktr_room); (case ku => first | exact room hun (by decide) | ((try simp only [units_in1, units_deeper, Around.mark_units, units_caller]); (try dsimp only [ktrTop]); omega) | ktr_units)); intro D9 c9 e9 t9 u9 k9 h9 tk9 P9 F9 N9 l9; (obtain ⟨P91, P92, P93, P94, P95⟩ := P9); (try simp only [AllLt, and_true] at l9); (try dsimp only); (try k_fold)) | ((with_reducible show wpAny _ _ (PySem.call (Value.ref 213) _) _ _ _); k_dflt (refine' can_plusR _ _ _ _ _ _ _ _ _ _ _ _ _ ?p0 ?p1 ?p2 ?p3 ?p4 _ _ _ _ _ _ _ _ _ _ _ _ _ _ _ _ _ ?k1 ?k2 ?k3 ?k4 ?k5 ?kK ?kd ?ku ?_; (case k1 => k_asm); (case k2 => k_asm); (case k3 => k_asm); (case k4 => k_asm); (case k5 => k_asm); (case kK => first | exact rfl | assumption); (case p0 => first | with_reducible assumption | (refine' RelN.mono ?r1 ?r2; (case r1 => with_reducible assumption); (case r2 => (repeat' (first | (with_reducible exact fun _ h => h) | (with_reducible exact fun _ h => List.mem_append_left _ h) | (with_reducible refine List.forall_mem_cons.mpr (And.intro ?_ ?_)) | (with_reducible refine List.forall_mem_append.mpr (And.intro ?_ ?_)) | (with_reducible refine sub_cons ?_) | (with_reducible refine sub_appR ?_) | k_mem))))); (case p1 => first | with_reducible assumption | (refine' RelN.mono ?r1 ?r2; (case r1 => with_reducible assumption); (case r2 => (repeat' (first | (with_reducible exact fun _ h => h) | (with_reducible exact fun _ h => List.mem_append_left _ h) | (with_reducible refine List.forall_mem_cons.mpr (And.intro ?_ ?_)) | (with_reducible refine List.forall_mem_append.mpr (And.intro ?_ ?_)) | (with_reducible refine sub_cons ?_) | (with_reducible refine sub_appR ?_) | k_mem))))); (case p2 => assumption); (case p3 => assumption); (case p4 => assumption); (case kd => first | exact room hdp (by decide) | ((try simp only [depth_under_make, depth_under_kw, depth_in1, depth_deeper, depth_caller]); (try dsimp only [ktrTop]); omega) | ktr_room); (case ku => first | exact room hun (by decide) | ((try simp only [units_in1, units_deeper, Around.mark_units, units_caller]); (try dsimp only [ktrTop]); omega) | ktr_units)); intro r9 tl9 h9 tk9 R9 F9 N9 l9; (try dsimp only); (try k_fold)) | ((with_reducible show wpAny _ _ (PySem.call (Value.ref 213) _) _ _ _); k_dflt (refine' can_lessR _ _ _ _ _ _ _ _ _ _ _ _ _ ?p0 ?p1 ?p2 ?p3 ?p4 _ _ _ _ _ _ _ _ _ _ _ _ _ _ _ _ _ ?k1 ?k2 ?k3 ?k4 ?k5 ?kK ?kd ?ku ?_; (case k1 => k_asm); (case k2 => k_asm); (case k3 => k_asm); (case k4 => k_asm); (case k5 => k_asm); (case kK => first | exact rfl | assumption); (case p0 => first | with_reducible assumption | (refine' RelN.mono ?r1 ?r2; (case r1 => with_reducible assumption); (case r2 => (repeat' (first | (with_reducible exact fun _ h => h) | (with_reducible exact fun _ h => List.mem_append_left _ h) | (with_reducible refine List.forall_mem_cons.mpr (And.intro ?_ ?_)) | (with_reducible refine List.forall_mem_append.mpr (And.intro ?_ ?_)) | (with_reducible refine sub_cons ?_) | (with_reducible refine sub_appR ?_) | k_mem))))); (case p1 => first | with_reducible assumption | (refine' RelN.mono ?r1 ?r2; (case r1 => with_reducible assumption); (case r2 => (repeat' (first | (with_reducible exact fun _ h => h) | (with_reducible exact fun _ h => List.mem_append_left _ h) | (with_reducible refine List.forall_mem_cons.mpr (And.intro ?_ ?_)) | (with_reducible refine List.forall_mem_append.mpr (And.intro ?_ ?_)) | (with_reducible refine sub_cons ?_) | (with_reducible refine sub_appR ?_) | k_mem))))); (case p2 => assumption); (case p3 => assumption); (case p4 => assumption); (case kd => first | exact room hdp (by decide) | ((try simp only [depth_under_make, depth_under_kw, depth_in1, depth_deeper, depth_caller]); (try dsimp only [ktrTop]); omega) | ktr_room); (case ku => first | exact room hun (by decide) | ((try simp only [units_in1, units_deeper, Around.mark_units, units_caller]); (try dsimp only [ktrTop]); omega) | ktr_units)); intro r9 tl9 h9 tk9 R9 F9 N9 l9; (try dsimp only); (try k_fold)) ); (try k_steps))
        all_goals (first | (refine' ret_N1 (Q := Q) hret ?eX ?eR ?eF ?eN ?el ?e1; (case eF => k_asm); (case eN => assumption); (case eR => assumption); (case el => assumption); (case e1 => first | assumption | exact allLt_of (by assumption) | tbn_find | kcu_lt); (case eX => rfl)) | (refine' ret_N (Q := Q) hret ?eX ?eR ?eF ?eN ?es ?el; (case eF => k_asm); (case eN => assumption); (case eR => assumption); (case es => (repeat' (first | (with_reducible exact fun _ h => h) | (with_reducible exact fun _ h => List.mem_append_left _ h) | (with_reducible refine List.forall_mem_cons.mpr (And.intro ?_ ?_)) | (with_reducible refine List.forall_mem_append.mpr (And.intro ?_ ?_)) | (with_reducible refine sub_cons ?_) | (with_reducible refine sub_appR ?_) | k_mem))); (case el => assumption); (case eX => rfl)) | (refine' ret_ND (Q := Q) hret ?eX ?eP ?eF ?eN ?em ?es ?el; (case eF => k_asm); (case eN => assumption); (case em => k_mem); (case es => (repeat' (first | (with_reducible exact fun _ h => h) | (with_reducible exact fun _ h => List.mem_append_left _ h) | (with_reducible refine List.forall_mem_cons.mpr (And.intro ?_ ?_)) | (with_reducible refine List.forall_mem_append.mpr (And.intro ?_ ?_)) | (with_reducible refine sub_cons ?_) | (with_reducible refine sub_appR ?_) | k_mem))); (case el => first | assumption | exact allLt_of (by assumption) | tbn_find | kcu_lt); (case eP => assumption); (case eX => rfl)))
theorem allLt_id {d : Addr} {l : List (Addr × Obj)} (h : AllLt d l) : AllLt d l := h
/-- a ledger that has grown by fresh objects -/
def Ext' (tl news all : List (Addr × Obj)) : Prop := all = tl ++ news ∧ ∀ p ∈ tl, ∀ q ∈ news, q.1 < p.1
theorem Ext'.refl (news : List (Addr × Obj)) : Ext' [] news news := ⟨rfl, fun _ h => nomatch h⟩
theorem Ext'.app {t news all tl : List (Addr × Obj)} (hl : ∀ p ∈ tl, ∀ q ∈ all, q.1 < p.1) (h : Ext' t news all) : Ext' (tl ++ t) news (tl ++ all) := by
  obtain ⟨rfl, ht⟩ := h
  refine ⟨by rw [List.append_assoc], fun p hp q hq => ?_⟩
  rcases List.mem_append.mp hp with hp | hp
  · exact hl p hp q (List.mem_append_right _ hq)
  · exact ht p hp q hq
theorem Ext'.cons {t news all : List (Addr × Obj)} {x : Addr × Obj} (hl : AllLt x.1 all) (h : Ext' t news all) : Ext' (x :: t) news (x :: all) := by
  obtain ⟨rfl, ht⟩ := h
  refine ⟨rfl, fun p hp q hq => ?_⟩
  rcases List.mem_cons.mp hp with rfl | hp
  · exact ktn_ltOf hl q (List.mem_append_right _ hq)
  · exact ht p hp q hq
abbrev tup2 (r1 r2 : Value) (k : Nat) : Obj := { cls := .type "tuple", data := .seq #[r1, r2] k }
abbrev RetP (news : List (Addr × Obj)) (x y : Num) (h₀ : Heap) (L : Addr) (m : Str → Option Value) (s : Shared) (Q : Value → Shared → Prop) : Prop :=
  ∀ (D : Addr) (r1 r2 : Value) (k : Nat) (tl : List (Addr × Obj)) (h' : Heap) (tk' : Nat), (D, tup2 r1 r2 k) ∈ tl → RelN tl r1 x → RelN tl r2 y → Fr h₀ L h' m → News h₀ L h' (tl ++ news) → (∀ p ∈ tl, ∀ q ∈ news, q.1 < p.1) → Q (.ref D) { s with heap := h', toks := tk' }
theorem ret_P {news all tl : List (Addr × Obj)} {h₀ h' : Heap} {L : Addr} {m : Str → Option Value} {s : Shared} {Q : Value → Shared → Prop} {tk' : Nat} {x y : Num} {D : Addr} {r1 r2 : Value} {k : Nat}
    (hret : RetP news x y h₀ L m s Q) (hE : Ext' tl news all) (hm : (D, tup2 r1 r2 k) ∈ tl) (h1 : RelN tl r1 x) (h2 : RelN tl r2 y) (F : Fr h₀ L h' m) (N : News h₀ L h' all) : Q (.ref D) { s with heap := h', toks := tk' } := by
  obtain ⟨rfl, hl⟩ := hE
  exact hret D r1 r2 k tl h' tk' hm h1 h2 F N hl
set_option maxRecDepth 100000 in
set_option maxHeartbeats 8000000 in
theorem can_parted (w mean mg mb news) (v w' : Value) (X Y : Num) (d : Int) (td : Tok) (mx : Bool) (kk : Nat) (hR : RelN news v X) (hS : RelN news w' Y) (hX : Okk d kk X) (hY : Okk d kk Y) (hd : 1 ≤ d ∧ d ≤ 5) (hk : kk ≤ 50) (hmx : mx = false → X.isDec ∧ Y.isDec) :
    Can w mean mg mb 255 18 news [v, w', .int d td, .bool mx] (RetP news (pS d X Y) (pE d X Y)) := by
  dsimp only [Can, RetV, RetD, RetN, RetP, prg, lo]
  k_fill
  k_with_none
  intro dp un gd cn cs a ccd cl outer A₀ base h₀ L m s Q E B F X N T hkk hdp hun hret
  obtain ⟨f1, f2, f3, f4, f5, f6, f7⟩ := parted_facts hX hY hk hd
  obtain ⟨m1, m2, m3, m4, m5⟩ := parted_decs (d := d) hmx
  refine wpAny_call ?_
  k_dflt cell_enter
  k_steps
  repeat' (unfold Paused; (first | ((with_reducible show wpAny _ _ (PySem.call (Value.ref 241) _) _ _ _); k_dflt (refine' can_plus _ _ _ _ _ _ _ _ _ _ _ _ ?p0 ?p1 ?p2 ?p3 ?p4 ?p5 _ _ _ _ _ _ _ _ _ _ _ _ _ _ _ _ _ ?k1 ?k2 ?k3 ?k4 ?k5 ?kK ?kd ?ku ?_; (case k1 => k_asm); (case k2 => k_asm); (case k3 => k_asm); (case k4 => k_asm); (case k5 => k_asm); (case kK => first | exact rfl | assumption); (case p0 => first | with_reducible assumption | (refine' RelN.mono ?r1 ?r2; (case r1 => with_reducible assumption); (case r2 => (repeat' (first | (with_reducible exact fun _ h => h) | (with_reducible exact fun _ h => List.mem_append_left _ h) | (with_reducible refine List.forall_mem_cons.mpr (And.intro ?_ ?_)) | (with_reducible refine List.forall_mem_append.mpr (And.intro ?_ ?_)) | (with_reducible refine sub_cons ?_) | (with_reducible refine sub_appR ?_) | k_mem))))); (case p1 => first | with_reducible assumption | (refine' RelN.mono ?r1 ?r2; (case r1 => with_reducible assumption); (case r2 => (repeat' (first | (with_reducible exact fun _ h => h) | (with_reducible exact fun _ h => List.mem_append_left _ h) | (with_reducible refine List.forall_mem_cons.mpr (And.intro ?_ ?_)) | (with_reducible refine List.forall_mem_append.mpr (And.intro ?_ ?_)) | (with_reducible refine sub_cons ?_) | (with_reducible refine sub_appR ?_) | k_mem))))); (case p2 => assumption); (case p3 => assumption); (case p4 => assumption); (case p5 => assumption); (case kd => first | exact room hdp (by decide) | ((try simp only [depth_under_make, depth_under_kw, depth_in1, depth_deeper, depth_caller]); (try dsimp only [ktrTop]); omega) | ktr_room); (case ku => first | exact room hun (by decide) | ((try simp only [units_in1, units_deeper, Around.mark_units, units_caller]); (try dsimp only [ktrTop]); omega) | ktr_units)); intro r9 tl9 h9 tk9 R9 F9 N9 l9; (try dsimp only); (try k_fold)) | ((with_reducible show wpAny _ _ (PySem.call (Value.ref 248) _) _ _ _); k_dflt (refine' can_less _ _ _ _ _ _ _ _ _ _ _ _ ?p0 ?p1 ?p2 ?p3 ?p4 ?p5 _ _ _ _ _ _ _ _ _ _ _ _ _ _ _ _ _ ?k1 ?k2 ?k3 ?k4 ?k5 ?kK ?kd ?ku ?_; (case k1 => k_asm); (case k2 => k_asm); (case k3 => k_asm); (case k4 => k_asm); (case k5 => k_asm); (case kK => first | exact rfl | assumption); (case p0 => first | with_reducible assumption | (refine' RelN.mono ?r1 ?r2; (case r1 => with_reducible assumption); (case r2 => (repeat' (first | (with_reducible exact fun _ h => h) | (with_reducible exact fun _ h => List.mem_append_left _ h) | (with_reducible refine List.forall_mem_cons.mpr (And.intro ?_ ?_)) | (with_reducible refine List.forall_mem_append.mpr (And.intro ?_ ?_)) | (with_reducible refine sub_cons ?_) | (with_reducible refine sub_appR ?_) | k_mem))))); (case p1 => first | with_reducible assumption | (refine' RelN.mono ?r1 ?r2; (case r1 => with_reducible assumption); (case r2 => (repeat' (first | (with_reducible exact fun _ h => h) | (with_reducible exact fun _ h => List.mem_append_left _ h) | (with_reducible refine List.forall_mem_cons.mpr (And.intro ?_ ?_)) | (with_reducible refine List.forall_mem_append.mpr (And.intro ?_ ?_)) | (with_reducible refine sub_cons ?_) | (with_reducible refine sub_appR ?_) | k_mem))))); (case p2 => assumption); (case p3 => assumption); (case p4 => assumption); (case p5 => assumption); (case kd => first | exact room hdp (by decide) | ((try simp only [depth_under_make, depth_under_kw, depth_in1, depth_deeper, depth_caller]); (try dsimp only [ktrTop]); omega) | ktr_room); (case ku => first | exact room hun (by decide) | ((try simp only [units_in1, units_deeper, Around.mark_units, units_caller]); (try dsimp only [ktrTop]); omega) | ktr_units)); intro r9 tl9 h9 tk9 R9 F9 N9 l9; (try dsimp only); (try k_fold)) ); (try k_steps))
  all_goals (refine' ret_P (Q := Q) hret ?eE ?em ?e1 ?e2 ?eF ?eN; (case eF => k_asm); (case eN => assumption); (case eE => (repeat' (first | (with_reducible exact Ext'.refl _) | (with_reducible refine' Ext'.app (by assumption) ?_) | (with_reducible refine' Ext'.cons ?_ ?_) | exact allLt_id (by assumption) | exact allLt_of (by assumption)))); (case em => k_mem); (case e1 => first | with_reducible assumption | (refine' RelN.mono ?r1 ?r2; (case r1 => with_reducible assumption); (case r2 => (repeat' (first | (with_reducible exact fun _ h => h) | (with_reducible exact fun _ h => List.mem_append_left _ h) | (with_reducible refine List.forall_mem_cons.mpr (And.intro ?_ ?_)) | (with_reducible refine List.forall_mem_append.mpr (And.intro ?_ ?_)) | (with_reducible refine sub_cons ?_) | (with_reducible refine sub_appR ?_) | k_mem))))); (case e2 => first | with_reducible assumption | (refine' RelN.mono ?r1 ?r2; (case r1 => with_reducible assumption); (case r2 => (repeat' (first | (with_reducible exact fun _ h => h) | (with_reducible exact fun _ h => List.mem_append_left _ h) | (with_reducible refine List.forall_mem_cons.mpr (And.intro ?_ ?_)) | (with_reducible refine List.forall_mem_append.mpr (And.intro ?_ ?_)) | (with_reducible refine sub_cons ?_) | (with_reducible refine sub_appR ?_) | k_mem))))))
/-! facts for _law_number -/
theorem num_c {k m : Int} (h0 : 0 ≤ k) (h1 : k < 2) (m0 : 0 ≤ m) (m1 : m ≤ 100000) : -100000 ≤ (1 - 2 * k) * m ∧ (1 - 2 * k) * m ≤ 100000 := by
  have : k = 0 ∨ k = 1 := by omega
  rcases this with rfl | rfl <;> omega
structure NumOk (d c e : Int) : Prop where
  inr : InR c
  sm : Sm (c * 10 ^ (e + 2).toNat)
  ok : Okk d 13 (.dec (R d.toNat (c * 10 ^ (e + 2).toNat)))
theorem exp13 {e : Int} (he : -2 ≤ e ∧ e ≤ 6) : 5 + (e + 2).toNat ≤ 13 := by omega
theorem abs_c {c : Int} (hc : -100000 ≤ c ∧ c ≤ 100000) : c.natAbs ≤ 10 ^ 5 := by omega
theorem inr_c {c : Int} (hc : -100000 ≤ c ∧ c ≤ 100000) : InR c := ⟨Int.lt_of_lt_of_le (by decide) hc.1, Int.lt_of_le_of_lt hc.2 (by decide)⟩
theorem T_num_ok {d c e : Int} (hd : 1 ≤ d ∧ d ≤ 5) (hc : -100000 ≤ c ∧ c ≤ 100000) (he : -2 ≤ e ∧ e ≤ 6) : NumOk d c e := by
  have h1 : (c * 10 ^ (e + 2).toNat).natAbs ≤ 10 ^ 13 := abs_le (abs_c hc) (exp13 he)
  exact ⟨inr_c hc, Nat.le_trans h1 (by decide), ⟨R_of_rep (toNat1 hd) (R_rep _ _), R_bound (toNat1 hd) h1, fun _ h => nomatch h⟩⟩
theorem num_ok {d c e : Int} (hd : 1 ≤ d ∧ d ≤ 5) (hc : -100000 ≤ c ∧ c ≤ 100000) (he : -2 ≤ e ∧ e ≤ 6) : NumOk d c e := T_num_ok hd hc he
theorem pow_d {d : Int} (hd : 1 ≤ d ∧ d ≤ 5) : 0 < (10 : Int) ^ d.toNat ∧ (10 : Int) ^ d.toNat ≤ 100000 := ⟨pow10_pos _, by have : (10 : Int) ^ d.toNat ≤ 10 ^ 5 := pow10_le (by omega); omega⟩
theorem num_ok0 {d k m e : Int} (hd : 1 ≤ d ∧ d ≤ 5) (h0 : 0 ≤ k) (h1 : k < 2) (m0 : 0 ≤ m) (m1 : m < 10 ^ d.toNat) (he : -2 ≤ e ∧ e ≤ 6) : NumOk d ((1 - 2 * k) * m) e :=
  num_ok hd (num_c h0 h1 m0 (by have := (pow_d hd).2; omega)) he
theorem num_ok2 {d k m e : Int} (hd : 1 ≤ d ∧ d ≤ 5) (h0 : 0 ≤ k) (h1 : k < 2) (m0 : 0 ≤ m) (he : -2 ≤ e ∧ e ≤ 6) : NumOk d ((1 - 2 * k) * (if 10 ^ d.toNat - 1 - m > 0 then 10 ^ d.toNat - 1 - m else 0)) e := by
  refine num_ok hd (num_c h0 h1 (by split <;> omega) (by have := (pow_d hd).2; split <;> omega)) he
theorem num_ok3 {d k j e : Int} (hd : 1 ≤ d ∧ d ≤ 5) (h0 : 0 ≤ k) (h1 : k < 2) (j0 : 0 ≤ j) (j1 : j < d) (he : -2 ≤ e ∧ e ≤ 6) : NumOk d ((1 - 2 * k) * 10 ^ j.toNat) e := by
  refine num_ok hd (num_c h0 h1 (Int.le_of_lt (pow10_pos _)) ?_) he
  have : (10 : Int) ^ j.toNat ≤ 10 ^ 5 := pow10_le (by omega)
  omega
theorem num_inr0 {d k m : Int} (hd : 1 ≤ d ∧ d ≤ 5) (h0 : 0 ≤ k) (h1 : k < 2) (m0 : 0 ≤ m) (m1 : m < 10 ^ d.toNat) : InR ((1 - 2 * k) * m) := (num_ok0 (e := 0) hd h0 h1 m0 m1 (by omega)).inr
theorem num_inr2 {d k m : Int} (hd : 1 ≤ d ∧ d ≤ 5) (h0 : 0 ≤ k) (h1 : k < 2) (m0 : 0 ≤ m) : InR ((1 - 2 * k) * (if 10 ^ d.toNat - 1 - m > 0 then 10 ^ d.toNat - 1 - m else 0)) := (num_ok2 (e := 0) hd h0 h1 m0 (by omega)).inr
theorem num_inr3 {d k j : Int} (hd : 1 ≤ d ∧ d ≤ 5) (h0 : 0 ≤ k) (h1 : k < 2) (j0 : 0 ≤ j) (j1 : j < d) : InR ((1 - 2 * k) * 10 ^ j.toNat) := (num_ok3 (e := 0) hd h0 h1 j0 j1 (by omega)).inr
theorem sgn_cases {k : Int} (h0 : 0 ≤ k) (h1 : k < 2) : k = 0 ∨ k = 1 := by omega
theorem wh_b {k m : Int} (h0 : 0 ≤ k) (h1 : k < 2) (m0 : 0 ≤ m) (m1 : m < 128) : -128 ≤ (1 - 2 * k) * m ∧ (1 - 2 * k) * m ≤ 127 := by
  rcases sgn_cases h0 h1 with rfl | rfl <;> omega
theorem wh_c {n : Int} (h : -128 ≤ n ∧ n ≤ 127) : -300 ≤ n ∧ n ≤ 300 := ⟨Int.le_trans (by decide) h.1, Int.le_trans h.2 (by decide)⟩
theorem wh_s {n : Int} (h : -128 ≤ n ∧ n ≤ 127) : (n * 100).natAbs ≤ 10 ^ 13 := by omega
theorem T_num_whole {d k m : Int} (hd : 2 < d) (h0 : 0 ≤ k) (h1 : k < 2) (m0 : 0 ≤ m) (m1 : m < 128) : Okk d 13 (.whole ((1 - 2 * k) * m)) ∧ -128 ≤ (1 - 2 * k) * m ∧ (1 - 2 * k) * m ≤ 127 := by
  have hb := wh_b h0 h1 m0 m1
  refine ⟨⟨whole_rep hd (wh_c hb), wh_s hb, fun q hq => ?_⟩, hb⟩
  cases hq
  exact ⟨hd, hb⟩
theorem pow_mod {j : Nat} (hj : 0 < j) (c : Int) : c * 10 ^ j % 10 = 0 := by
  cases j with
  | zero => exact absurd hj (Nat.lt_irrefl 0)
  | succ i =>
    rw [Int.pow_succ, ← Int.mul_assoc]
    exact Int.mul_emod_left _ _
theorem uniq_lt {c c' : Int} {a b : Nat} (h : c * 10 ^ a = c' * 10 ^ b) (hb : c' % 10 ≠ 0) : b ≤ a → a = b ∧ c = c' := by
  intro hab
  obtain ⟨j, rfl⟩ : ∃ j, a = j + b := ⟨a - b, (Nat.sub_add_cancel hab).symm⟩
  rw [Int.pow_add, ← Int.mul_assoc] at h
  have h2 := Int.eq_of_mul_eq_mul_right (Int.ne_of_gt (pow10_pos b)) h
  rcases Nat.eq_zero_or_pos j with q | q
  · subst q
    rw [Int.pow_zero, Int.mul_one] at h2
    exact ⟨Nat.zero_add b, h2⟩
  · have := pow_mod q c
    rw [h2] at this
    exact (hb this).elim
theorem nat_inj {e e' : Int} (h : -2 ≤ e) (h' : -2 ≤ e') (q : (e + 2).toNat = (e' + 2).toNat) : e = e' := by omega
theorem mul_zero_of {a : Int} {k : Nat} (h : a * 10 ^ k = 0) : a = 0 := (Int.mul_eq_zero.mp h).elim id fun r => (Int.ne_of_gt (pow10_pos _) r).elim
theorem T_dec_unique {V c e c' e' : Int} (h : IsDec V c e) (h' : IsDec V c' e') : c = c' ∧ e = e' := by
  have hv : c * 10 ^ (e + 2).toNat = c' * 10 ^ (e' + 2).toNat := by rw [← h.val, ← h'.val]
  by_cases z : c = 0
  · have z' : c' = 0 := by
      rw [z, Int.zero_mul] at hv
      exact mul_zero_of hv.symm
    rw [h.zero z, h'.zero z', z, z']; exact ⟨rfl, rfl⟩
  · have z' : c' ≠ 0 := by
      intro q
      rw [q, Int.zero_mul] at hv
      exact z (mul_zero_of hv)
    rcases Nat.le_total (e' + 2).toNat (e + 2).toNat with q | q
    · obtain ⟨a, b⟩ := uniq_lt hv (h'.bare z') q
      exact ⟨b, nat_inj h.elo h'.elo a⟩
    · obtain ⟨a, b⟩ := uniq_lt hv.symm (h.bare z) q
      exact ⟨b.symm, nat_inj h.elo h'.elo a.symm⟩
theorem num_whole {d k m : Int} (hd : 2 < d) (h0 : 0 ≤ k) (h1 : k < 2) (m0 : 0 ≤ m) (m1 : m < 128) : Okk d 13 (.whole ((1 - 2 * k) * m)) ∧ -128 ≤ (1 - 2 * k) * m ∧ (1 - 2 * k) * m ≤ 127 := T_num_whole hd h0 h1 m0 m1
theorem dec_unique {V c e c' e' : Int} (h : IsDec V c e) (h' : IsDec V c' e') : c = c' ∧ e = e' := T_dec_unique h h'
theorem Okk.mono {d : Int} {k k' : Nat} {X : Num} (h : Okk d k X) (hk : k ≤ k') : Okk d k' X := ⟨h.fix, Nat.le_trans h.sm (Nat.pow_le_pow_right (by decide) hk), h.wh⟩
/-- Knuth's theorem, in tens, half to even -/
theorem parted_sum {d : Int} {k : Nat} {X Y : Num} (hX : Okk d k X) (hY : Okk d k Y) (hk : k ≤ 50) (hd : 1 ≤ d ∧ d ≤ 5) : (pS d X Y).val + (pE d X Y).val = X.val + Y.val := T_parted_sum hX hY hd
theorem parted_comm {d : Int} {k : Nat} {X Y : Num} (hX : Okk d k X) (hY : Okk d k Y) (hk : k ≤ 50) (hd : 1 ≤ d ∧ d ≤ 5) : pS d Y X = pS d X Y ∧ pE d Y X = pE d X Y := T_parted_comm hX hY hd
theorem parted_okk {d : Int} {k : Nat} {X Y : Num} (hX : Okk d k X) (hY : Okk d k Y) (hk : k ≤ 50) (hd : 1 ≤ d ∧ d ≤ 5) : Okk d (k + 1) (pS d X Y) ∧ Okk d (k + 10) (pE d X Y) := T_parted_okk hX hY hd
noncomputable def sumV : List Num → Int
  | [] => 0
  | x :: xs => x.val + sumV xs
theorem sumV_append (xs : List Num) (x : Num) : sumV (xs ++ [x]) = sumV xs + x.val := by
  induction xs with
  | nil => simp [sumV]
  | cons y ys ih => simp only [List.cons_append, sumV, ih]; omega
section
local macro_rules | `(tactic| k_all) => `(tactic| (with_reducible assumption))
local macro_rules | `(tactic| walk_at "call builtin:len") => `(tactic| (k_here; k_dflt (refine' kst_len ?N ?hm ?e ?hf ?_; (case N => k_asm); (case hm => k_mem); (case e => exact IntsAre.length (by with_reducible assumption)); (case hf => omega))))
abbrev jarO (S : Addr) (t0 : Int) (p : Int) (t : Tok) (c : Nat) : Obj := { cls := .type "list", data := .seq #[.ref S, .int p t] c }
abbrev RetK (J S : Addr) (p many : Int) (rest : List (Addr × Obj)) (h₀ : Heap) (L : Addr) (m : Str → Option Value) (s : Shared) (Q : Value → Shared → Prop) : Prop :=
  ∀ (k : Int) (t u : Tok) (c : Nat) (h' : Heap) (tk' : Nat), 0 ≤ k → k < many → Fr h₀ L h' m → News h₀ L h' ((J, jarO S 0 (p + 1) u c) :: rest) → Q (.int k t) { s with heap := h', toks := tk' }
theorem my_item {prog : Program} {w : World} {A : Around} {E : Value → Shared → Prop} {s : Shared} {h₀ : Heap} {L l : Addr} {news : List (Addr × Obj)} {value slice : PySem.Expr} {vs : List Value} {ns : List Int} {k : Int} {u : Tok} {c : Nat} {Q : Value → Shared → Prop}
    (N : News h₀ L s.heap news) (hm : (l, W.listOf vs.toArray c) ∈ news) (hI : IntsAre vs ns) (h0 : 0 ≤ k) (hk : k < ns.length) (hn : ns.length ≤ 1000) (h : ∀ i t, Q (.int i t) s)
    (hs : subscripted slice false (.ref l) (.int k u) = operate [.ref l, .int k u] (getItem (.ref l) (.int k u)) := by with_unfolding_all rfl) :
    wpAny (model prog w) A (subscriptTail value slice (.ref l) (.int k u)) Q E s := by
  have hl : s.heap.IsList l vs.toArray := ⟨_, (N _ hm).1, rfl, c, rfl⟩
  obtain ⟨i, hi⟩ : ∃ i, ns[k.toNat]? = some i := ⟨_, List.getElem?_eq_getElem (by omega)⟩
  obtain ⟨t, ht⟩ := hI.get _ _ hi
  exact tail_any hl.typeIs slot_list_getitem.lookup (wpAny_getItem_list hl h0 (by omega) (by simpa using ht) (h i t)) hs
theorem ret_K {J S : Addr} {p many : Int} {rest all : List (Addr × Obj)} {h₀ h' : Heap} {L : Addr} {m : Str → Option Value} {s : Shared} {Q : Value → Shared → Prop} {tk' c : Nat} {k : Int} {t u : Tok}
    (hret : RetK J S p many rest h₀ L m s Q) (h0 : 0 ≤ k) (h1 : k < many) (F : Fr h₀ L h' m) (N : News h₀ L h' all) (hm : (J, jarO S 0 (p + 1) u c) ∈ all) (hs : ∀ q ∈ rest, q ∈ all) : Q (.int k t) { s with heap := h', toks := tk' } :=
  hret k t u c h' tk' h0 h1 F (fun q hq => by
    rcases List.mem_cons.mp hq with rfl | hq
    · exact N _ hm
    · exact N q (hs q hq))
local macro_rules | `(tactic| walk_at "subscriptTail") => `(tactic| (k_here; (with_reducible show wpAny _ _ (subscriptTail _ _ (Value.ref _) (Value.int _ _)) _ _ _); k_dflt (refine' my_item ?N ?hm ?hI ?h0 ?hk ?hn ?_; (case N => k_asm); (case hm => k_mem); (case hI => first | with_reducible assumption | l_ints); (case h0 => omega); (case hk => first | omega | (simp only [List.length_cons, List.length_nil]; omega)); (case hn => first | omega | decide)); intro i9 t9))
set_option maxRecDepth 100000 in
set_option maxHeartbeats 8000000 in
theorem can_pick (w mean mg mb) (J S : Addr) (p many : Int) (vs : List Value) (ns : List Int) (cS : Nat) (rest : List (Addr × Obj)) (tp tm : Tok) (c : Nat) (hS : (S, listOf vs.toArray cS) ∈ rest) (hI : IntsAre vs ns) (hn : ns.length ≤ 20) (hp : 0 ≤ p ∧ p ≤ 100) (hmany : 0 < many) (hoff : ∀ q ∈ rest, q.1 ≠ J) :
    Can w mean mg mb 220 3 ((J, jarO S 0 p tp c) :: rest) [.ref J, .int many tm] (RetK J S p many rest) := by
  dsimp only [Can, RetK, prg, lo]
  k_fill
  k_with_none
  intro dp un gd cn cs a ccd cl outer A₀ base h₀ L m s Q E B F X N T hkk hdp hun hret
  refine wpAny_call ?_
  k_dflt cell_enter
  k_steps
  all_goals (refine' ret_K (Q := Q) hret ?e0 ?e1 ?eF ?eN ?em ?es; (case eF => k_asm); (case eN => assumption); (case em => k_mem); (case es => (repeat' (first | (with_reducible exact fun _ h => h) | (with_reducible exact fun _ h => List.mem_append_left _ h) | (with_reducible refine List.forall_mem_cons.mpr (And.intro ?_ ?_)) | (with_reducible refine List.forall_mem_append.mpr (And.intro ?_ ?_)) | (with_reducible refine sub_cons ?_) | (with_reducible refine sub_appR ?_) | k_mem))); (case e0 => exact Int.fmod_nonneg_of_pos _ hmany); (case e1 => exact Int.fmod_lt_of_pos _ hmany))
end
theorem news_drop2 {h₀ h : Heap} {L : Addr} {x y : Addr × Obj} {l : List (Addr × Obj)} (N : News h₀ L h (x :: y :: l)) : News h₀ L h (y :: l) := fun p hp => N p (.tail _ hp)
abbrev RetJ (d : Int) (J S : Addr) (p : Int) (rest : List (Addr × Obj)) (h₀ : Heap) (L : Addr) (m : Str → Option Value) (s : Shared) (Q : Value → Shared → Prop) : Prop :=
  ∀ (r : Value) (X : Num) (tl : List (Addr × Obj)) (p' : Int) (u : Tok) (c : Nat) (h' : Heap) (tk' : Nat), Okk d 13 X → RelN tl r X → Fr h₀ L h' m → News h₀ L h' ((J, jarO S 0 p' u c) :: (tl ++ rest)) → p ≤ p' ∧ p' ≤ p + 4 →
    (∀ x ∈ tl, J < x.1 ∧ ∀ q ∈ rest, q.1 < x.1) → Q r { s with heap := h', toks := tk' }
section
variable {d : Int} {J S : Addr} {p : Int} {rest all : List (Addr × Obj)} {h₀ h' : Heap} {L : Addr} {m : Str → Option Value} {s : Shared} {Q : Value → Shared → Prop} {tk' cj : Nat} {p' : Int} {uj : Tok}
theorem ret_JD {D : Addr} {c e V : Int} {t u : Tok} {k : Nat} (hret : RetJ d J S p rest h₀ L m s Q) (hX : Okk d 13 (.dec V)) (hI : IsDec V c e) (F : Fr h₀ L h' m) (N : News h₀ L h' all) (hm : (D, tupO c t e u k) ∈ all) (hj : (J, jarO S 0 p' uj cj) ∈ all)
    (hs : ∀ q ∈ rest, q ∈ all) (hp : p ≤ p' ∧ p' ≤ p + 4) (hJ : J < D) (hl : AllLt D rest) : Q (.ref D) { s with heap := h', toks := tk' } := by
  refine hret _ (.dec V) [(D, tupO c t e u k)] p' uj cj h' tk' hX (.dec (.head _) hI) F (fun q hq => ?_) hp (fun x hx => ?_)
  · rcases List.mem_cons.mp hq with rfl | hq
    · exact N _ hj
    · rcases List.mem_cons.mp hq with rfl | hq
      · exact N _ hm
      · exact N q (hs q hq)
  · rw [List.mem_singleton.mp hx]
    exact ⟨hJ, ktn_ltOf hl⟩
theorem ret_JV {n : Int} {t : Tok} (hret : RetJ d J S p rest h₀ L m s Q) (hX : Okk d 13 (.whole n) ∧ -128 ≤ n ∧ n ≤ 127) (F : Fr h₀ L h' m) (N : News h₀ L h' all) (hj : (J, jarO S 0 p' uj cj) ∈ all)
    (hs : ∀ q ∈ rest, q ∈ all) (hp : p ≤ p' ∧ p' ≤ p + 4) : Q (.int n t) { s with heap := h', toks := tk' } := by
  refine hret _ (.whole n) [] p' uj cj h' tk' hX.1 (.whole hX.2.1 hX.2.2) F (fun q hq => ?_) hp (fun x hx => nomatch hx)
  rcases List.mem_cons.mp hq with rfl | hq
  · exact N _ hj
  · exact N q (hs q hq)
end
set_option maxRecDepth 100000 in
set_option maxHeartbeats 8000000 in
theorem can_number (w mean mg mb) (J S : Addr) (p d : Int) (vs : List Value) (ns : List Int) (cS : Nat) (rest : List (Addr × Obj)) (tp td : Tok) (c : Nat) (hS : (S, W.listOf vs.toArray cS) ∈ rest) (hI : IntsAre vs ns) (hn : ns.length ≤ 20) (hp : 0 ≤ p ∧ p ≤ 90) (hd : 1 ≤ d ∧ d ≤ 5) (hoff : ∀ q ∈ rest, q.1 ≠ J) :
    Can w mean mg mb 227 8 ((J, jarO S 0 p tp c) :: rest) [.ref J, .int d td] (RetJ d J S p rest) := by
  dsimp only [Can, RetJ, prg, lo]
  k_fill
  k_with_none
  intro dp un gd cn cs a ccd cl outer A₀ base h₀ L m s Q E B F X N T hkk hdp hun hret
  have hq := pow_d hd
  refine wpAny_call ?_
  k_dflt cell_enter
  k_steps
  repeat' (unfold Paused; (first | ((with_reducible show wpAny _ _ (PySem.call (Value.ref 220) _) _ _ _); k_dflt (refine' can_pick _ _ _ _ _ _ _ _ _ _ _ _ _ _ _ ?p0 ?p1 ?p2 ?p3 ?p4 ?p5 _ _ _ _ _ _ _ _ _ _ _ _ _ _ _ _ _ ?k1 ?k2 ?k3 ?k4 ?k5 ?kK ?kd ?ku ?_; (case k1 => k_asm); (case k2 => k_asm); (case k3 => k_asm); (case k4 => first | k_asm | exact news_drop2 (by k_asm)); (case k5 => k_asm); (case kK => first | exact rfl | assumption); (case p0 => k_mem); (case p1 => assumption); (case p2 => omega); (case p3 => omega); (case p4 => omega); (case p5 => assumption); (case kd => first | exact room hdp (by decide) | ((try simp only [depth_under_make, depth_under_kw, depth_in1, depth_deeper, depth_caller]); (try dsimp only [ktrTop]); omega) | ktr_room); (case ku => first | exact room hun (by decide) | ((try simp only [units_in1, units_deeper, Around.mark_units, units_caller]); (try dsimp only [ktrTop]); omega) | ktr_units)); intro k9 t9 u9 c9 h9 tk9 g9 l9 F9 N9; (try dsimp only); (try k_fold)) | ((with_reducible show wpAny _ _ (PySem.call (Value.ref 58) _) _ _ _); k_dflt (refine' can_made _ _ _ _ _ _ _ _ _ _ _ ?p0 ?p1 ?p2 ?p3 _ _ _ _ _ _ _ _ _ _ _ _ _ _ _ _ _ ?k1 ?k2 ?k3 ?k4 ?k5 ?kK ?kd ?ku ?_; (case k1 => k_asm); (case k2 => k_asm); (case k3 => k_asm); (case k4 => k_asm); (case k5 => k_asm); (case kK => first | exact rfl | assumption); (case p0 => first | exact num_inr0 (by assumption) (by assumption) (by assumption) (by assumption) (by assumption) | exact num_inr2 (by assumption) (by assumption) (by assumption) (by assumption) | exact num_inr3 (by assumption) (by assumption) (by assumption) (by assumption) (by assumption)); (case p1 => first | assumption | omega); (case p2 => first | assumption | omega); (case p3 => first | exact NumOk.sm (num_ok0 (by assumption) (by assumption) (by assumption) (by assumption) (by assumption) (by omega)) | exact NumOk.sm (num_ok2 (by assumption) (by assumption) (by assumption) (by assumption) (by omega)) | exact NumOk.sm (num_ok3 (by assumption) (by assumption) (by assumption) (by assumption) (by assumption) (by omega))); (case kd => first | exact room hdp (by decide) | ((try simp only [depth_under_make, depth_under_kw, depth_in1, depth_deeper, depth_caller]); (try dsimp only [ktrTop]); omega) | ktr_room); (case ku => first | exact room hun (by decide) | ((try simp only [units_in1, units_deeper, Around.mark_units, units_caller]); (try dsimp only [ktrTop]); omega) | ktr_units)); intro D9 c9 e9 t9 u9 k9 h9 tk9 P9 F9 N9 l9; (obtain ⟨P91, P92, P93, P94, P95⟩ := P9); (try simp only [AllLt, and_true] at l9); (try dsimp only); (try k_fold)) ); (try k_steps))
  all_goals (first | (refine' ret_JV (Q := Q) hret ?eX ?eF ?eN ?ej ?es ?ep; (case eF => k_asm); (case eN => assumption); (case ej => k_mem); (case es => (repeat' (first | (with_reducible exact fun _ h => h) | (with_reducible exact fun _ h => List.mem_append_left _ h) | (with_reducible refine List.forall_mem_cons.mpr (And.intro ?_ ?_)) | (with_reducible refine List.forall_mem_append.mpr (And.intro ?_ ?_)) | (with_reducible refine sub_cons ?_) | (with_reducible refine sub_appR ?_) | k_mem))); (case ep => omega); (case eX => exact num_whole (by omega) (by assumption) (by assumption) (by assumption) (by assumption))) | (refine' ret_JD (Q := Q) hret ?eX ?eI ?eF ?eN ?em ?ej ?es ?ep ?eJ ?el; (case eF => k_asm); (case eN => assumption); (case em => k_mem); (case ej => k_mem); (case es => (repeat' (first | (with_reducible exact fun _ h => h) | (with_reducible exact fun _ h => List.mem_append_left _ h) | (with_reducible refine List.forall_mem_cons.mpr (And.intro ?_ ?_)) | (with_reducible refine List.forall_mem_append.mpr (And.intro ?_ ?_)) | (with_reducible refine sub_cons ?_) | (with_reducible refine sub_appR ?_) | k_mem))); (case ep => omega); (case eJ => first | exact And.left (by assumption) | (refine ltN ?_; omega)); (case el => first | assumption | exact allLt_of (by assumption) | tbn_find | kcu_lt); (case eI => assumption); (case eX => first | exact NumOk.ok (num_ok0 hd (by assumption) (by assumption) (by assumption) (by assumption) (by omega)) | exact NumOk.ok (num_ok2 hd (by assumption) (by assumption) (by assumption) (by omega)) | exact NumOk.ok (num_ok3 hd (by assumption) (by assumption) (by assumption) (by assumption) (by omega)))))
theorem my_itemL {prog : Program} {w : World} {A : Around} {E : Value → Shared → Prop} {s : Shared} {h₀ : Heap} {L l : Addr} {news : List (Addr × Obj)} {value slice : PySem.Expr} {vs : List Value} {k : Int} {u : Tok} {c : Nat} {v : Value} {Q : Value → Shared → Prop}
    (N : News h₀ L s.heap news) (hm : (l, W.listOf vs.toArray c) ∈ news) (h0 : 0 ≤ k) (hk : k < 2 ^ 63) (hx : vs[k.toNat]? = some v) (h : Q v s)
    (hs : subscripted slice false (.ref l) (.int k u) = operate [.ref l, .int k u] (getItem (.ref l) (.int k u)) := by with_unfolding_all rfl) :
    wpAny (model prog w) A (subscriptTail value slice (.ref l) (.int k u)) Q E s := by
  have hl : s.heap.IsList l vs.toArray := ⟨_, (N _ hm).1, rfl, c, rfl⟩
  exact tail_any hl.typeIs slot_list_getitem.lookup (wpAny_getItem_list hl h0 hk (by simpa using hx) h) hs
theorem kms_tail (v : Value) (vs : List Value) : kms_pick (v :: vs) (some 1) none = vs := by
  simp only [kms_pick, kms_lo, kms_hi, List.length_cons]
  have h1 : ¬ ((1 : Int) < 0) := by decide
  rw [if_neg h1]
  have : min (Int.toNat 1) (vs.length + 1) = 1 := by simp
  rw [this]
  simp
theorem upd_app {d : Addr} {o o' : Obj} {tl l l' : List (Addr × Obj)} (hl : ∀ p ∈ tl, ∀ q ∈ l, q.1 < p.1) (hm : (d, o) ∈ l) (U : Upd d o o' l l') : Upd d o o' (tl ++ l) (tl ++ l') := by
  induction tl with
  | nil => exact U
  | cons x xs ih => exact .tail (Nat.ne_of_gt (hl x (.head _) _ hm)) (ih fun p hp => hl p (.tail _ hp))
theorem ne_lt {D : Addr} {l : List (Addr × Obj)} {d : Addr} {o : Obj} (h : AllLt D l) (hm : (d, o) ∈ l) : D ≠ d := Nat.ne_of_gt (ktn_ltOf h _ hm)
inductive RelAll (news : List (Addr × Obj)) : List Value → List Num → Prop where
  | nil : RelAll news [] []
  | cons {v : Value} {x : Num} {vs : List Value} {xs : List Num} : RelN news v x → RelAll news vs xs → RelAll news (v :: vs) (x :: xs)
theorem RelAll.mono {news news' : List (Addr × Obj)} {vs : List Value} {xs : List Num} (h : RelAll news vs xs) (hs : ∀ p ∈ news, p ∈ news') : RelAll news' vs xs := by
  induction h with
  | nil => exact .nil
  | cons a _ ih => exact .cons (a.mono hs) ih
theorem RelAll.snoc {news : List (Addr × Obj)} {vs : List Value} {xs : List Num} {v : Value} {x : Num} (h : RelAll news vs xs) (hv : RelN news v x) : RelAll news (vs ++ [v]) (xs ++ [x]) := by
  induction h with
  | nil => exact .cons hv .nil
  | cons a _ ih => exact .cons a ih
theorem RelAll.get {news : List (Addr × Obj)} {vs : List Value} {xs : List Num} (h : RelAll news vs xs) : ∀ {i : Nat} {v : Value}, vs[i]? = some v → ∃ x ∈ xs, RelN news v x := by
  induction h with
  | nil => intro i v e; simp at e
  | cons a _ ih =>
    intro i v e
    cases i with
    | zero => simp at e; subst e; exact ⟨_, .head _, a⟩
    | succ i =>
      obtain ⟨x, hx, r⟩ := ih (by simpa using e)
      exact ⟨x, .tail _ hx, r⟩
theorem RelAll.length {news : List (Addr × Obj)} {vs : List Value} {xs : List Num} (h : RelAll news vs xs) : vs.length = xs.length := by
  induction h with
  | nil => rfl
  | cons _ _ ih => simp [ih]
section
variable {prog : Program} {w : World} {A : Around} {E : Value → Shared → Prop} {s : Shared} {h₀ h : Heap} {L : Addr} {all : List (Addr × Obj)}
theorem rel_reads (N : News h₀ L h all) {a b : Value} {x : Num} (ha : RelN all a x) (hb : RelN all b x) : ∃ p as bs, Reads h a p as ∧ Reads h b p bs ∧ PyData.eqv p p = true ∧ p.canLay0 = true ∧ p.depth ≤ 2 := by
  cases ha with
  | whole h1 h2 =>
    cases hb with
    | whole h3 h4 => exact ⟨.int _, _, _, Reads.int _ _, Reads.int _ _, by simp [PyData.eqv], by simp [PyData.canLay0], by simp [PyData.depth]⟩
  | dec hm hI =>
    cases hb with
    | dec hm' hI' =>
      obtain ⟨rfl, rfl⟩ := dec_unique hI hI'
      refine ⟨.tuple [.int _, .int _], _, _, reads_tuple_at (N.get hm) rfl rfl (ReadsAll.cons (Reads.int _ _) (ReadsAll.cons (Reads.int _ _) ReadsAll.nil)), reads_tuple_at (N.get hm') rfl rfl (ReadsAll.cons (Reads.int _ _) (ReadsAll.cons (Reads.int _ _) ReadsAll.nil)), ?_, ?_, ?_⟩
      · simp [PyData.eqv, PyData.eqvAll]
      · simp [PyData.canLay0, PyData.canLayAll0]
      · simp [PyData.depth, PyData.depthAll]
theorem my_ne {a b : Addr} {a1 a2 b1 b2 : Value} {ka kb : Nat} {x y x' y' : Num} {Q : Value → Shared → Prop} (N : News h₀ L s.heap all) (ha : (a, tup2 a1 a2 ka) ∈ all) (hb : (b, tup2 b1 b2 kb) ∈ all)
    (h1 : RelN all a1 x) (h2 : RelN all a2 y) (h3 : RelN all b1 x') (h4 : RelN all b2 y') (ex : x = x') (ey : y = y') (hu : A.units + 64 < cLine) (h : Q (.bool false) s) : wpAny (model prog w) A (compareOp .NotEq (.ref a) (.ref b)) Q E s := by
  subst ex ey
  obtain ⟨p, as, bs, r1, r2, e1, l1, d1⟩ := rel_reads N h1 h3
  obtain ⟨q, cs, ds, r3, r4, e2, l2, d2⟩ := rel_reads N h2 h4
  refine ne_dataH (reads_tuple_at (N.get ha) rfl rfl (ReadsAll.cons r1 (ReadsAll.cons r3 ReadsAll.nil))) (reads_tuple_at (N.get hb) rfl rfl (ReadsAll.cons r2 (ReadsAll.cons r4 ReadsAll.nil))) ?_ ?_ hu ?_
  · simp [SeqAt.shaped, PyData.canLay0, PyData.canLayAll0, PyData.depth, PyData.depthAll, l1, l2]; omega
  · simp [SeqAt.shaped, PyData.canLay0, PyData.canLayAll0, PyData.depth, PyData.depthAll, l1, l2]; omega
  · have e : PyData.eqv (.tuple [p, q]) (.tuple [p, q]) = true := by simp [PyData.eqv, PyData.eqvAll, e1, e2]
    rw [e]
    exact h
end
section
theorem news_led {h₀ h : Heap} {L : Addr} {x y z : Addr × Obj} {l : List (Addr × Obj)} (N : News h₀ L h (x :: y :: z :: l)) : News h₀ L h (z :: x :: l) := fun p hp => by
  rcases List.mem_cons.mp hp with rfl | hp
  · exact N _ (.tail _ (.tail _ (.head _)))
  · rcases List.mem_cons.mp hp with rfl | hp
    · exact N _ (.head _)
    · exact N p (.tail _ (.tail _ (.tail _ hp)))

theorem my_append {prog : Program} {w : World} {A : Around} {E : Value → Shared → Prop} {s : Shared} {h₀ : Heap} {L LL : Addr} {m : Str → Option Value} {news news' : List (Addr × Obj)} {es : List Value} {c : Nat} {x : Value} {Q : Value → Shared → Prop} (F : Fr h₀ L s.heap m) (N : News h₀ L s.heap news)
    (U : Upd LL (W.listOf es.toArray c) (W.listOf (es ++ [x]).toArray (c + 1)) news news') (hlen : es.length ≤ 100)
    (h : ∀ h', Fr h₀ L h' m → News h₀ L h' news' → Q .none { s with heap := h' }) : wpAny (model prog w) A (call (.builtin "list.append") [.ref LL, x]) Q E s :=
  append_K (its := es.toArray) (n := c) F N (by rw [← List.push_toArray] at U; exact U) h (by rw [List.size_toArray, sizeLine_eq]; omega)
theorem fr_led2 {h₀ h : Heap} {L : Addr} {m : Str → Option Value} {nowv lostv : Value} (F : Fr h₀ L h m) (h1 : m (Str.ofString "now") = some nowv) (h2 : m (Str.ofString "lost") = some lostv) :
    Fr h₀ L h (fun y => if y = Str.ofString "now" then some nowv else if y = Str.ofString "lost" then some lostv else m y) := by
  have e : m = (fun y => if y = Str.ofString "now" then some nowv else if y = Str.ofString "lost" then some lostv else m y) := by
    funext y
    by_cases q1 : y = Str.ofString "now"
    · rw [if_pos q1, q1, h1]
    · rw [if_neg q1]
      by_cases q2 : y = Str.ofString "lost"
      · rw [if_pos q2, q2, h2]
      · rw [if_neg q2]
  rw [← e]; exact F
theorem sum_f (Es : List Num) (x : Num) : ((Es ++ [x]).map fun X => X.val * 10 ^ 18).sum = (sumV Es + x.val) * 10 ^ 18 := by
  induction Es with
  | nil => simp [sumV]
  | cons y ys ih =>
    simp only [List.cons_append, List.map_cons, List.sum_cons, sumV] at ih ⊢
    rw [ih]; omega
def LedJ (d : Int) (td : Tok) (mx : Bool) (k : Nat) (keep : List (Addr × Obj)) (i : Nat) (m : Str → Option Value) (nx : List (Addr × Obj)) : Prop :=
  ∃ (LL : Addr) (es : List Value) (c : Nat) (nowv : Value) (due : Int) (td' : Tok) (X : Num) (Es : List Num) (rest : List (Addr × Obj)),
    nx = (LL, W.listOf es.toArray c) :: rest ∧ (∀ q ∈ rest, q.1 ≠ LL) ∧ (∀ q ∈ keep, q ∈ rest) ∧ m (Str.ofString "now") = some nowv ∧ m (Str.ofString "lost") = some (.ref LL) ∧ m (Str.ofString "due") = some (.int due td') ∧
    m (Str.ofString "digits") = some (.int d td) ∧ m (Str.ofString "is_mixed") = some (.bool mx) ∧ RelN rest nowv X ∧ Okk d (k + i) X ∧ (mx = false → X.isDec) ∧ RelAll rest es Es ∧ (∀ e ∈ Es, Okk d (k + 20) e) ∧ es.length = i ∧
    due = (X.val + sumV Es) * 10 ^ 18
theorem jtE {b k : Bool} {h₀ h : Heap} {L : Addr} {m : Str → Option Value} {tl news all : List (Addr × Obj)} {s : Shared} {tk : Nat} (e : k = b) (hE : Ext' tl news all) (F : Fr h₀ L h m) (N : News h₀ L h all) : JT b h₀ L m news s k { s with heap := h, toks := tk } := by
  obtain ⟨rfl, l⟩ := hE
  exact ⟨e, h, tk, tl, rfl, F, N, l⟩
theorem srcAt_of {h₀ : Heap} {ax : Addr} {its : Array Value} {news : List (Addr × Obj)} {c : Nat} (hm : (ax, W.listOf its c) ∈ news) : LCg.SrcAt h₀ ax its news := .inr ⟨_, hm, rfl, _, rfl⟩
theorem ints_snoc {ys : List Value} {ns : List Int} {n : Int} {t : Tok} (h : IntsAre ys ns) : IntsAre (ys ++ [.int n t]) (ns ++ [n]) := by
  induction h with
  | nil => exact .cons _ _ .nil
  | cons a b _ ih => exact .cons _ _ ih
theorem RelAll.getAt {news : List (Addr × Obj)} {vs : List Value} {xs : List Num} (h : RelAll news vs xs) : ∀ {i : Nat} {v : Value}, vs[i]? = some v → ∃ x, xs[i]? = some x ∧ RelN news v x := by
  induction h with
  | nil => intro i v e; simp at e
  | cons a _ ih =>
    intro i v e
    cases i with
    | zero => simp at e; subst e; exact ⟨_, rfl, a⟩
    | succ i =>
      obtain ⟨x, hx, r⟩ := ih (by simpa using e)
      exact ⟨x, by simpa using hx, r⟩
theorem rest_ints {prog : Program} {w : World} {A : Around} {h₀ : Heap} {L : Addr} {m : Str → Option Value} {env : Env} {elt : Expr} {x : Str} {scope : Scope} {cl : List (Str × Addr)} {s : Shared} {S : List (Addr × Obj) → Prop}
    {Fin : List Value → List (Addr × Obj) → Prop} (f : Num → Int) {its : List Value} {Es : List Num} {news : List (Addr × Obj)} (hR : RelAll news its Es) (hS : S news)
    (call : ∀ (v : Value) (X : Num) (ys : List Value) (I : Addr) (oI : Obj) (C : Addr) (oC : Obj) (D : Addr) (m₂ : Str → Option Value) (h : Heap) (tk : Nat) (E' : Value → Shared → Prop), RelN news v X → LCg.NsObj oC m₂ → m₂ x = some v → Fr h₀ L h m →
      News h₀ L h ((I, oI) :: (C, oC) :: (D, LCg.lst ys) :: news) → wpAny (model prog w) A (eval elt (compEnvC scope cl C env)) (fun y s' => ∃ t h' tk', y = .int (f X) t ∧ s' = { s with heap := h', toks := tk' } ∧ Fr h₀ L h' m ∧ News h₀ L h' ((I, oI) :: (C, oC) :: (D, LCg.lst ys) :: news)) E' { s with heap := h, toks := tk })
    (fin : ∀ ys, IntsAre ys (Es.map f) → Fin ys news) :
    LCg.CompRest prog w A h₀ L m env elt x scope cl s S (fun i v => its.toArray[i]? = some v) Fin its.toArray.size 0 [] news := by
  have hl := hR.length
  have main : ∀ (k i : Nat) (ys : List Value), i + k = its.length → IntsAre ys ((Es.take i).map f) → LCg.CompRest prog w A h₀ L m env elt x scope cl s S (fun i v => its.toArray[i]? = some v) Fin k i ys news := by
    intro k
    induction k with
    | zero =>
      intro i ys hi hy
      refine LCg.CompRest.zero (fin ys ?_)
      rwa [List.take_of_length_le (by omega)] at hy
    | succ k ih =>
      intro i ys hi hy
      refine LCg.CompRest.succ ?_
      intro v I oI C oC D m₂ h tk E' hv hC hx F N off ne
      obtain ⟨X, hX, hRX⟩ := hR.getAt (by simpa using hv)
      refine wpAny_mono (call v X ys I oI C oC D m₂ h tk E' hRX hC hx F N) (fun y s' hq => ?_) fun _ _ e => e
      obtain ⟨t, h', tk', rfl, rfl, F', N'⟩ := hq
      refine LCg.CompEnd.intro (s₁ := { s with heap := h, toks := tk }) F' N' news (fun p hp => hp) off hS (ih (i + 1) _ (by omega) ?_)
      have e : (Es.take (i + 1)).map f = (Es.take i).map f ++ [f X] := by rw [List.take_add_one, hX]; simp
      rw [e]
      exact ints_snoc hy
  have := main its.length 0 [] (by omega) (by simpa using IntsAre.nil)
  simpa using this
theorem fr_led {h₀ h : Heap} {L : Addr} {m : Str → Option Value} {v nowv lostv duev dv mv : Value} (F : Fr h₀ L h (fun y => if y = Str.ofString "number" then some v else m y)) (h1 : m (Str.ofString "now") = some nowv) (h2 : m (Str.ofString "lost") = some lostv)
    (h3 : m (Str.ofString "due") = some duev) (h4 : m (Str.ofString "digits") = some dv) (h5 : m (Str.ofString "is_mixed") = some mv) :
    Fr h₀ L h (fun y => if y = Str.ofString "number" then some v else if y = Str.ofString "now" then some nowv else if y = Str.ofString "lost" then some lostv else if y = Str.ofString "due" then some duev else if y = Str.ofString "digits" then some dv else if y = Str.ofString "is_mixed" then some mv else m y) := by
  have e : (fun y => if y = Str.ofString "number" then some v else m y) = (fun y => if y = Str.ofString "number" then some v else if y = Str.ofString "now" then some nowv else if y = Str.ofString "lost" then some lostv else if y = Str.ofString "due" then some duev else if y = Str.ofString "digits" then some dv else if y = Str.ofString "is_mixed" then some mv else m y) := by
    funext y
    by_cases q0 : y = Str.ofString "number"
    · simp only [if_pos q0]
    · simp only [if_neg q0]
      by_cases q1 : y = Str.ofString "now"
      · rw [if_pos q1, q1, h1]
      · rw [if_neg q1]
        by_cases q2 : y = Str.ofString "lost"
        · rw [if_pos q2, q2, h2]
        · rw [if_neg q2]
          by_cases q3 : y = Str.ofString "due"
          · rw [if_pos q3, q3, h3]
          · rw [if_neg q3]
            by_cases q4 : y = Str.ofString "digits"
            · rw [if_pos q4, q4, h4]
            · rw [if_neg q4]
              by_cases q5 : y = Str.ofString "is_mixed"
              · rw [if_pos q5, q5, h5]
              · rw [if_neg q5]
  rw [← e]; exact F
theorem led_end {d : Int} {td : Tok} {mx : Bool} {k i : Nat} {keep own rest tl all : List (Addr × Obj)} {h₀ h' : Heap} {L LL l : Addr} {m' : Str → Option Value} {s : Shared} {tk' c nn : Nat} {es vs : List Value} {r e : Value} {S Eo : Num} {Es : List Num} {o : Obj} {due : Int} {td' : Tok}
    (F : Fr h₀ L h' m') (N : News h₀ L h' all) (hRS : RelN tl r S) (hSE : RelN tl e Eo) (h9 : ∀ p ∈ tl, ∀ q ∈ (LL, o) :: (rest ++ own), q.1 < p.1) (hsub : ∀ q ∈ (LL, W.listOf (es ++ [e]).toArray (c + 1)) :: (tl ++ (rest ++ own)), q ∈ all)
    (hne : ∀ q ∈ rest, q.1 ≠ LL) (hkeep : ∀ q ∈ keep, q ∈ rest) (hoff : OwnOff own (((LL, o) :: rest).map (·.1))) (hl : (l, W.listOf vs.toArray nn) ∈ rest) (e1 : m' (Str.ofString "now") = some r) (e2 : m' (Str.ofString "lost") = some (.ref LL)) (e3 : m' (Str.ofString "due") = some (.int due td'))
    (e4 : m' (Str.ofString "digits") = some (.int d td)) (e5 : m' (Str.ofString "is_mixed") = some (.bool mx)) (hS : Okk d (k + (i + 1)) S) (hSd : mx = false → S.isDec) (hE : Okk d (k + 20) Eo) (hRE : RelAll rest es Es) (hEs : ∀ x ∈ Es, Okk d (k + 20) x) (hes : es.length = i)
    (hdue : due = (S.val + (sumV Es + Eo.val)) * 10 ^ 18) : InvEndG h₀ L (fun m' nx => (l, W.listOf vs.toArray nn) ∈ nx ∧ LedJ d td mx k keep (i + 1) m' nx) own s { s with heap := h', toks := tk' } := by
  refine InvEndG.intro (nx := (LL, W.listOf (es ++ [e]).toArray (c + 1)) :: (tl ++ rest)) F N ⟨?_, ?_⟩ ?_ ?_ ?_
  · exact List.mem_cons_of_mem _ (List.mem_append_right _ hl)
  · refine ⟨LL, es ++ [e], c + 1, r, due, td', S, Es ++ [Eo], tl ++ rest, rfl, ?_, fun q hq => List.mem_append_right _ (hkeep q hq), e1, e2, e3, e4, e5, hRS.mono fun q hq => List.mem_append_left _ hq, hS, hSd, ?_, ?_, by simp [hes], ?_⟩
    · intro q hq
      rcases List.mem_append.mp hq with hq | hq
      · exact Nat.ne_of_gt (h9 q hq _ (.head _))
      · exact hne q hq
    · exact RelAll.snoc (hRE.mono fun q hq => List.mem_append_right _ hq) (hSE.mono fun q hq => List.mem_append_left _ hq)
    · intro x hx
      rcases List.mem_append.mp hx with hx | hx
      · exact hEs x hx
      · rw [List.mem_singleton.mp hx]; exact hE
    · rw [sumV_append]; exact hdue
  · intro p hp b hb
    simp only [List.map_cons, List.map_append, List.mem_cons, List.mem_append] at hb
    rcases hb with rfl | hb | hb
    · exact hoff p hp _ (by simp)
    · obtain ⟨q, hq, rfl⟩ := List.mem_map.mp hb
      exact Nat.ne_of_lt (h9 q hq p (List.mem_cons_of_mem _ (List.mem_append_right _ hp)))
    · exact hoff p hp _ (by simp only [List.map_cons, List.mem_cons]; exact Or.inr hb)
  · intro p hp
    refine hsub p ?_
    rcases List.mem_cons.mp hp with rfl | hp
    · exact .head _
    · rcases List.mem_append.mp hp with hp | hp
      · exact List.mem_cons_of_mem _ (List.mem_append_left _ hp)
      · exact List.mem_cons_of_mem _ (List.mem_append_right _ (List.mem_append_left _ hp))
  · exact fun p hp => hsub p (List.mem_cons_of_mem _ (List.mem_append_right _ (List.mem_append_right _ hp)))
local macro_rules | `(tactic| walk_at "exec If BoolOp") => `(tactic| (refine pause ?_))
local macro_rules | `(tactic| walk_at "subscriptTail") => `(tactic| (k_here; (with_reducible show wpAny _ _ (subscriptTail _ _ (Value.ref _) (Value.int _ _)) _ _ _); k_dflt (refine' my_itemL ?N ?hm ?h0 ?hk ?hx ?_; (case N => k_asm); (case hm => k_mem); (case h0 => decide); (case hk => decide); (case hx => rfl))))
local macro_rules | `(tactic| walk_at "subscriptTail Name Slice ref ref") => `(tactic| (refine pause ?_))
local macro_rules | `(tactic| walk_at "exec For Name Subscript cons nil") => `(tactic| (k_here; (rename Fr _ _ _ _ => lF'); (with_unfolding_all refine' For_invVF lF' ?k1 ?k2 ?_; (case k1 => exact rfl); (case k2 => exact rfl); k_whole)))
local macro_rules | `(tactic| walk_at "pyIter ref") => `(tactic| (refine pause ?_))
local macro_rules | `(tactic| k_upd) => `(tactic| first | (with_reducible exact Upd.head (by assumption)) | (with_reducible refine' upd_app ?ua ?ub ?uc; (case ua => assumption); (case ub => k_mem); (case uc => k_upd)) | (with_reducible refine' Upd.tail (ne_lt ?ua ?ub) ?uc; (case ua => first | assumption | exact allLt_of (by assumption)); (case ub => k_mem); (case uc => k_upd)))
local macro_rules | `(tactic| walk_at "compareOp NotEq ref ref") => `(tactic| (refine pause ?_))
local macro_rules | `(tactic| walk_at "call builtin:list.append") => `(tactic| (refine pause ?_))
local macro_rules | `(tactic| walk_at "CompSrc") => `(tactic| (refine pause ?_))
local macro_rules | `(tactic| walk_at "Exists") => `(tactic| (refine' Exists.intro _ (Exists.intro _ (Exists.intro _ (And.intro rfl (And.intro rfl (And.intro ?ea ?eb))))); (case ea => k_asm); (case eb => k_asm)))
abbrev RetL (news : List (Addr × Obj)) (d : Int) (k n : Nat) (h₀ : Heap) (L : Addr) (m : Str → Option Value) (s : Shared) (Q : Value → Shared → Prop) : Prop :=
  ∀ (D : Addr) (rs : List Value) (Zs : List Num) (c : Nat) (all : List (Addr × Obj)) (h' : Heap) (tk' : Nat), (D, W.listOf rs.toArray c) ∈ all → RelAll all rs Zs → (∀ z ∈ Zs, Okk d (k + 20) z) → rs.length = n → Fr h₀ L h' m → News h₀ L h' all → (∀ p ∈ news, p ∈ all) → Q (.ref D) { s with heap := h', toks := tk' }
set_option maxRecDepth 100000 in
set_option maxHeartbeats 8000000 in
theorem can_led (w mean mg mb news) (NL : Addr) (v0 : Value) (vs : List Value) (X0 : Num) (Ys : List Num) (d : Int) (td : Tok) (mx : Bool) (cN k : Nat) (hm : (NL, W.listOf (v0 :: vs).toArray cN) ∈ news) (hR0 : RelN news v0 X0) (hRs : RelAll news vs Ys) (hX0 : Okk d k X0) (hYs : ∀ y ∈ Ys, Okk d k y) (hlen : vs.length ≤ 3) (hk : k ≤ 40) (hd : 1 ≤ d ∧ d ≤ 5)
    (hmx0 : mx = false → X0.isDec) (hmxs : mx = false → ∀ y ∈ Ys, y.isDec) :
    Can w mean mg mb 260 22 news [.ref NL, .int d td, .bool mx] (RetL news d k (vs.length + 1)) := by
  dsimp only [Can, RetL, prg, lo]
  k_fill
  k_with_none
  intro dp un gd cn cs a ccd cl outer A₀ base h₀ L m s Q E B F X N T hkk hdp hun hret
  refine wpAny_call ?_
  k_dflt cell_enter
  k_steps
  repeat' (unfold Paused; (first | (k_here; (with_reducible show wpAny _ _ (subscriptTail _ (PySem.Expr.Slice _ _ none _) (Value.ref _) (Value.ref _)) _ _ _); k_dflt (refine' kms_slice_lit ?z9F ?z9N ?z9l ?z9p ?z9q ?z9e ?_ ?z9s ?z9t ?z9z; (case z9F => k_asm); (case z9N => k_asm); (case z9l => exact News.isList (by k_asm) (by k_mem)); (case z9p => kmk_part); (case z9q => kmk_part); (case z9e => exact kms_tail _ _); (case z9s => with_unfolding_all rfl); (case z9t => kmk_pure); (case z9z => simp only [List.size_toArray, List.length_cons, sizeLine_eq]; omega)); intro slA hA F1 N1 hlD) | ((with_reducible show wpAny _ _ (compareOp PySem.CmpOp.NotEq _ _) _ _ _); (k_here; k_dflt (refine' my_ne ?z9N ?z9ha ?z9hb ?z9h1 ?z9h2 ?z9h3 ?z9h4 ?z9ex ?z9ey ?z9hu ?_; (case z9N => k_asm); (case z9ha => k_mem); (case z9hb => k_mem); (case z9h1 => first | with_reducible assumption | (refine' RelN.mono ?r1 ?r2; (case r1 => with_reducible assumption); (case r2 => (repeat' (first | (with_reducible exact fun _ h => h) | (with_reducible exact fun _ h => List.mem_append_left _ h) | (with_reducible refine List.forall_mem_cons.mpr (And.intro ?_ ?_)) | (with_reducible refine List.forall_mem_append.mpr (And.intro ?_ ?_)) | (with_reducible refine sub_cons ?_) | (with_reducible refine sub_appR ?_) | k_mem))))); (case z9h2 => first | with_reducible assumption | (refine' RelN.mono ?r1 ?r2; (case r1 => with_reducible assumption); (case r2 => (repeat' (first | (with_reducible exact fun _ h => h) | (with_reducible exact fun _ h => List.mem_append_left _ h) | (with_reducible refine List.forall_mem_cons.mpr (And.intro ?_ ?_)) | (with_reducible refine List.forall_mem_append.mpr (And.intro ?_ ?_)) | (with_reducible refine sub_cons ?_) | (with_reducible refine sub_appR ?_) | k_mem))))); (case z9h3 => first | with_reducible assumption | (refine' RelN.mono ?r1 ?r2; (case r1 => with_reducible assumption); (case r2 => (repeat' (first | (with_reducible exact fun _ h => h) | (with_reducible exact fun _ h => List.mem_append_left _ h) | (with_reducible refine List.forall_mem_cons.mpr (And.intro ?_ ?_)) | (with_reducible refine List.forall_mem_append.mpr (And.intro ?_ ?_)) | (with_reducible refine sub_cons ?_) | (with_reducible refine sub_appR ?_) | k_mem))))); (case z9h4 => first | with_reducible assumption | (refine' RelN.mono ?r1 ?r2; (case r1 => with_reducible assumption); (case r2 => (repeat' (first | (with_reducible exact fun _ h => h) | (with_reducible exact fun _ h => List.mem_append_left _ h) | (with_reducible refine List.forall_mem_cons.mpr (And.intro ?_ ?_)) | (with_reducible refine List.forall_mem_append.mpr (And.intro ?_ ?_)) | (with_reducible refine sub_cons ?_) | (with_reducible refine sub_appR ?_) | k_mem))))); (case z9ex => assumption); (case z9ey => assumption); (case z9hu => first | ((try simp only [units_in1, units_deeper, Around.mark_units, units_caller]); (try dsimp only [ktrTop]); omega) | ke_room)))) | ((with_reducible show wpAny _ _ (PySem.call (Value.builtin _) _) _ _ _); (k_here; k_dflt (refine' my_append ?z9k1 ?z9k2 ?z9k3 ?z9z ?_; (case z9k1 => k_asm); (case z9k2 => k_asm); (case z9k3 => k_upd); (case z9z => omega)); intro h' F' N')) | ((with_reducible show wpAny _ _ (PySem.call (Value.ref 255) _) _ _ _); k_dflt (refine' can_parted _ _ _ _ _ _ _ _ _ _ _ _ _ ?p0 ?p1 ?p2 ?p3 ?p4 ?p5 ?p6 _ _ _ _ _ _ _ _ _ _ _ _ _ _ _ _ _ ?k1 ?k2 ?k3 ?k4 ?k5 ?kK ?kd ?ku ?_; (case k1 => k_asm); (case k2 => k_asm); (case k3 => k_asm); (case k4 => k_asm); (case k5 => k_asm); (case kK => first | exact rfl | assumption); (case p0 => first | with_reducible assumption | (refine' RelN.mono ?r1 ?r2; (case r1 => with_reducible assumption); (case r2 => (repeat' (first | (with_reducible exact fun _ h => h) | (with_reducible exact fun _ h => List.mem_append_left _ h) | (with_reducible refine List.forall_mem_cons.mpr (And.intro ?_ ?_)) | (with_reducible refine List.forall_mem_append.mpr (And.intro ?_ ?_)) | (with_reducible refine sub_cons ?_) | (with_reducible refine sub_appR ?_) | k_mem))))); (case p1 => first | with_reducible assumption | (refine' RelN.mono ?r1 ?r2; (case r1 => with_reducible assumption); (case r2 => (repeat' (first | (with_reducible exact fun _ h => h) | (with_reducible exact fun _ h => List.mem_append_left _ h) | (with_reducible refine List.forall_mem_cons.mpr (And.intro ?_ ?_)) | (with_reducible refine List.forall_mem_append.mpr (And.intro ?_ ?_)) | (with_reducible refine sub_cons ?_) | (with_reducible refine sub_appR ?_) | k_mem))))); (case p2 => assumption); (case p3 => assumption); (case p4 => assumption); (case p5 => assumption); (case p6 => assumption); (case kd => first | exact room hdp (by decide) | ((try simp only [depth_under_make, depth_under_kw, depth_in1, depth_deeper, depth_caller]); (try dsimp only [ktrTop]); omega) | ktr_room); (case ku => first | exact room hun (by decide) | ((try simp only [units_in1, units_deeper, Around.mark_units, units_caller]); (try dsimp only [ktrTop]); omega) | ktr_units)); intro D9 r9 s9 k9 tl9 h9 tk9 m9 R9 S9 F9 N9 l9; (try dsimp only); (try k_fold)) | ((with_reducible show wpAny _ _ (PySem.call (Value.ref 234) _) _ _ _); k_dflt (refine' can_exact _ _ _ _ _ _ _ ?p0 _ _ _ _ _ _ _ _ _ _ _ _ _ _ _ _ _ ?k1 ?k2 ?k3 ?k4 ?k5 ?kK ?kd ?ku ?_; (case k1 => k_asm); (case k2 => k_asm); (case k3 => k_asm); (case k4 => k_asm); (case k5 => k_asm); (case kK => first | exact rfl | assumption); (case p0 => first | with_reducible assumption | (refine' RelN.mono ?r1 ?r2; (case r1 => with_reducible assumption); (case r2 => (repeat' (first | (with_reducible exact fun _ h => h) | (with_reducible exact fun _ h => List.mem_append_left _ h) | (with_reducible refine List.forall_mem_cons.mpr (And.intro ?_ ?_)) | (with_reducible refine List.forall_mem_append.mpr (And.intro ?_ ?_)) | (with_reducible refine sub_cons ?_) | (with_reducible refine sub_appR ?_) | k_mem))))); (case kd => first | exact room hdp (by decide) | ((try simp only [depth_under_make, depth_under_kw, depth_in1, depth_deeper, depth_caller]); (try dsimp only [ktrTop]); omega) | ktr_room); (case ku => first | exact room hun (by decide) | ((try simp only [units_in1, units_deeper, Around.mark_units, units_caller]); (try dsimp only [ktrTop]); omega) | ktr_units)); intro t9 h9 tk9 F9 N9; (try dsimp only); (try k_fold)) | (k_here; k_dflt (refine' LCg.CompSrc.ledger ?z9hh ?z9F ?z9N ?z9hm ?z9hsz (fun g => rest_ints (fun X => X.val * 10 ^ 18) ?z9RA (srcAt_of ?z9hm2) ?_ ?_); (case z9hh => rfl); (case z9F => k_asm); (case z9N => k_asm); (case z9hm => k_mem); (case z9hm2 => k_mem); (case z9RA => exact RelAll.snoc (RelAll.mono (by assumption) (by (repeat' (first | (with_reducible exact fun _ h => h) | (with_reducible exact fun _ h => List.mem_append_left _ h) | (with_reducible refine List.forall_mem_cons.mpr (And.intro ?_ ?_)) | (with_reducible refine List.forall_mem_append.mpr (And.intro ?_ ?_)) | (with_reducible refine sub_cons ?_) | (with_reducible refine sub_appR ?_) | k_mem)))) (by first | with_reducible assumption | (refine' RelN.mono ?r1 ?r2; (case r1 => with_reducible assumption); (case r2 => (repeat' (first | (with_reducible exact fun _ h => h) | (with_reducible exact fun _ h => List.mem_append_left _ h) | (with_reducible refine List.forall_mem_cons.mpr (And.intro ?_ ?_)) | (with_reducible refine List.forall_mem_append.mpr (And.intro ?_ ?_)) | (with_reducible refine sub_cons ?_) | (with_reducible refine sub_appR ?_) | k_mem)))))); (case z9hsz => simp only [List.size_toArray, List.length_append, List.length_cons, List.length_nil, sizeLine_eq]; omega)); all_goals intros) ); (try k_steps))
  unfold Paused
  refine kdl_iter (vs := vs) (nn := 0) (LedJ d td mx k ((slA, W.listOf vs.toArray 0) :: news)) rfl ?_ F1 (news_led N1) ?_ ?_ ?_
  · exact List.Mem.tail _ (List.Mem.head _)
  · refine ⟨_, [], 0, v0, _, _, X0, [], _, rfl, ?_, fun q hq => hq, rfl, rfl, rfl, rfl, rfl, hR0.mono fun q hq => List.mem_cons_of_mem _ hq, hX0, hmx0, .nil, fun e he => (nomatch he), rfl, ?_⟩
    · intro q hq
      rcases List.mem_cons.mp hq with rfl | hq
      · exact Nat.ne_of_gt (hlD (_, _) (List.mem_cons_of_mem _ List.mem_cons_self))
      · exact Nat.ne_of_lt ((by assumption : ∀ p ∈ news, p.1 < _) q hq)
    · simp [sumV]
  · intro i v m₁ nx h tk own hv hoff hl hJ F2 N2
    obtain ⟨LL, es, c, nowv, due, td', X, Es, rest, rfl, hne, hkeep, e1, e2, e3, e4, e5, hRX, hX, hXd, hRE, hE, hes, hdue⟩ := hJ
    have F3 := fr_led F2 e1 e2 e3 e4 e5
    clear F2
    obtain ⟨Y, hYm, hRY0⟩ := hRs.get hv
    have hRY := hRY0.mono fun q hq => hkeep q (List.mem_cons_of_mem _ hq)
    have hY := (hYs Y hYm).mono (Nat.le_add_right k i)
    have hi : i < vs.length := (List.getElem?_eq_some_iff.mp hv).1
    have hki : k + i ≤ 50 := by omega
    have N3 : News _ _ _ ((LL, W.listOf es.toArray c) :: (rest ++ own)) := N2
    clear N2
    have hne' : ∀ q ∈ rest ++ own, q.1 ≠ LL := fun q hq => (List.mem_append.mp hq).elim (hne q) fun hq => hoff q hq LL (by simp)
    obtain ⟨c1, c2⟩ := parted_comm hX hY hki hd
    have c1' := c1.symm
    have hes9 : es.length ≤ 3 := by omega
    have hmx1 : mx = false → X.isDec ∧ Y.isDec := fun q => ⟨hXd q, hmxs q Y hYm⟩
    have hmx2 : mx = false → Y.isDec ∧ X.isDec := fun q => ⟨hmxs q Y hYm, hXd q⟩
    have hps := parted_sum hX hY hki hd
    have hsum : (((Es ++ [pE d X Y]).map fun X => X.val * 10 ^ 18).sum) = (sumV Es + (pE d X Y).val) * 10 ^ 18 := sum_f Es _
    have hes8 : es.length ≤ 3 := by omega
    obtain ⟨hq1, hq2⟩ := parted_okk hX hY hki hd
    have hqS : Okk d (k + (i + 1)) (pS d X Y) := hq1
    have hqE : Okk d (k + 20) (pE d X Y) := hq2.mono (by omega)
    have hqD : mx = false → (pS d X Y).isDec := fun q => isDec_plus (hXd q)
    have hl9 : (slA, W.listOf vs.toArray 0) ∈ rest := hkeep _ (.head _)
    k_steps
    repeat' (unfold Paused; (first | (k_here; (with_reducible show wpAny _ _ (subscriptTail _ (PySem.Expr.Slice _ _ none _) (Value.ref _) (Value.ref _)) _ _ _); k_dflt (refine' kms_slice_lit ?z9F ?z9N ?z9l ?z9p ?z9q ?z9e ?_ ?z9s ?z9t ?z9z; (case z9F => k_asm); (case z9N => k_asm); (case z9l => exact News.isList (by k_asm) (by k_mem)); (case z9p => kmk_part); (case z9q => kmk_part); (case z9e => exact kms_tail _ _); (case z9s => with_unfolding_all rfl); (case z9t => kmk_pure); (case z9z => simp only [List.size_toArray, List.length_cons, sizeLine_eq]; omega)); intro slA hA F1 N1 hlD) | ((with_reducible show wpAny _ _ (compareOp PySem.CmpOp.NotEq _ _) _ _ _); (k_here; k_dflt (refine' my_ne ?z9N ?z9ha ?z9hb ?z9h1 ?z9h2 ?z9h3 ?z9h4 ?z9ex ?z9ey ?z9hu ?_; (case z9N => k_asm); (case z9ha => k_mem); (case z9hb => k_mem); (case z9h1 => first | with_reducible assumption | (refine' RelN.mono ?r1 ?r2; (case r1 => with_reducible assumption); (case r2 => (repeat' (first | (with_reducible exact fun _ h => h) | (with_reducible exact fun _ h => List.mem_append_left _ h) | (with_reducible refine List.forall_mem_cons.mpr (And.intro ?_ ?_)) | (with_reducible refine List.forall_mem_append.mpr (And.intro ?_ ?_)) | (with_reducible refine sub_cons ?_) | (with_reducible refine sub_appR ?_) | k_mem))))); (case z9h2 => first | with_reducible assumption | (refine' RelN.mono ?r1 ?r2; (case r1 => with_reducible assumption); (case r2 => (repeat' (first | (with_reducible exact fun _ h => h) | (with_reducible exact fun _ h => List.mem_append_left _ h) | (with_reducible refine List.forall_mem_cons.mpr (And.intro ?_ ?_)) | (with_reducible refine List.forall_mem_append.mpr (And.intro ?_ ?_)) | (with_reducible refine sub_cons ?_) | (with_reducible refine sub_appR ?_) | k_mem))))); (case z9h3 => first | with_reducible assumption | (refine' RelN.mono ?r1 ?r2; (case r1 => with_reducible assumption); (case r2 => (repeat' (first | (with_reducible exact fun _ h => h) | (with_reducible exact fun _ h => List.mem_append_left _ h) | (with_reducible refine List.forall_mem_cons.mpr (And.intro ?_ ?_)) | (with_reducible refine List.forall_mem_append.mpr (And.intro ?_ ?_)) | (with_reducible refine sub_cons ?_) | (with_reducible refine sub_appR ?_) | k_mem))))); (case z9h4 => first | with_reducible assumption | (refine' RelN.mono ?r1 ?r2; (case r1 => with_reducible assumption); (case r2 => (repeat' (first | (with_reducible exact fun _ h => h) | (with_reducible exact fun _ h => List.mem_append_left _ h) | (with_reducible refine List.forall_mem_cons.mpr (And.intro ?_ ?_)) | (with_reducible refine List.forall_mem_append.mpr (And.intro ?_ ?_)) | (with_reducible refine sub_cons ?_) | (with_reducible refine sub_appR ?_) | k_mem))))); (case z9ex => assumption); (case z9ey => assumption); (case z9hu => first | ((try simp only [units_in1, units_deeper, Around.mark_units, units_caller]); (try dsimp only [ktrTop]); omega) | ke_room)))) | ((with_reducible show wpAny _ _ (PySem.call (Value.builtin _) _) _ _ _); (k_here; k_dflt (refine' my_append ?z9k1 ?z9k2 ?z9k3 ?z9z ?_; (case z9k1 => k_asm); (case z9k2 => k_asm); (case z9k3 => k_upd); (case z9z => omega)); intro h' F' N')) | ((with_reducible show wpAny _ _ (PySem.call (Value.ref 255) _) _ _ _); k_dflt (refine' can_parted _ _ _ _ _ _ _ _ _ _ _ _ _ ?p0 ?p1 ?p2 ?p3 ?p4 ?p5 ?p6 _ _ _ _ _ _ _ _ _ _ _ _ _ _ _ _ _ ?k1 ?k2 ?k3 ?k4 ?k5 ?kK ?kd ?ku ?_; (case k1 => k_asm); (case k2 => k_asm); (case k3 => k_asm); (case k4 => k_asm); (case k5 => k_asm); (case kK => first | exact rfl | assumption); (case p0 => first | with_reducible assumption | (refine' RelN.mono ?r1 ?r2; (case r1 => with_reducible assumption); (case r2 => (repeat' (first | (with_reducible exact fun _ h => h) | (with_reducible exact fun _ h => List.mem_append_left _ h) | (with_reducible refine List.forall_mem_cons.mpr (And.intro ?_ ?_)) | (with_reducible refine List.forall_mem_append.mpr (And.intro ?_ ?_)) | (with_reducible refine sub_cons ?_) | (with_reducible refine sub_appR ?_) | k_mem))))); (case p1 => first | with_reducible assumption | (refine' RelN.mono ?r1 ?r2; (case r1 => with_reducible assumption); (case r2 => (repeat' (first | (with_reducible exact fun _ h => h) | (with_reducible exact fun _ h => List.mem_append_left _ h) | (with_reducible refine List.forall_mem_cons.mpr (And.intro ?_ ?_)) | (with_reducible refine List.forall_mem_append.mpr (And.intro ?_ ?_)) | (with_reducible refine sub_cons ?_) | (with_reducible refine sub_appR ?_) | k_mem))))); (case p2 => assumption); (case p3 => assumption); (case p4 => assumption); (case p5 => assumption); (case p6 => assumption); (case kd => first | exact room hdp (by decide) | ((try simp only [depth_under_make, depth_under_kw, depth_in1, depth_deeper, depth_caller]); (try dsimp only [ktrTop]); omega) | ktr_room); (case ku => first | exact room hun (by decide) | ((try simp only [units_in1, units_deeper, Around.mark_units, units_caller]); (try dsimp only [ktrTop]); omega) | ktr_units)); intro D9 r9 s9 k9 tl9 h9 tk9 m9 R9 S9 F9 N9 l9; (try dsimp only); (try k_fold)) | ((with_reducible show wpAny _ _ (PySem.call (Value.ref 234) _) _ _ _); k_dflt (refine' can_exact _ _ _ _ _ _ _ ?p0 _ _ _ _ _ _ _ _ _ _ _ _ _ _ _ _ _ ?k1 ?k2 ?k3 ?k4 ?k5 ?kK ?kd ?ku ?_; (case k1 => k_asm); (case k2 => k_asm); (case k3 => k_asm); (case k4 => k_asm); (case k5 => k_asm); (case kK => first | exact rfl | assumption); (case p0 => first | with_reducible assumption | (refine' RelN.mono ?r1 ?r2; (case r1 => with_reducible assumption); (case r2 => (repeat' (first | (with_reducible exact fun _ h => h) | (with_reducible exact fun _ h => List.mem_append_left _ h) | (with_reducible refine List.forall_mem_cons.mpr (And.intro ?_ ?_)) | (with_reducible refine List.forall_mem_append.mpr (And.intro ?_ ?_)) | (with_reducible refine sub_cons ?_) | (with_reducible refine sub_appR ?_) | k_mem))))); (case kd => first | exact room hdp (by decide) | ((try simp only [depth_under_make, depth_under_kw, depth_in1, depth_deeper, depth_caller]); (try dsimp only [ktrTop]); omega) | ktr_room); (case ku => first | exact room hun (by decide) | ((try simp only [units_in1, units_deeper, Around.mark_units, units_caller]); (try dsimp only [ktrTop]); omega) | ktr_units)); intro t9 h9 tk9 F9 N9; (try dsimp only); (try k_fold)) | (k_here; k_dflt (refine' LCg.CompSrc.ledger ?z9hh ?z9F ?z9N ?z9hm ?z9hsz (fun g => rest_ints (fun X => X.val * 10 ^ 18) ?z9RA (srcAt_of ?z9hm2) ?_ ?_); (case z9hh => rfl); (case z9F => k_asm); (case z9N => k_asm); (case z9hm => k_mem); (case z9hm2 => k_mem); (case z9RA => exact RelAll.snoc (RelAll.mono (by assumption) (by (repeat' (first | (with_reducible exact fun _ h => h) | (with_reducible exact fun _ h => List.mem_append_left _ h) | (with_reducible refine List.forall_mem_cons.mpr (And.intro ?_ ?_)) | (with_reducible refine List.forall_mem_append.mpr (And.intro ?_ ?_)) | (with_reducible refine sub_cons ?_) | (with_reducible refine sub_appR ?_) | k_mem)))) (by first | with_reducible assumption | (refine' RelN.mono ?r1 ?r2; (case r1 => with_reducible assumption); (case r2 => (repeat' (first | (with_reducible exact fun _ h => h) | (with_reducible exact fun _ h => List.mem_append_left _ h) | (with_reducible refine List.forall_mem_cons.mpr (And.intro ?_ ?_)) | (with_reducible refine List.forall_mem_append.mpr (And.intro ?_ ?_)) | (with_reducible refine sub_cons ?_) | (with_reducible refine sub_appR ?_) | k_mem)))))); (case z9hsz => simp only [List.size_toArray, List.length_append, List.length_cons, List.length_nil, sizeLine_eq]; omega)); all_goals intros) ); (try k_steps))
    unfold Paused
    rename News _ _ _ _ => kN
    rename Fr _ _ _ _ => kF
    refine' join_if false kF kN ?jc ?j1 ?j2
    case jc =>
      cases mx
      case true =>
        k_steps
        repeat' (unfold Paused; (first | (k_here; (with_reducible show wpAny _ _ (subscriptTail _ (PySem.Expr.Slice _ _ none _) (Value.ref _) (Value.ref _)) _ _ _); k_dflt (refine' kms_slice_lit ?z9F ?z9N ?z9l ?z9p ?z9q ?z9e ?_ ?z9s ?z9t ?z9z; (case z9F => k_asm); (case z9N => k_asm); (case z9l => exact News.isList (by k_asm) (by k_mem)); (case z9p => kmk_part); (case z9q => kmk_part); (case z9e => exact kms_tail _ _); (case z9s => with_unfolding_all rfl); (case z9t => kmk_pure); (case z9z => simp only [List.size_toArray, List.length_cons, sizeLine_eq]; omega)); intro slA hA F1 N1 hlD) | ((with_reducible show wpAny _ _ (compareOp PySem.CmpOp.NotEq _ _) _ _ _); (k_here; k_dflt (refine' my_ne ?z9N ?z9ha ?z9hb ?z9h1 ?z9h2 ?z9h3 ?z9h4 ?z9ex ?z9ey ?z9hu ?_; (case z9N => k_asm); (case z9ha => k_mem); (case z9hb => k_mem); (case z9h1 => first | with_reducible assumption | (refine' RelN.mono ?r1 ?r2; (case r1 => with_reducible assumption); (case r2 => (repeat' (first | (with_reducible exact fun _ h => h) | (with_reducible exact fun _ h => List.mem_append_left _ h) | (with_reducible refine List.forall_mem_cons.mpr (And.intro ?_ ?_)) | (with_reducible refine List.forall_mem_append.mpr (And.intro ?_ ?_)) | (with_reducible refine sub_cons ?_) | (with_reducible refine sub_appR ?_) | k_mem))))); (case z9h2 => first | with_reducible assumption | (refine' RelN.mono ?r1 ?r2; (case r1 => with_reducible assumption); (case r2 => (repeat' (first | (with_reducible exact fun _ h => h) | (with_reducible exact fun _ h => List.mem_append_left _ h) | (with_reducible refine List.forall_mem_cons.mpr (And.intro ?_ ?_)) | (with_reducible refine List.forall_mem_append.mpr (And.intro ?_ ?_)) | (with_reducible refine sub_cons ?_) | (with_reducible refine sub_appR ?_) | k_mem))))); (case z9h3 => first | with_reducible assumption | (refine' RelN.mono ?r1 ?r2; (case r1 => with_reducible assumption); (case r2 => (repeat' (first | (with_reducible exact fun _ h => h) | (with_reducible exact fun _ h => List.mem_append_left _ h) | (with_reducible refine List.forall_mem_cons.mpr (And.intro ?_ ?_)) | (with_reducible refine List.forall_mem_append.mpr (And.intro ?_ ?_)) | (with_reducible refine sub_cons ?_) | (with_reducible refine sub_appR ?_) | k_mem))))); (case z9h4 => first | with_reducible assumption | (refine' RelN.mono ?r1 ?r2; (case r1 => with_reducible assumption); (case r2 => (repeat' (first | (with_reducible exact fun _ h => h) | (with_reducible exact fun _ h => List.mem_append_left _ h) | (with_reducible refine List.forall_mem_cons.mpr (And.intro ?_ ?_)) | (with_reducible refine List.forall_mem_append.mpr (And.intro ?_ ?_)) | (with_reducible refine sub_cons ?_) | (with_reducible refine sub_appR ?_) | k_mem))))); (case z9ex => assumption); (case z9ey => assumption); (case z9hu => first | ((try simp only [units_in1, units_deeper, Around.mark_units, units_caller]); (try dsimp only [ktrTop]); omega) | ke_room)))) | ((with_reducible show wpAny _ _ (PySem.call (Value.builtin _) _) _ _ _); (k_here; k_dflt (refine' my_append ?z9k1 ?z9k2 ?z9k3 ?z9z ?_; (case z9k1 => k_asm); (case z9k2 => k_asm); (case z9k3 => k_upd); (case z9z => omega)); intro h' F' N')) | ((with_reducible show wpAny _ _ (PySem.call (Value.ref 255) _) _ _ _); k_dflt (refine' can_parted _ _ _ _ _ _ _ _ _ _ _ _ _ ?p0 ?p1 ?p2 ?p3 ?p4 ?p5 ?p6 _ _ _ _ _ _ _ _ _ _ _ _ _ _ _ _ _ ?k1 ?k2 ?k3 ?k4 ?k5 ?kK ?kd ?ku ?_; (case k1 => k_asm); (case k2 => k_asm); (case k3 => k_asm); (case k4 => k_asm); (case k5 => k_asm); (case kK => first | exact rfl | assumption); (case p0 => first | with_reducible assumption | (refine' RelN.mono ?r1 ?r2; (case r1 => with_reducible assumption); (case r2 => (repeat' (first | (with_reducible exact fun _ h => h) | (with_reducible exact fun _ h => List.mem_append_left _ h) | (with_reducible refine List.forall_mem_cons.mpr (And.intro ?_ ?_)) | (with_reducible refine List.forall_mem_append.mpr (And.intro ?_ ?_)) | (with_reducible refine sub_cons ?_) | (with_reducible refine sub_appR ?_) | k_mem))))); (case p1 => first | with_reducible assumption | (refine' RelN.mono ?r1 ?r2; (case r1 => with_reducible assumption); (case r2 => (repeat' (first | (with_reducible exact fun _ h => h) | (with_reducible exact fun _ h => List.mem_append_left _ h) | (with_reducible refine List.forall_mem_cons.mpr (And.intro ?_ ?_)) | (with_reducible refine List.forall_mem_append.mpr (And.intro ?_ ?_)) | (with_reducible refine sub_cons ?_) | (with_reducible refine sub_appR ?_) | k_mem))))); (case p2 => assumption); (case p3 => assumption); (case p4 => assumption); (case p5 => assumption); (case p6 => assumption); (case kd => first | exact room hdp (by decide) | ((try simp only [depth_under_make, depth_under_kw, depth_in1, depth_deeper, depth_caller]); (try dsimp only [ktrTop]); omega) | ktr_room); (case ku => first | exact room hun (by decide) | ((try simp only [units_in1, units_deeper, Around.mark_units, units_caller]); (try dsimp only [ktrTop]); omega) | ktr_units)); intro D9 r9 s9 k9 tl9 h9 tk9 m9 R9 S9 F9 N9 l9; (try dsimp only); (try k_fold)) | ((with_reducible show wpAny _ _ (PySem.call (Value.ref 234) _) _ _ _); k_dflt (refine' can_exact _ _ _ _ _ _ _ ?p0 _ _ _ _ _ _ _ _ _ _ _ _ _ _ _ _ _ ?k1 ?k2 ?k3 ?k4 ?k5 ?kK ?kd ?ku ?_; (case k1 => k_asm); (case k2 => k_asm); (case k3 => k_asm); (case k4 => k_asm); (case k5 => k_asm); (case kK => first | exact rfl | assumption); (case p0 => first | with_reducible assumption | (refine' RelN.mono ?r1 ?r2; (case r1 => with_reducible assumption); (case r2 => (repeat' (first | (with_reducible exact fun _ h => h) | (with_reducible exact fun _ h => List.mem_append_left _ h) | (with_reducible refine List.forall_mem_cons.mpr (And.intro ?_ ?_)) | (with_reducible refine List.forall_mem_append.mpr (And.intro ?_ ?_)) | (with_reducible refine sub_cons ?_) | (with_reducible refine sub_appR ?_) | k_mem))))); (case kd => first | exact room hdp (by decide) | ((try simp only [depth_under_make, depth_under_kw, depth_in1, depth_deeper, depth_caller]); (try dsimp only [ktrTop]); omega) | ktr_room); (case ku => first | exact room hun (by decide) | ((try simp only [units_in1, units_deeper, Around.mark_units, units_caller]); (try dsimp only [ktrTop]); omega) | ktr_units)); intro t9 h9 tk9 F9 N9; (try dsimp only); (try k_fold)) | (k_here; k_dflt (refine' LCg.CompSrc.ledger ?z9hh ?z9F ?z9N ?z9hm ?z9hsz (fun g => rest_ints (fun X => X.val * 10 ^ 18) ?z9RA (srcAt_of ?z9hm2) ?_ ?_); (case z9hh => rfl); (case z9F => k_asm); (case z9N => k_asm); (case z9hm => k_mem); (case z9hm2 => k_mem); (case z9RA => exact RelAll.snoc (RelAll.mono (by assumption) (by (repeat' (first | (with_reducible exact fun _ h => h) | (with_reducible exact fun _ h => List.mem_append_left _ h) | (with_reducible refine List.forall_mem_cons.mpr (And.intro ?_ ?_)) | (with_reducible refine List.forall_mem_append.mpr (And.intro ?_ ?_)) | (with_reducible refine sub_cons ?_) | (with_reducible refine sub_appR ?_) | k_mem)))) (by first | with_reducible assumption | (refine' RelN.mono ?r1 ?r2; (case r1 => with_reducible assumption); (case r2 => (repeat' (first | (with_reducible exact fun _ h => h) | (with_reducible exact fun _ h => List.mem_append_left _ h) | (with_reducible refine List.forall_mem_cons.mpr (And.intro ?_ ?_)) | (with_reducible refine List.forall_mem_append.mpr (And.intro ?_ ?_)) | (with_reducible refine sub_cons ?_) | (with_reducible refine sub_appR ?_) | k_mem)))))); (case z9hsz => simp only [List.size_toArray, List.length_append, List.length_cons, List.length_nil, sizeLine_eq]; omega)); all_goals intros) ); (try k_steps))
        all_goals (refine' jtE rfl ?jE ?jF ?jN; (case jF => k_asm); (case jN => assumption); (case jE => (repeat' (first | (with_reducible exact Ext'.refl _) | (with_reducible refine' Ext'.app (by assumption) ?_) | (with_reducible refine' Ext'.cons ?_ ?_) | exact allLt_id (by assumption) | exact allLt_of (by assumption)))))
      case false =>
        k_steps
        repeat' (unfold Paused; (first | (k_here; (with_reducible show wpAny _ _ (subscriptTail _ (PySem.Expr.Slice _ _ none _) (Value.ref _) (Value.ref _)) _ _ _); k_dflt (refine' kms_slice_lit ?z9F ?z9N ?z9l ?z9p ?z9q ?z9e ?_ ?z9s ?z9t ?z9z; (case z9F => k_asm); (case z9N => k_asm); (case z9l => exact News.isList (by k_asm) (by k_mem)); (case z9p => kmk_part); (case z9q => kmk_part); (case z9e => exact kms_tail _ _); (case z9s => with_unfolding_all rfl); (case z9t => kmk_pure); (case z9z => simp only [List.size_toArray, List.length_cons, sizeLine_eq]; omega)); intro slA hA F1 N1 hlD) | ((with_reducible show wpAny _ _ (compareOp PySem.CmpOp.NotEq _ _) _ _ _); (k_here; k_dflt (refine' my_ne ?z9N ?z9ha ?z9hb ?z9h1 ?z9h2 ?z9h3 ?z9h4 ?z9ex ?z9ey ?z9hu ?_; (case z9N => k_asm); (case z9ha => k_mem); (case z9hb => k_mem); (case z9h1 => first | with_reducible assumption | (refine' RelN.mono ?r1 ?r2; (case r1 => with_reducible assumption); (case r2 => (repeat' (first | (with_reducible exact fun _ h => h) | (with_reducible exact fun _ h => List.mem_append_left _ h) | (with_reducible refine List.forall_mem_cons.mpr (And.intro ?_ ?_)) | (with_reducible refine List.forall_mem_append.mpr (And.intro ?_ ?_)) | (with_reducible refine sub_cons ?_) | (with_reducible refine sub_appR ?_) | k_mem))))); (case z9h2 => first | with_reducible assumption | (refine' RelN.mono ?r1 ?r2; (case r1 => with_reducible assumption); (case r2 => (repeat' (first | (with_reducible exact fun _ h => h) | (with_reducible exact fun _ h => List.mem_append_left _ h) | (with_reducible refine List.forall_mem_cons.mpr (And.intro ?_ ?_)) | (with_reducible refine List.forall_mem_append.mpr (And.intro ?_ ?_)) | (with_reducible refine sub_cons ?_) | (with_reducible refine sub_appR ?_) | k_mem))))); (case z9h3 => first | with_reducible assumption | (refine' RelN.mono ?r1 ?r2; (case r1 => with_reducible assumption); (case r2 => (repeat' (first | (with_reducible exact fun _ h => h) | (with_reducible exact fun _ h => List.mem_append_left _ h) | (with_reducible refine List.forall_mem_cons.mpr (And.intro ?_ ?_)) | (with_reducible refine List.forall_mem_append.mpr (And.intro ?_ ?_)) | (with_reducible refine sub_cons ?_) | (with_reducible refine sub_appR ?_) | k_mem))))); (case z9h4 => first | with_reducible assumption | (refine' RelN.mono ?r1 ?r2; (case r1 => with_reducible assumption); (case r2 => (repeat' (first | (with_reducible exact fun _ h => h) | (with_reducible exact fun _ h => List.mem_append_left _ h) | (with_reducible refine List.forall_mem_cons.mpr (And.intro ?_ ?_)) | (with_reducible refine List.forall_mem_append.mpr (And.intro ?_ ?_)) | (with_reducible refine sub_cons ?_) | (with_reducible refine sub_appR ?_) | k_mem))))); (case z9ex => assumption); (case z9ey => assumption); (case z9hu => first | ((try simp only [units_in1, units_deeper, Around.mark_units, units_caller]); (try dsimp only [ktrTop]); omega) | ke_room)))) | ((with_reducible show wpAny _ _ (PySem.call (Value.builtin _) _) _ _ _); (k_here; k_dflt (refine' my_append ?z9k1 ?z9k2 ?z9k3 ?z9z ?_; (case z9k1 => k_asm); (case z9k2 => k_asm); (case z9k3 => k_upd); (case z9z => omega)); intro h' F' N')) | ((with_reducible show wpAny _ _ (PySem.call (Value.ref 255) _) _ _ _); k_dflt (refine' can_parted _ _ _ _ _ _ _ _ _ _ _ _ _ ?p0 ?p1 ?p2 ?p3 ?p4 ?p5 ?p6 _ _ _ _ _ _ _ _ _ _ _ _ _ _ _ _ _ ?k1 ?k2 ?k3 ?k4 ?k5 ?kK ?kd ?ku ?_; (case k1 => k_asm); (case k2 => k_asm); (case k3 => k_asm); (case k4 => k_asm); (case k5 => k_asm); (case kK => first | exact rfl | assumption); (case p0 => first | with_reducible assumption | (refine' RelN.mono ?r1 ?r2; (case r1 => with_reducible assumption); (case r2 => (repeat' (first | (with_reducible exact fun _ h => h) | (with_reducible exact fun _ h => List.mem_append_left _ h) | (with_reducible refine List.forall_mem_cons.mpr (And.intro ?_ ?_)) | (with_reducible refine List.forall_mem_append.mpr (And.intro ?_ ?_)) | (with_reducible refine sub_cons ?_) | (with_reducible refine sub_appR ?_) | k_mem))))); (case p1 => first | with_reducible assumption | (refine' RelN.mono ?r1 ?r2; (case r1 => with_reducible assumption); (case r2 => (repeat' (first | (with_reducible exact fun _ h => h) | (with_reducible exact fun _ h => List.mem_append_left _ h) | (with_reducible refine List.forall_mem_cons.mpr (And.intro ?_ ?_)) | (with_reducible refine List.forall_mem_append.mpr (And.intro ?_ ?_)) | (with_reducible refine sub_cons ?_) | (with_reducible refine sub_appR ?_) | k_mem))))); (case p2 => assumption); (case p3 => assumption); (case p4 => assumption); (case p5 => assumption); (case p6 => assumption); (case kd => first | exact room hdp (by decide) | ((try simp only [depth_under_make, depth_under_kw, depth_in1, depth_deeper, depth_caller]); (try dsimp only [ktrTop]); omega) | ktr_room); (case ku => first | exact room hun (by decide) | ((try simp only [units_in1, units_deeper, Around.mark_units, units_caller]); (try dsimp only [ktrTop]); omega) | ktr_units)); intro D9 r9 s9 k9 tl9 h9 tk9 m9 R9 S9 F9 N9 l9; (try dsimp only); (try k_fold)) | ((with_reducible show wpAny _ _ (PySem.call (Value.ref 234) _) _ _ _); k_dflt (refine' can_exact _ _ _ _ _ _ _ ?p0 _ _ _ _ _ _ _ _ _ _ _ _ _ _ _ _ _ ?k1 ?k2 ?k3 ?k4 ?k5 ?kK ?kd ?ku ?_; (case k1 => k_asm); (case k2 => k_asm); (case k3 => k_asm); (case k4 => k_asm); (case k5 => k_asm); (case kK => first | exact rfl | assumption); (case p0 => first | with_reducible assumption | (refine' RelN.mono ?r1 ?r2; (case r1 => with_reducible assumption); (case r2 => (repeat' (first | (with_reducible exact fun _ h => h) | (with_reducible exact fun _ h => List.mem_append_left _ h) | (with_reducible refine List.forall_mem_cons.mpr (And.intro ?_ ?_)) | (with_reducible refine List.forall_mem_append.mpr (And.intro ?_ ?_)) | (with_reducible refine sub_cons ?_) | (with_reducible refine sub_appR ?_) | k_mem))))); (case kd => first | exact room hdp (by decide) | ((try simp only [depth_under_make, depth_under_kw, depth_in1, depth_deeper, depth_caller]); (try dsimp only [ktrTop]); omega) | ktr_room); (case ku => first | exact room hun (by decide) | ((try simp only [units_in1, units_deeper, Around.mark_units, units_caller]); (try dsimp only [ktrTop]); omega) | ktr_units)); intro t9 h9 tk9 F9 N9; (try dsimp only); (try k_fold)) | (k_here; k_dflt (refine' LCg.CompSrc.ledger ?z9hh ?z9F ?z9N ?z9hm ?z9hsz (fun g => rest_ints (fun X => X.val * 10 ^ 18) ?z9RA (srcAt_of ?z9hm2) ?_ ?_); (case z9hh => rfl); (case z9F => k_asm); (case z9N => k_asm); (case z9hm => k_mem); (case z9hm2 => k_mem); (case z9RA => exact RelAll.snoc (RelAll.mono (by assumption) (by (repeat' (first | (with_reducible exact fun _ h => h) | (with_reducible exact fun _ h => List.mem_append_left _ h) | (with_reducible refine List.forall_mem_cons.mpr (And.intro ?_ ?_)) | (with_reducible refine List.forall_mem_append.mpr (And.intro ?_ ?_)) | (with_reducible refine sub_cons ?_) | (with_reducible refine sub_appR ?_) | k_mem)))) (by first | with_reducible assumption | (refine' RelN.mono ?r1 ?r2; (case r1 => with_reducible assumption); (case r2 => (repeat' (first | (with_reducible exact fun _ h => h) | (with_reducible exact fun _ h => List.mem_append_left _ h) | (with_reducible refine List.forall_mem_cons.mpr (And.intro ?_ ?_)) | (with_reducible refine List.forall_mem_append.mpr (And.intro ?_ ?_)) | (with_reducible refine sub_cons ?_) | (with_reducible refine sub_appR ?_) | k_mem)))))); (case z9hsz => simp only [List.size_toArray, List.length_append, List.length_cons, List.length_nil, sizeLine_eq]; omega)); all_goals intros) ); (try k_steps))
        all_goals exact jt0 rfl (by k_asm) (by assumption)
    case j1 =>
      intro hb
      cases hb
    case j2 =>
      intro hb9 h8 tk8 tl8 F8 N8 l8
      (try clear kF kN)
      k_steps
      repeat' (unfold Paused; (first | (k_here; (with_reducible show wpAny _ _ (subscriptTail _ (PySem.Expr.Slice _ _ none _) (Value.ref _) (Value.ref _)) _ _ _); k_dflt (refine' kms_slice_lit ?z9F ?z9N ?z9l ?z9p ?z9q ?z9e ?_ ?z9s ?z9t ?z9z; (case z9F => k_asm); (case z9N => k_asm); (case z9l => exact News.isList (by k_asm) (by k_mem)); (case z9p => kmk_part); (case z9q => kmk_part); (case z9e => exact kms_tail _ _); (case z9s => with_unfolding_all rfl); (case z9t => kmk_pure); (case z9z => simp only [List.size_toArray, List.length_cons, sizeLine_eq]; omega)); intro slA hA F1 N1 hlD) | ((with_reducible show wpAny _ _ (compareOp PySem.CmpOp.NotEq _ _) _ _ _); (k_here; k_dflt (refine' my_ne ?z9N ?z9ha ?z9hb ?z9h1 ?z9h2 ?z9h3 ?z9h4 ?z9ex ?z9ey ?z9hu ?_; (case z9N => k_asm); (case z9ha => k_mem); (case z9hb => k_mem); (case z9h1 => first | with_reducible assumption | (refine' RelN.mono ?r1 ?r2; (case r1 => with_reducible assumption); (case r2 => (repeat' (first | (with_reducible exact fun _ h => h) | (with_reducible exact fun _ h => List.mem_append_left _ h) | (with_reducible refine List.forall_mem_cons.mpr (And.intro ?_ ?_)) | (with_reducible refine List.forall_mem_append.mpr (And.intro ?_ ?_)) | (with_reducible refine sub_cons ?_) | (with_reducible refine sub_appR ?_) | k_mem))))); (case z9h2 => first | with_reducible assumption | (refine' RelN.mono ?r1 ?r2; (case r1 => with_reducible assumption); (case r2 => (repeat' (first | (with_reducible exact fun _ h => h) | (with_reducible exact fun _ h => List.mem_append_left _ h) | (with_reducible refine List.forall_mem_cons.mpr (And.intro ?_ ?_)) | (with_reducible refine List.forall_mem_append.mpr (And.intro ?_ ?_)) | (with_reducible refine sub_cons ?_) | (with_reducible refine sub_appR ?_) | k_mem))))); (case z9h3 => first | with_reducible assumption | (refine' RelN.mono ?r1 ?r2; (case r1 => with_reducible assumption); (case r2 => (repeat' (first | (with_reducible exact fun _ h => h) | (with_reducible exact fun _ h => List.mem_append_left _ h) | (with_reducible refine List.forall_mem_cons.mpr (And.intro ?_ ?_)) | (with_reducible refine List.forall_mem_append.mpr (And.intro ?_ ?_)) | (with_reducible refine sub_cons ?_) | (with_reducible refine sub_appR ?_) | k_mem))))); (case z9h4 => first | with_reducible assumption | (refine' RelN.mono ?r1 ?r2; (case r1 => with_reducible assumption); (case r2 => (repeat' (first | (with_reducible exact fun _ h => h) | (with_reducible exact fun _ h => List.mem_append_left _ h) | (with_reducible refine List.forall_mem_cons.mpr (And.intro ?_ ?_)) | (with_reducible refine List.forall_mem_append.mpr (And.intro ?_ ?_)) | (with_reducible refine sub_cons ?_) | (with_reducible refine sub_appR ?_) | k_mem))))); (case z9ex => assumption); (case z9ey => assumption); (case z9hu => first | ((try simp only [units_in1, units_deeper, Around.mark_units, units_caller]); (try dsimp only [ktrTop]); omega) | ke_room)))) | ((with_reducible show wpAny _ _ (PySem.call (Value.builtin _) _) _ _ _); (k_here; k_dflt (refine' my_append ?z9k1 ?z9k2 ?z9k3 ?z9z ?_; (case z9k1 => k_asm); (case z9k2 => k_asm); (case z9k3 => k_upd); (case z9z => omega)); intro h' F' N')) | ((with_reducible show wpAny _ _ (PySem.call (Value.ref 255) _) _ _ _); k_dflt (refine' can_parted _ _ _ _ _ _ _ _ _ _ _ _ _ ?p0 ?p1 ?p2 ?p3 ?p4 ?p5 ?p6 _ _ _ _ _ _ _ _ _ _ _ _ _ _ _ _ _ ?k1 ?k2 ?k3 ?k4 ?k5 ?kK ?kd ?ku ?_; (case k1 => k_asm); (case k2 => k_asm); (case k3 => k_asm); (case k4 => k_asm); (case k5 => k_asm); (case kK => first | exact rfl | assumption); (case p0 => first | with_reducible assumption | (refine' RelN.mono ?r1 ?r2; (case r1 => with_reducible assumption); (case r2 => (repeat' (first | (with_reducible exact fun _ h => h) | (with_reducible exact fun _ h => List.mem_append_left _ h) | (with_reducible refine List.forall_mem_cons.mpr (And.intro ?_ ?_)) | (with_reducible refine List.forall_mem_append.mpr (And.intro ?_ ?_)) | (with_reducible refine sub_cons ?_) | (with_reducible refine sub_appR ?_) | k_mem))))); (case p1 => first | with_reducible assumption | (refine' RelN.mono ?r1 ?r2; (case r1 => with_reducible assumption); (case r2 => (repeat' (first | (with_reducible exact fun _ h => h) | (with_reducible exact fun _ h => List.mem_append_left _ h) | (with_reducible refine List.forall_mem_cons.mpr (And.intro ?_ ?_)) | (with_reducible refine List.forall_mem_append.mpr (And.intro ?_ ?_)) | (with_reducible refine sub_cons ?_) | (with_reducible refine sub_appR ?_) | k_mem))))); (case p2 => assumption); (case p3 => assumption); (case p4 => assumption); (case p5 => assumption); (case p6 => assumption); (case kd => first | exact room hdp (by decide) | ((try simp only [depth_under_make, depth_under_kw, depth_in1, depth_deeper, depth_caller]); (try dsimp only [ktrTop]); omega) | ktr_room); (case ku => first | exact room hun (by decide) | ((try simp only [units_in1, units_deeper, Around.mark_units, units_caller]); (try dsimp only [ktrTop]); omega) | ktr_units)); intro D9 r9 s9 k9 tl9 h9 tk9 m9 R9 S9 F9 N9 l9; (try dsimp only); (try k_fold)) | ((with_reducible show wpAny _ _ (PySem.call (Value.ref 234) _) _ _ _); k_dflt (refine' can_exact _ _ _ _ _ _ _ ?p0 _ _ _ _ _ _ _ _ _ _ _ _ _ _ _ _ _ ?k1 ?k2 ?k3 ?k4 ?k5 ?kK ?kd ?ku ?_; (case k1 => k_asm); (case k2 => k_asm); (case k3 => k_asm); (case k4 => k_asm); (case k5 => k_asm); (case kK => first | exact rfl | assumption); (case p0 => first | with_reducible assumption | (refine' RelN.mono ?r1 ?r2; (case r1 => with_reducible assumption); (case r2 => (repeat' (first | (with_reducible exact fun _ h => h) | (with_reducible exact fun _ h => List.mem_append_left _ h) | (with_reducible refine List.forall_mem_cons.mpr (And.intro ?_ ?_)) | (with_reducible refine List.forall_mem_append.mpr (And.intro ?_ ?_)) | (with_reducible refine sub_cons ?_) | (with_reducible refine sub_appR ?_) | k_mem))))); (case kd => first | exact room hdp (by decide) | ((try simp only [depth_under_make, depth_under_kw, depth_in1, depth_deeper, depth_caller]); (try dsimp only [ktrTop]); omega) | ktr_room); (case ku => first | exact room hun (by decide) | ((try simp only [units_in1, units_deeper, Around.mark_units, units_caller]); (try dsimp only [ktrTop]); omega) | ktr_units)); intro t9 h9 tk9 F9 N9; (try dsimp only); (try k_fold)) | (k_here; k_dflt (refine' LCg.CompSrc.ledger ?z9hh ?z9F ?z9N ?z9hm ?z9hsz (fun g => rest_ints (fun X => X.val * 10 ^ 18) ?z9RA (srcAt_of ?z9hm2) ?_ ?_); (case z9hh => rfl); (case z9F => k_asm); (case z9N => k_asm); (case z9hm => k_mem); (case z9hm2 => k_mem); (case z9RA => exact RelAll.snoc (RelAll.mono (by assumption) (by (repeat' (first | (with_reducible exact fun _ h => h) | (with_reducible exact fun _ h => List.mem_append_left _ h) | (with_reducible refine List.forall_mem_cons.mpr (And.intro ?_ ?_)) | (with_reducible refine List.forall_mem_append.mpr (And.intro ?_ ?_)) | (with_reducible refine sub_cons ?_) | (with_reducible refine sub_appR ?_) | k_mem)))) (by first | with_reducible assumption | (refine' RelN.mono ?r1 ?r2; (case r1 => with_reducible assumption); (case r2 => (repeat' (first | (with_reducible exact fun _ h => h) | (with_reducible exact fun _ h => List.mem_append_left _ h) | (with_reducible refine List.forall_mem_cons.mpr (And.intro ?_ ?_)) | (with_reducible refine List.forall_mem_append.mpr (And.intro ?_ ?_)) | (with_reducible refine sub_cons ?_) | (with_reducible refine sub_appR ?_) | k_mem)))))); (case z9hsz => simp only [List.size_toArray, List.length_append, List.length_cons, List.length_nil, sizeLine_eq]; omega)); all_goals intros) ); (try k_steps))
      · exfalso
        omega
      · rename RelN _ _ (pS d X Y) => hRS
        rename RelN _ _ (pE d X Y) => hSE
        refine' led_end (o := W.listOf es.toArray c) (Es := Es) ?q1 ?q2 hRS hSE ?q3 ?q4 hne hkeep hoff hl9 ?u1 ?u2 ?u3 ?u4 ?u5 hqS hqD hqE hRE hE hes ?q5
        case q1 => k_asm
        case q2 => assumption
        case q3 => assumption
        case q4 => (repeat' (first | (with_reducible exact fun _ h => h) | (with_reducible exact fun _ h => List.mem_append_left _ h) | (with_reducible refine List.forall_mem_cons.mpr (And.intro ?_ ?_)) | (with_reducible refine List.forall_mem_append.mpr (And.intro ?_ ?_)) | (with_reducible refine sub_cons ?_) | (with_reducible refine sub_appR ?_) | k_mem))
        case u1 => rfl
        case u2 => rfl
        case u3 => rfl
        case u4 => rfl
        case u5 => rfl
        case q5 => omega
  · intro m₁ nx h tk hJ F2 N2
    obtain ⟨LL, es, c, nowv, due, td', X, Es, rest, rfl, hne, hkeep, e1, e2, e3, e4, e5, hRX, hX, hXd, hRE, hE, hes, hdue⟩ := hJ
    have F3 := fr_led2 F2 e1 e2
    clear F2
    have hes8 : es.length ≤ 3 := by omega
    k_steps
    repeat' (unfold Paused; (first | (k_here; (with_reducible show wpAny _ _ (subscriptTail _ (PySem.Expr.Slice _ _ none _) (Value.ref _) (Value.ref _)) _ _ _); k_dflt (refine' kms_slice_lit ?z9F ?z9N ?z9l ?z9p ?z9q ?z9e ?_ ?z9s ?z9t ?z9z; (case z9F => k_asm); (case z9N => k_asm); (case z9l => exact News.isList (by k_asm) (by k_mem)); (case z9p => kmk_part); (case z9q => kmk_part); (case z9e => exact kms_tail _ _); (case z9s => with_unfolding_all rfl); (case z9t => kmk_pure); (case z9z => simp only [List.size_toArray, List.length_cons, sizeLine_eq]; omega)); intro slA hA F1 N1 hlD) | ((with_reducible show wpAny _ _ (compareOp PySem.CmpOp.NotEq _ _) _ _ _); (k_here; k_dflt (refine' my_ne ?z9N ?z9ha ?z9hb ?z9h1 ?z9h2 ?z9h3 ?z9h4 ?z9ex ?z9ey ?z9hu ?_; (case z9N => k_asm); (case z9ha => k_mem); (case z9hb => k_mem); (case z9h1 => first | with_reducible assumption | (refine' RelN.mono ?r1 ?r2; (case r1 => with_reducible assumption); (case r2 => (repeat' (first | (with_reducible exact fun _ h => h) | (with_reducible exact fun _ h => List.mem_append_left _ h) | (with_reducible refine List.forall_mem_cons.mpr (And.intro ?_ ?_)) | (with_reducible refine List.forall_mem_append.mpr (And.intro ?_ ?_)) | (with_reducible refine sub_cons ?_) | (with_reducible refine sub_appR ?_) | k_mem))))); (case z9h2 => first | with_reducible assumption | (refine' RelN.mono ?r1 ?r2; (case r1 => with_reducible assumption); (case r2 => (repeat' (first | (with_reducible exact fun _ h => h) | (with_reducible exact fun _ h => List.mem_append_left _ h) | (with_reducible refine List.forall_mem_cons.mpr (And.intro ?_ ?_)) | (with_reducible refine List.forall_mem_append.mpr (And.intro ?_ ?_)) | (with_reducible refine sub_cons ?_) | (with_reducible refine sub_appR ?_) | k_mem))))); (case z9h3 => first | with_reducible assumption | (refine' RelN.mono ?r1 ?r2; (case r1 => with_reducible assumption); (case r2 => (repeat' (first | (with_reducible exact fun _ h => h) | (with_reducible exact fun _ h => List.mem_append_left _ h) | (with_reducible refine List.forall_mem_cons.mpr (And.intro ?_ ?_)) | (with_reducible refine List.forall_mem_append.mpr (And.intro ?_ ?_)) | (with_reducible refine sub_cons ?_) | (with_reducible refine sub_appR ?_) | k_mem))))); (case z9h4 => first | with_reducible assumption | (refine' RelN.mono ?r1 ?r2; (case r1 => with_reducible assumption); (case r2 => (repeat' (first | (with_reducible exact fun _ h => h) | (with_reducible exact fun _ h => List.mem_append_left _ h) | (with_reducible refine List.forall_mem_cons.mpr (And.intro ?_ ?_)) | (with_reducible refine List.forall_mem_append.mpr (And.intro ?_ ?_)) | (with_reducible refine sub_cons ?_) | (with_reducible refine sub_appR ?_) | k_mem))))); (case z9ex => assumption); (case z9ey => assumption); (case z9hu => first | ((try simp only [units_in1, units_deeper, Around.mark_units, units_caller]); (try dsimp only [ktrTop]); omega) | ke_room)))) | ((with_reducible show wpAny _ _ (PySem.call (Value.builtin _) _) _ _ _); (k_here; k_dflt (refine' my_append ?z9k1 ?z9k2 ?z9k3 ?z9z ?_; (case z9k1 => k_asm); (case z9k2 => k_asm); (case z9k3 => k_upd); (case z9z => omega)); intro h' F' N')) | ((with_reducible show wpAny _ _ (PySem.call (Value.ref 255) _) _ _ _); k_dflt (refine' can_parted _ _ _ _ _ _ _ _ _ _ _ _ _ ?p0 ?p1 ?p2 ?p3 ?p4 ?p5 ?p6 _ _ _ _ _ _ _ _ _ _ _ _ _ _ _ _ _ ?k1 ?k2 ?k3 ?k4 ?k5 ?kK ?kd ?ku ?_; (case k1 => k_asm); (case k2 => k_asm); (case k3 => k_asm); (case k4 => k_asm); (case k5 => k_asm); (case kK => first | exact rfl | assumption); (case p0 => first | with_reducible assumption | (refine' RelN.mono ?r1 ?r2; (case r1 => with_reducible assumption); (case r2 => (repeat' (first | (with_reducible exact fun _ h => h) | (with_reducible exact fun _ h => List.mem_append_left _ h) | (with_reducible refine List.forall_mem_cons.mpr (And.intro ?_ ?_)) | (with_reducible refine List.forall_mem_append.mpr (And.intro ?_ ?_)) | (with_reducible refine sub_cons ?_) | (with_reducible refine sub_appR ?_) | k_mem))))); (case p1 => first | with_reducible assumption | (refine' RelN.mono ?r1 ?r2; (case r1 => with_reducible assumption); (case r2 => (repeat' (first | (with_reducible exact fun _ h => h) | (with_reducible exact fun _ h => List.mem_append_left _ h) | (with_reducible refine List.forall_mem_cons.mpr (And.intro ?_ ?_)) | (with_reducible refine List.forall_mem_append.mpr (And.intro ?_ ?_)) | (with_reducible refine sub_cons ?_) | (with_reducible refine sub_appR ?_) | k_mem))))); (case p2 => assumption); (case p3 => assumption); (case p4 => assumption); (case p5 => assumption); (case p6 => assumption); (case kd => first | exact room hdp (by decide) | ((try simp only [depth_under_make, depth_under_kw, depth_in1, depth_deeper, depth_caller]); (try dsimp only [ktrTop]); omega) | ktr_room); (case ku => first | exact room hun (by decide) | ((try simp only [units_in1, units_deeper, Around.mark_units, units_caller]); (try dsimp only [ktrTop]); omega) | ktr_units)); intro D9 r9 s9 k9 tl9 h9 tk9 m9 R9 S9 F9 N9 l9; (try dsimp only); (try k_fold)) | ((with_reducible show wpAny _ _ (PySem.call (Value.ref 234) _) _ _ _); k_dflt (refine' can_exact _ _ _ _ _ _ _ ?p0 _ _ _ _ _ _ _ _ _ _ _ _ _ _ _ _ _ ?k1 ?k2 ?k3 ?k4 ?k5 ?kK ?kd ?ku ?_; (case k1 => k_asm); (case k2 => k_asm); (case k3 => k_asm); (case k4 => k_asm); (case k5 => k_asm); (case kK => first | exact rfl | assumption); (case p0 => first | with_reducible assumption | (refine' RelN.mono ?r1 ?r2; (case r1 => with_reducible assumption); (case r2 => (repeat' (first | (with_reducible exact fun _ h => h) | (with_reducible exact fun _ h => List.mem_append_left _ h) | (with_reducible refine List.forall_mem_cons.mpr (And.intro ?_ ?_)) | (with_reducible refine List.forall_mem_append.mpr (And.intro ?_ ?_)) | (with_reducible refine sub_cons ?_) | (with_reducible refine sub_appR ?_) | k_mem))))); (case kd => first | exact room hdp (by decide) | ((try simp only [depth_under_make, depth_under_kw, depth_in1, depth_deeper, depth_caller]); (try dsimp only [ktrTop]); omega) | ktr_room); (case ku => first | exact room hun (by decide) | ((try simp only [units_in1, units_deeper, Around.mark_units, units_caller]); (try dsimp only [ktrTop]); omega) | ktr_units)); intro t9 h9 tk9 F9 N9; (try dsimp only); (try k_fold)) | (k_here; k_dflt (refine' LCg.CompSrc.ledger ?z9hh ?z9F ?z9N ?z9hm ?z9hsz (fun g => rest_ints (fun X => X.val * 10 ^ 18) ?z9RA (srcAt_of ?z9hm2) ?_ ?_); (case z9hh => rfl); (case z9F => k_asm); (case z9N => k_asm); (case z9hm => k_mem); (case z9hm2 => k_mem); (case z9RA => exact RelAll.snoc (RelAll.mono (by assumption) (by (repeat' (first | (with_reducible exact fun _ h => h) | (with_reducible exact fun _ h => List.mem_append_left _ h) | (with_reducible refine List.forall_mem_cons.mpr (And.intro ?_ ?_)) | (with_reducible refine List.forall_mem_append.mpr (And.intro ?_ ?_)) | (with_reducible refine sub_cons ?_) | (with_reducible refine sub_appR ?_) | k_mem)))) (by first | with_reducible assumption | (refine' RelN.mono ?r1 ?r2; (case r1 => with_reducible assumption); (case r2 => (repeat' (first | (with_reducible exact fun _ h => h) | (with_reducible exact fun _ h => List.mem_append_left _ h) | (with_reducible refine List.forall_mem_cons.mpr (And.intro ?_ ?_)) | (with_reducible refine List.forall_mem_append.mpr (And.intro ?_ ?_)) | (with_reducible refine sub_cons ?_) | (with_reducible refine sub_appR ?_) | k_mem)))))); (case z9hsz => simp only [List.size_toArray, List.length_append, List.length_cons, List.length_nil, sizeLine_eq]; omega)); all_goals intros) ); (try k_steps))
    rename News _ _ _ _ => kN
    rename Fr _ _ _ _ => kF
    have sub : ∀ q ∈ rest, ∀ x y z : Addr × Obj, q ∈ x :: y :: z :: rest := fun q hq x y z => .tail _ (.tail _ (.tail _ hq))
    refine hret _ (es ++ [nowv]) (Es ++ [X]) _ _ _ _ List.mem_cons_self (RelAll.snoc (hRE.mono fun q hq => sub q hq _ _ _) (hRX.mono fun q hq => sub q hq _ _ _)) ?_ (by simp [hes]) kF kN (fun q hq => sub q (hkeep q (.tail _ hq)) _ _ _)
    intro z hz
    rcases List.mem_append.mp hz with hz | hz
    · exact hE z hz
    · rw [List.mem_singleton.mp hz]; exact hX.mono (by omega)
end
theorem news_jar {h₀ h : Heap} {L : Addr} {x y z j : Addr × Obj} {l : List (Addr × Obj)} (N : News h₀ L h (x :: y :: z :: j :: l)) : News h₀ L h (j :: x :: y :: z :: l) := fun p hp => by
  refine N p ?_
  simp only [List.mem_cons] at hp ⊢
  rcases hp with rfl | rfl | rfl | rfl | hp
  · exact .inr (.inr (.inr (.inl rfl)))
  · exact .inl rfl
  · exact .inr (.inl rfl)
  · exact .inr (.inr (.inl rfl))
  · exact .inr (.inr (.inr (.inr hp)))
/-- a comprehension over a range whose turns draw a number each -/
theorem rest_nums {prog : Program} {w : World} {A : Around} {h₀ : Heap} {L : Addr} {m : Str → Option Value} {env : Env} {elt : Expr} {x : Str} {scope : Scope} {cl : List (Str × Addr)} {s : Shared}
    {Fin : List Value → List (Addr × Obj) → Prop} {d p0 : Int} {J Sa : Addr} {u0 : Tok} {c0 n : Nat} {rest0 : List (Addr × Obj)} (hoff0 : ∀ q ∈ rest0, q.1 ≠ J) (hp0 : 0 ≤ p0)
    (call : ∀ (p : Int) (u : Tok) (c : Nat) (rest : List (Addr × Obj)) (ys : List Value) (I : Addr) (oI : Obj) (C : Addr) (oC : Obj) (D : Addr) (m₂ : Str → Option Value) (h : Heap) (tk : Nat) (E' : Value → Shared → Prop), 0 ≤ p → p ≤ p0 + 4 * n → (∀ q ∈ rest0, q ∈ rest) →
      (∀ q ∈ (I, oI) :: (C, oC) :: (D, LCg.lst ys) :: rest, q.1 ≠ J) → Fr h₀ L h m → News h₀ L h ((J, jarO Sa 0 p u c) :: (I, oI) :: (C, oC) :: (D, LCg.lst ys) :: rest) →
      wpAny (model prog w) A (eval elt (compEnvC scope cl C env)) (fun y s' => ∃ (X : Num) (tl : List (Addr × Obj)) (p' : Int) (u' : Tok) (c' : Nat) (h' : Heap) (tk' : Nat), s' = { s with heap := h', toks := tk' } ∧ Okk d 13 X ∧ RelN tl y X ∧ Fr h₀ L h' m ∧
        News h₀ L h' ((J, jarO Sa 0 p' u' c') :: (tl ++ (I, oI) :: (C, oC) :: (D, LCg.lst ys) :: rest)) ∧ (p ≤ p' ∧ p' ≤ p + 4) ∧ ∀ x ∈ tl, J < x.1 ∧ ∀ q ∈ (I, oI) :: (C, oC) :: (D, LCg.lst ys) :: rest, q.1 < x.1) E' { s with heap := h, toks := tk })
    (fin : ∀ (ys : List Value) (Xs : List Num) (p : Int) (u : Tok) (c : Nat) (rest : List (Addr × Obj)), ys.length = n → RelAll rest ys Xs → (∀ X ∈ Xs, Okk d 13 X) → (∀ q ∈ rest0, q ∈ rest) → Fin ys ((J, jarO Sa 0 p u c) :: rest)) :
    LCg.CompRest prog w A h₀ L m env elt x scope cl s (fun _ => True) (fun i v => ∃ t, v = .int (0 + (i : Int)) t) Fin n 0 [] ((J, jarO Sa 0 p0 u0 c0) :: rest0) := by
  have main : ∀ (k i : Nat) (ys : List Value) (Xs : List Num) (p : Int) (u : Tok) (c : Nat) (rest : List (Addr × Obj)), i + k = n → ys.length = i → p0 ≤ p → p ≤ p0 + 4 * i → RelAll rest ys Xs → (∀ X ∈ Xs, Okk d 13 X) → (∀ q ∈ rest0, q ∈ rest) → (∀ q ∈ rest, q.1 ≠ J) →
      LCg.CompRest prog w A h₀ L m env elt x scope cl s (fun _ => True) (fun i v => ∃ t, v = .int (0 + (i : Int)) t) Fin k i ys ((J, jarO Sa 0 p u c) :: rest) := by
    intro k
    induction k with
    | zero =>
      intro i ys Xs p u c rest hi hl hp hp' hR hX hs ho
      exact LCg.CompRest.zero (fin ys Xs p u c rest (by omega) hR hX hs)
    | succ k ih =>
      intro i ys Xs p u c rest hi hl hp hp' hR hX hs ho
      refine LCg.CompRest.succ ?_
      intro v I oI C oC D m₂ h tk E' hv hC hx F N off ne
      have off' := off.mem
      have oJ := off' _ List.mem_cons_self
      have hoff : ∀ q ∈ (I, oI) :: (C, oC) :: (D, LCg.lst ys) :: rest, q.1 ≠ J := by
        intro q hq
        simp only [List.mem_cons] at hq
        rcases hq with rfl | rfl | rfl | hq
        · exact Ne.symm oJ.1
        · exact Ne.symm oJ.2.1
        · exact Ne.symm oJ.2.2
        · exact ho q hq
      refine wpAny_mono (call p u c rest ys I oI C oC D m₂ h tk E' (by omega) (by omega) hs hoff F (news_jar N)) (fun y s' hq => ?_) fun _ _ e => e
      obtain ⟨X, tl, p', u', c', h', tk', rfl, hXk, hRX, F', N', hpp, hfr⟩ := hq
      have sR : ∀ q ∈ rest, q ∈ tl ++ rest := fun q hq => List.mem_append_right _ hq
      refine LCg.CompEnd.intro (s₁ := { s with heap := h, toks := tk }) F' N' ((J, jarO Sa 0 p' u' c') :: (tl ++ rest)) (fun q hq => ?_) (LCg.Off3.of fun q hq => ?_) trivial
        (ih (i + 1) _ (Xs ++ [X]) p' u' c' (tl ++ rest) (by omega) (by simp [hl]) (by omega) (by omega) ((hR.mono sR).snoc (hRX.mono fun q hq => List.mem_append_left _ hq)) ?_ (fun q hq => sR q (hs q hq)) ?_)
      · simp only [List.mem_cons, List.mem_append] at hq ⊢
        rcases hq with rfl | rfl | rfl | rfl | hq | hq
        · exact .inr (.inr (.inl rfl))
        · exact .inr (.inr (.inr (.inl rfl)))
        · exact .inr (.inr (.inr (.inr (.inl rfl))))
        · exact .inl rfl
        · exact .inr (.inl hq)
        · exact .inr (.inr (.inr (.inr (.inr hq))))
      · rcases List.mem_cons.mp hq with rfl | hq
        · exact oJ
        · rcases List.mem_append.mp hq with hq | hq
          · have z := (hfr q hq).2
            exact ⟨Nat.ne_of_gt (z (I, oI) (by simp)), Nat.ne_of_gt (z (C, oC) (by simp)), Nat.ne_of_gt (z (D, LCg.lst ys) (by simp))⟩
          · exact off' q (List.mem_cons_of_mem _ hq)
      · intro z hz
        rcases List.mem_append.mp hz with hz | hz
        · exact hX z hz
        · rw [List.mem_singleton.mp hz]; exact hXk
      · intro q hq
        rcases List.mem_append.mp hq with hq | hq
        · exact Nat.ne_of_gt (hfr q hq).1
        · exact ho q hq
  exact main n 0 [] [] p0 u0 c0 rest0 (by omega) rfl (by omega) (by omega) .nil (fun X hX => nomatch hX) (fun q hq => hq) hoff0
/-- a comprehension over a made list of numbers whose turns make decimals of them -/
theorem rest_decs {prog : Program} {w : World} {A : Around} {h₀ : Heap} {L : Addr} {m : Str → Option Value} {env : Env} {elt : Expr} {x : Str} {scope : Scope} {cl : List (Str × Addr)} {s : Shared} {ax : Addr}
    {Fin : List Value → List (Addr × Obj) → Prop} {d : Int} {kk nn : Nat} {its : List Value} {Zs : List Num} {news : List (Addr × Obj)} (hR : RelAll news its Zs) (hZ : ∀ z ∈ Zs, Okk d kk z) (hm : (ax, W.listOf its.toArray nn) ∈ news)
    (call : ∀ (news' : List (Addr × Obj)) (v : Value) (X : Num) (ys : List Value) (I : Addr) (oI : Obj) (C : Addr) (oC : Obj) (D : Addr) (m₂ : Str → Option Value) (h : Heap) (tk : Nat) (E' : Value → Shared → Prop), (∀ q ∈ news, q ∈ news') → RelN news' v X → Okk d kk X → LCg.NsObj oC m₂ → m₂ x = some v → Fr h₀ L h m →
      News h₀ L h ((I, oI) :: (C, oC) :: (D, LCg.lst ys) :: news') → wpAny (model prog w) A (eval elt (compEnvC scope cl C env)) (fun y s' => ∃ (D9 : Addr) (c e : Int) (t u : Tok) (k : Nat) (h' : Heap) (tk' : Nat), y = .ref D9 ∧ s' = { s with heap := h', toks := tk' } ∧ IsDec X.val c e ∧ Fr h₀ L h' m ∧
        News h₀ L h' ((D9, tupO c t e u k) :: (I, oI) :: (C, oC) :: (D, LCg.lst ys) :: news') ∧ AllLt D9 ((I, oI) :: (C, oC) :: (D, LCg.lst ys) :: news')) E' { s with heap := h, toks := tk })
    (fin : ∀ (ys : List Value) (Xs : List Num) (news' : List (Addr × Obj)), ys.length = its.length → RelAll news' ys Xs → (∀ X ∈ Xs, Okk d kk X ∧ X.isDec) → (∀ q ∈ news, q ∈ news') → Fin ys news') :
    LCg.CompRest prog w A h₀ L m env elt x scope cl s (LCg.SrcAt h₀ ax its.toArray) (fun i v => its.toArray[i]? = some v) Fin its.toArray.size 0 [] news := by
  have main : ∀ (k i : Nat) (ys : List Value) (Xs : List Num) (news' : List (Addr × Obj)), i + k = its.length → ys.length = i → RelAll news' ys Xs → (∀ X ∈ Xs, Okk d kk X ∧ X.isDec) → (∀ q ∈ news, q ∈ news') →
      LCg.CompRest prog w A h₀ L m env elt x scope cl s (LCg.SrcAt h₀ ax its.toArray) (fun i v => its.toArray[i]? = some v) Fin k i ys news' := by
    intro k
    induction k with
    | zero =>
      intro i ys Xs news' hi hl hR' hX hs
      exact LCg.CompRest.zero (fin ys Xs news' (by omega) hR' hX hs)
    | succ k ih =>
      intro i ys Xs news' hi hl hR' hX hs
      refine LCg.CompRest.succ ?_
      intro v I oI C oC D m₂ h tk E' hv hC hx F N off ne
      obtain ⟨X, hXi, hRX⟩ := hR.getAt (by simpa using hv)
      have hXk := hZ X (List.mem_of_getElem? hXi)
      refine wpAny_mono (call news' v X ys I oI C oC D m₂ h tk E' hs (hRX.mono hs) hXk hC hx F N) (fun y s' hq => ?_) fun _ _ e => e
      obtain ⟨D9, c, e, t, u, kt, h', tk', rfl, rfl, hI, F', N', hl9⟩ := hq
      have z := ktn_ltOf hl9
      have sR : ∀ q ∈ news', q ∈ (D9, tupO c t e u kt) :: news' := fun q hq => .tail _ hq
      refine LCg.CompEnd.intro (s₁ := { s with heap := h, toks := tk }) F' N' ((D9, tupO c t e u kt) :: news') (fun q hq => ?_) (LCg.Off3.of fun q hq => ?_) (srcAt_of (sR _ (hs _ hm)))
        (ih (i + 1) _ (Xs ++ [.dec X.val]) _ (by omega) (by simp [hl]) ((hR'.mono sR).snoc (.dec (.head _) hI)) ?_ (fun q hq => sR q (hs q hq)))
      · simp only [List.mem_cons] at hq ⊢
        rcases hq with rfl | rfl | rfl | rfl | hq
        · exact .inr (.inl rfl)
        · exact .inr (.inr (.inl rfl))
        · exact .inr (.inr (.inr (.inl rfl)))
        · exact .inl rfl
        · exact .inr (.inr (.inr (.inr hq)))
      · rcases List.mem_cons.mp hq with rfl | hq
        · exact ⟨Nat.ne_of_gt (z (I, oI) (by simp)), Nat.ne_of_gt (z (C, oC) (by simp)), Nat.ne_of_gt (z (D, LCg.lst ys) (by simp))⟩
        · exact off.mem q hq
      · intro z hz
        rcases List.mem_append.mp hz with hz | hz
        · exact hX z hz
        · rw [List.mem_singleton.mp hz]; exact ⟨⟨hXk.fix, hXk.sm, fun _ q => nomatch q⟩, trivial⟩
  have := main its.length 0 [] [] news (by omega) rfl .nil (fun X hX => nomatch hX) (fun q hq => hq)
  simpa using this
theorem src_nums {prog : Program} {w : World} {A : Around} {h₀ : Heap} {L : Addr} {m : Str → Option Value} {env : Env} {elt : Expr} {x : Str} {scope : Scope} {cl : List (Str × Addr)} {s : Shared}
    {Fin : Shared → List Value → List (Addr × Obj) → Prop} {r : Addr} {k : Int} {t1 t2 t3 : Tok} {d p0 : Int} {J Sa : Addr} {u0 : Tok} {c0 : Nat} {T : Addr × Obj} {rest0 : List (Addr × Obj)} (hh : A.handled = none) (F : Fr h₀ L s.heap m) (N : News h₀ L s.heap (T :: (J, jarO Sa 0 p0 u0 c0) :: rest0))
    (hr : IsRange s.heap r 0 (2 + k) 1 t1 t2 t3) (h0 : 0 ≤ k) (h3 : k < 3) (hoff0 : ∀ q ∈ rest0, q.1 ≠ J) (hp0 : 0 ≤ p0)
    (call : ∀ (g : Heap) (p : Int) (u : Tok) (c : Nat) (rest : List (Addr × Obj)) (ys : List Value) (I : Addr) (oI : Obj) (C : Addr) (oC : Obj) (D : Addr) (h : Heap) (tk : Nat) (E' : Value → Shared → Prop), 0 ≤ p → p ≤ p0 + 16 → (∀ q ∈ rest0, q ∈ rest) →
      (∀ q ∈ (I, oI) :: (C, oC) :: (D, LCg.lst ys) :: rest, q.1 ≠ J) → Fr h₀ L h m → News h₀ L h ((J, jarO Sa 0 p u c) :: (I, oI) :: (C, oC) :: (D, LCg.lst ys) :: rest) →
      wpAny (model prog w) A (eval elt (compEnvC scope cl C env)) (fun y s' => ∃ (X : Num) (tl : List (Addr × Obj)) (p' : Int) (u' : Tok) (c' : Nat) (h' : Heap) (tk' : Nat), s' = { s with heap := h', toks := tk' } ∧ Okk d 13 X ∧ RelN tl y X ∧ Fr h₀ L h' m ∧
        News h₀ L h' ((J, jarO Sa 0 p' u' c') :: (tl ++ (I, oI) :: (C, oC) :: (D, LCg.lst ys) :: rest)) ∧ (p ≤ p' ∧ p' ≤ p + 4) ∧ ∀ x ∈ tl, J < x.1 ∧ ∀ q ∈ (I, oI) :: (C, oC) :: (D, LCg.lst ys) :: rest, q.1 < x.1) E' { s with heap := h, toks := tk })
    (fin : ∀ (g : Heap) (v0 : Value) (vs : List Value) (X0 : Num) (Xs : List Num) (p : Int) (u : Tok) (c : Nat) (rest : List (Addr × Obj)), vs.length ≤ 3 → RelN rest v0 X0 → RelAll rest vs Xs → Okk d 13 X0 → (∀ X ∈ Xs, Okk d 13 X) → (∀ q ∈ rest0, q ∈ rest) → Fin { s with heap := g } (v0 :: vs) ((J, jarO Sa 0 p u c) :: rest)) :
    LCg.CompSrc prog w A h₀ L m env elt x scope cl Fin (.ref r) s := by
  have hn : Builtin.Range.rangeSize 0 (2 + k) 1 = (((2 + k).toNat : Nat) : Int) := by rw [rangeSize_nat, Int.sub_zero]
  have hlow : News h₀ L s.heap ((J, jarO Sa 0 p0 u0 c0) :: rest0) := fun q hq => N q (.tail _ hq)
  refine LCg.CompSrc.range hh F hlow hr (small_one (by decide) (by decide) (by omega) (by omega)) hn (by rw [sizeLine_eq]; omega) fun g => ?_
  refine rest_nums hoff0 hp0 (fun p u c rest ys I oI C oC D m₂ h tk E' hp hp' hs ho F' N' => call g p u c rest ys I oI C oC D h tk E' hp (by omega) hs ho F' N') ?_
  intro ys Xs p u c rest hl hR hX hs
  cases hR with
  | nil => simp at hl; omega
  | cons hv hvs => exact fin g _ _ _ _ p u c rest (by simp at hl; omega) hv hvs (hX _ (.head _)) (fun X hx => hX X (.tail _ hx)) hs
theorem src_decs {prog : Program} {w : World} {A : Around} {h₀ : Heap} {L : Addr} {m : Str → Option Value} {env : Env} {elt : Expr} {x : Str} {scope : Scope} {cl : List (Str × Addr)} {s : Shared} {ax : Addr}
    {Fin : Shared → List Value → List (Addr × Obj) → Prop} {d : Int} {kk nn n : Nat} {its : List Value} {Zs : List Num} {news : List (Addr × Obj)} (hh : A.handled = none) (F : Fr h₀ L s.heap m) (N : News h₀ L s.heap news) (hR : RelAll news its Zs) (hZ : ∀ z ∈ Zs, Okk d kk z) (hm : (ax, W.listOf its.toArray nn) ∈ news) (hl : its.length = n + 1) (hn : n ≤ 3)
    (call : ∀ (g : Heap) (news' : List (Addr × Obj)) (v : Value) (X : Num) (ys : List Value) (I : Addr) (oI : Obj) (C : Addr) (oC : Obj) (D : Addr) (m₂ : Str → Option Value) (h : Heap) (tk : Nat) (E' : Value → Shared → Prop), (∀ q ∈ news, q ∈ news') → RelN news' v X → Ok d X → LCg.NsObj oC m₂ → m₂ x = some v → Fr h₀ L h m →
      News h₀ L h ((I, oI) :: (C, oC) :: (D, LCg.lst ys) :: news') → wpAny (model prog w) A (eval elt (compEnvC scope cl C env)) (fun y s' => ∃ (D9 : Addr) (c e : Int) (t u : Tok) (k : Nat) (h' : Heap) (tk' : Nat), y = .ref D9 ∧ s' = { s with heap := h', toks := tk' } ∧ IsDec X.val c e ∧ Fr h₀ L h' m ∧
        News h₀ L h' ((D9, tupO c t e u k) :: (I, oI) :: (C, oC) :: (D, LCg.lst ys) :: news') ∧ AllLt D9 ((I, oI) :: (C, oC) :: (D, LCg.lst ys) :: news')) E' { s with heap := h, toks := tk })
    (hkk : kk ≤ 59)
    (fin : ∀ (g : Heap) (v0 : Value) (vs : List Value) (X0 : Num) (Xs : List Num) (news' : List (Addr × Obj)), vs.length ≤ 3 → RelN news' v0 X0 → RelAll news' vs Xs → Okk d kk X0 → (∀ X ∈ Xs, Okk d kk X) → X0.isDec → (∀ X ∈ Xs, X.isDec) → (∀ q ∈ news, q ∈ news') → Fin { s with heap := g } (v0 :: vs) news') :
    LCg.CompSrc prog w A h₀ L m env elt x scope cl Fin (.ref ax) s := by
  refine LCg.CompSrc.ledger (k := nn) hh F N hm (by rw [List.size_toArray, sizeLine_eq]; omega) fun g => ?_
  refine rest_decs (nn := nn) (kk := kk) hR hZ hm (fun news' v X ys I oI C oC D m₂ h tk E' hs hRX hX hC hx F' N' => call g news' v X ys I oI C oC D m₂ h tk E' hs hRX ⟨hX.fix, ?_⟩ hC hx F' N') ?_
  · unfold Sm'
    exact Nat.le_trans hX.sm (Nat.pow_le_pow_right (by decide) hkk)
  · intro ys Xs news' hl' hR' hX hs
    cases hR' with
    | nil => simp at hl'; omega
    | cons hv hvs => exact fin g _ _ _ _ news' (by simp at hl'; omega) hv hvs (hX _ (.head _)).1 (fun X hx => (hX X (.tail _ hx)).1) (hX _ (.head _)).2 (fun X hx => (hX X (.tail _ hx)).2) hs
section
local macro_rules | `(tactic| walk_at "CompSrc") => `(tactic| (refine pause ?_))
local macro_rules | `(tactic| walk_at "Exists") => `(tactic| (refine pause ?_))
local macro_rules | `(tactic| walk_at "eval ListComp") => `(tactic| (k_here; k_dflt (refine LCg.ListComp_U (F₀ := by k_asm) (by with_unfolding_all rfl) (by decide) (by rfl) (by decide) (by rfl) ?_); k_dflt lcg_toSrc))
set_option maxRecDepth 100000 in
set_option maxHeartbeats 8000000 in
theorem law_holds : PySem.Challenge.rw_sm0003_01.Holds := hd (by
  k_go0
  (all_goals try k_fold)
  k_steps
  repeat' (unfold Paused; (first | ((with_reducible show wpAny _ _ (PySem.call (Value.ref 220) _) _ _ _); k_dflt (refine' can_pick _ _ _ _ _ _ _ _ _ _ _ _ _ _ _ ?p0 ?p1 ?p2 ?p3 ?p4 ?p5 _ _ _ _ _ _ _ _ _ _ _ _ _ _ _ _ _ ?k1 ?k2 ?k3 ?k4 ?k5 ?kK ?kd ?ku ?_; (case k1 => k_asm); (case k2 => k_asm); (case k3 => k_asm); (case k4 => first | k_asm | exact news_drop2 (by k_asm)); (case k5 => k_asm); (case kK => first | exact rfl | assumption); (case p0 => k_mem); (case p1 => assumption); (case p2 => omega); (case p3 => omega); (case p4 => omega); (case p5 => first | assumption | k_all); (case kd => first | exact room hdp (by decide) | ((try simp only [depth_under_make, depth_under_kw, depth_in1, depth_deeper, depth_caller]); (try dsimp only [ktrTop]); omega) | ktr_room); (case ku => first | exact room hun (by decide) | ((try simp only [units_in1, units_deeper, Around.mark_units, units_caller]); (try dsimp only [ktrTop]); omega) | ktr_units)); intro k9 t9 u9 c9 h9 tk9 g9 l9 F9 N9; (try dsimp only); (try k_fold)) | ((with_reducible show wpAny _ _ (PySem.call (Value.ref 227) _) _ _ _); k_dflt (refine' can_number _ _ _ _ _ _ _ _ _ _ _ _ _ _ _ ?p0 ?p1 ?p2 ?p3 ?p4 ?p5 _ _ _ _ _ _ _ _ _ _ _ _ _ _ _ _ _ ?k1 ?k2 ?k3 ?k4 ?k5 ?kK ?kd ?ku ?_; (case k1 => k_asm); (case k2 => k_asm); (case k3 => k_asm); (case k4 => k_asm); (case k5 => k_asm); (case kK => first | exact rfl | assumption); (case p0 => k_mem); (case p1 => assumption); (case p2 => omega); (case p3 => omega); (case p4 => omega); (case p5 => assumption); (case kd => first | exact room hdp (by decide) | ((try simp only [depth_under_make, depth_under_kw, depth_in1, depth_deeper, depth_caller]); (try dsimp only [ktrTop]); omega) | ktr_room); (case ku => first | exact room hun (by decide) | ((try simp only [units_in1, units_deeper, Around.mark_units, units_caller]); (try dsimp only [ktrTop]); omega) | ktr_units)); intro r9 X9 tl9 p9 u9 c9 h9 tk9 K9 R9 F9 N9 pp9 l9; (try dsimp only); (try k_fold)) | ((with_reducible show wpAny _ _ (PySem.call (Value.ref 260) _) _ _ _); k_dflt (refine' can_led _ _ _ _ _ _ _ _ _ _ _ _ _ _ _ ?p0 ?p1 ?p2 ?p3 ?p4 ?p5 ?p6 ?p7 ?p8 ?p9 _ _ _ _ _ _ _ _ _ _ _ _ _ _ _ _ _ ?k1 ?k2 ?k3 ?k4 ?k5 ?kK ?kd ?ku ?_; (case k1 => k_asm); (case k2 => k_asm); (case k3 => k_asm); (case k4 => k_asm); (case k5 => k_asm); (case kK => first | exact rfl | assumption); (case p0 => k_mem); (case p1 => first | with_reducible assumption | (refine' RelN.mono ?r1 ?r2; (case r1 => with_reducible assumption); (case r2 => (repeat' (first | (with_reducible exact fun _ h => h) | (with_reducible exact fun _ h => List.mem_append_left _ h) | (with_reducible refine List.forall_mem_cons.mpr (And.intro ?_ ?_)) | (with_reducible refine List.forall_mem_append.mpr (And.intro ?_ ?_)) | (with_reducible refine sub_cons ?_) | (with_reducible refine sub_appR ?_) | k_mem))))); (case p2 => (refine' RelAll.mono ?ra ?rb; (case ra => with_reducible assumption); (case rb => (repeat' (first | (with_reducible exact fun _ h => h) | (with_reducible exact fun _ h => List.mem_append_left _ h) | (with_reducible refine List.forall_mem_cons.mpr (And.intro ?_ ?_)) | (with_reducible refine List.forall_mem_append.mpr (And.intro ?_ ?_)) | (with_reducible refine sub_cons ?_) | (with_reducible refine sub_appR ?_) | k_mem))))); (case p3 => assumption); (case p4 => assumption); (case p5 => assumption); (case p6 => omega); (case p7 => omega); (case p8 => first | (intro _; with_reducible assumption) | (intro hq; cases hq)); (case p9 => first | (intro _; with_reducible assumption) | (intro hq; cases hq)); (case kd => first | exact room hdp (by decide) | ((try simp only [depth_under_make, depth_under_kw, depth_in1, depth_deeper, depth_caller]); (try dsimp only [ktrTop]); omega) | ktr_room); (case ku => first | exact room hun (by decide) | ((try simp only [units_in1, units_deeper, Around.mark_units, units_caller]); (try dsimp only [ktrTop]); omega) | ktr_units)); intro D9 rs9 Zs9 c9 all9 h9 tk9 m9 R9 Z9 n9 F9 N9 s9; (refine pause ?_); (try dsimp only); (try k_fold)) | ((with_reducible show wpAny _ _ (PySem.call (Value.ref 86) _) _ _ _); k_dflt (refine' can_decimal _ _ _ _ _ _ _ _ _ ?p0 ?p1 ?p2 _ _ _ _ _ _ _ _ _ _ _ _ _ _ _ _ _ ?k1 ?k2 ?k3 ?k4 ?k5 ?kK ?kd ?ku ?_; (case k1 => k_asm); (case k2 => k_asm); (case k3 => k_asm); (case k4 => k_asm); (case k5 => k_asm); (case kK => first | exact rfl | assumption); (case p0 => first | with_reducible assumption | (refine' RelN.mono ?r1 ?r2; (case r1 => with_reducible assumption); (case r2 => (repeat' (first | (with_reducible exact fun _ h => h) | (with_reducible exact fun _ h => List.mem_append_left _ h) | (with_reducible refine List.forall_mem_cons.mpr (And.intro ?_ ?_)) | (with_reducible refine List.forall_mem_append.mpr (And.intro ?_ ?_)) | (with_reducible refine sub_cons ?_) | (with_reducible refine sub_appR ?_) | k_mem))))); (case p1 => assumption); (case p2 => omega); (case kd => first | exact room hdp (by decide) | ((try simp only [depth_under_make, depth_under_kw, depth_in1, depth_deeper, depth_caller]); (try dsimp only [ktrTop]); omega) | ktr_room); (case ku => first | exact room hun (by decide) | ((try simp only [units_in1, units_deeper, Around.mark_units, units_caller]); (try dsimp only [ktrTop]); omega) | ktr_units)); intro D9 c9 e9 t9 u9 k9 h9 tk9 P9 F9 N9 l9; (obtain ⟨P91, P92, P93, P94, P95⟩ := P9); (try simp only [AllLt, and_true] at l9); (try dsimp only); (try k_fold)) ); (try k_steps))
  unfold Paused
  rename IsRange _ _ _ _ _ _ _ _ => hRg
  rename News _ _ _ _ => kN
  rename Fr _ _ _ _ => kF
  rename IntsAre _ (List.take 20 _) => hInts
  rename (List.take 20 _).length = min 20 _ => hLen
  rename_i hkeep
  clear hkeep
  refine' src_nums rfl kF kN hRg ?h0 ?h3 ?hoff ?hp0 ?call ?fin
  case h0 => assumption
  case h3 => assumption
  case hoff => k_all
  case hp0 => decide
  case call =>
    intro g p u c rest ys I oI C oC D h tk E' hp hp' hsub hoff F N
    have e1 := hsub _ (List.Mem.head _)
    have e2 := hsub _ (List.Mem.tail _ (List.Mem.head _))
    have e3 := hsub _ (List.Mem.tail _ (List.Mem.tail _ (List.Mem.head _)))
    k_steps
    repeat' (unfold Paused; (first | ((with_reducible show wpAny _ _ (PySem.call (Value.ref 220) _) _ _ _); k_dflt (refine' can_pick _ _ _ _ _ _ _ _ _ _ _ _ _ _ _ ?p0 ?p1 ?p2 ?p3 ?p4 ?p5 _ _ _ _ _ _ _ _ _ _ _ _ _ _ _ _ _ ?k1 ?k2 ?k3 ?k4 ?k5 ?kK ?kd ?ku ?_; (case k1 => k_asm); (case k2 => k_asm); (case k3 => k_asm); (case k4 => first | k_asm | exact news_drop2 (by k_asm)); (case k5 => k_asm); (case kK => first | exact rfl | assumption); (case p0 => k_mem); (case p1 => assumption); (case p2 => omega); (case p3 => omega); (case p4 => omega); (case p5 => first | assumption | k_all); (case kd => first | exact room hdp (by decide) | ((try simp only [depth_under_make, depth_under_kw, depth_in1, depth_deeper, depth_caller]); (try dsimp only [ktrTop]); omega) | ktr_room); (case ku => first | exact room hun (by decide) | ((try simp only [units_in1, units_deeper, Around.mark_units, units_caller]); (try dsimp only [ktrTop]); omega) | ktr_units)); intro k9 t9 u9 c9 h9 tk9 g9 l9 F9 N9; (try dsimp only); (try k_fold)) | ((with_reducible show wpAny _ _ (PySem.call (Value.ref 227) _) _ _ _); k_dflt (refine' can_number _ _ _ _ _ _ _ _ _ _ _ _ _ _ _ ?p0 ?p1 ?p2 ?p3 ?p4 ?p5 _ _ _ _ _ _ _ _ _ _ _ _ _ _ _ _ _ ?k1 ?k2 ?k3 ?k4 ?k5 ?kK ?kd ?ku ?_; (case k1 => k_asm); (case k2 => k_asm); (case k3 => k_asm); (case k4 => k_asm); (case k5 => k_asm); (case kK => first | exact rfl | assumption); (case p0 => k_mem); (case p1 => assumption); (case p2 => omega); (case p3 => omega); (case p4 => omega); (case p5 => assumption); (case kd => first | exact room hdp (by decide) | ((try simp only [depth_under_make, depth_under_kw, depth_in1, depth_deeper, depth_caller]); (try dsimp only [ktrTop]); omega) | ktr_room); (case ku => first | exact room hun (by decide) | ((try simp only [units_in1, units_deeper, Around.mark_units, units_caller]); (try dsimp only [ktrTop]); omega) | ktr_units)); intro r9 X9 tl9 p9 u9 c9 h9 tk9 K9 R9 F9 N9 pp9 l9; (try dsimp only); (try k_fold)) | ((with_reducible show wpAny _ _ (PySem.call (Value.ref 260) _) _ _ _); k_dflt (refine' can_led _ _ _ _ _ _ _ _ _ _ _ _ _ _ _ ?p0 ?p1 ?p2 ?p3 ?p4 ?p5 ?p6 ?p7 ?p8 ?p9 _ _ _ _ _ _ _ _ _ _ _ _ _ _ _ _ _ ?k1 ?k2 ?k3 ?k4 ?k5 ?kK ?kd ?ku ?_; (case k1 => k_asm); (case k2 => k_asm); (case k3 => k_asm); (case k4 => k_asm); (case k5 => k_asm); (case kK => first | exact rfl | assumption); (case p0 => k_mem); (case p1 => first | with_reducible assumption | (refine' RelN.mono ?r1 ?r2; (case r1 => with_reducible assumption); (case r2 => (repeat' (first | (with_reducible exact fun _ h => h) | (with_reducible exact fun _ h => List.mem_append_left _ h) | (with_reducible refine List.forall_mem_cons.mpr (And.intro ?_ ?_)) | (with_reducible refine List.forall_mem_append.mpr (And.intro ?_ ?_)) | (with_reducible refine sub_cons ?_) | (with_reducible refine sub_appR ?_) | k_mem))))); (case p2 => (refine' RelAll.mono ?ra ?rb; (case ra => with_reducible assumption); (case rb => (repeat' (first | (with_reducible exact fun _ h => h) | (with_reducible exact fun _ h => List.mem_append_left _ h) | (with_reducible refine List.forall_mem_cons.mpr (And.intro ?_ ?_)) | (with_reducible refine List.forall_mem_append.mpr (And.intro ?_ ?_)) | (with_reducible refine sub_cons ?_) | (with_reducible refine sub_appR ?_) | k_mem))))); (case p3 => assumption); (case p4 => assumption); (case p5 => assumption); (case p6 => omega); (case p7 => omega); (case p8 => first | (intro _; with_reducible assumption) | (intro hq; cases hq)); (case p9 => first | (intro _; with_reducible assumption) | (intro hq; cases hq)); (case kd => first | exact room hdp (by decide) | ((try simp only [depth_under_make, depth_under_kw, depth_in1, depth_deeper, depth_caller]); (try dsimp only [ktrTop]); omega) | ktr_room); (case ku => first | exact room hun (by decide) | ((try simp only [units_in1, units_deeper, Around.mark_units, units_caller]); (try dsimp only [ktrTop]); omega) | ktr_units)); intro D9 rs9 Zs9 c9 all9 h9 tk9 m9 R9 Z9 n9 F9 N9 s9; (refine pause ?_); (try dsimp only); (try k_fold)) | ((with_reducible show wpAny _ _ (PySem.call (Value.ref 86) _) _ _ _); k_dflt (refine' can_decimal _ _ _ _ _ _ _ _ _ ?p0 ?p1 ?p2 _ _ _ _ _ _ _ _ _ _ _ _ _ _ _ _ _ ?k1 ?k2 ?k3 ?k4 ?k5 ?kK ?kd ?ku ?_; (case k1 => k_asm); (case k2 => k_asm); (case k3 => k_asm); (case k4 => k_asm); (case k5 => k_asm); (case kK => first | exact rfl | assumption); (case p0 => first | with_reducible assumption | (refine' RelN.mono ?r1 ?r2; (case r1 => with_reducible assumption); (case r2 => (repeat' (first | (with_reducible exact fun _ h => h) | (with_reducible exact fun _ h => List.mem_append_left _ h) | (with_reducible refine List.forall_mem_cons.mpr (And.intro ?_ ?_)) | (with_reducible refine List.forall_mem_append.mpr (And.intro ?_ ?_)) | (with_reducible refine sub_cons ?_) | (with_reducible refine sub_appR ?_) | k_mem))))); (case p1 => assumption); (case p2 => omega); (case kd => first | exact room hdp (by decide) | ((try simp only [depth_under_make, depth_under_kw, depth_in1, depth_deeper, depth_caller]); (try dsimp only [ktrTop]); omega) | ktr_room); (case ku => first | exact room hun (by decide) | ((try simp only [units_in1, units_deeper, Around.mark_units, units_caller]); (try dsimp only [ktrTop]); omega) | ktr_units)); intro D9 c9 e9 t9 u9 k9 h9 tk9 P9 F9 N9 l9; (obtain ⟨P91, P92, P93, P94, P95⟩ := P9); (try simp only [AllLt, and_true] at l9); (try dsimp only); (try k_fold)) ); (try k_steps))
    unfold Paused
    refine' ⟨_, _, _, _, _, _, _, rfl, ?a1, ?a2, ?a3, ?a4, ?a5, ?a6⟩
    case a1 => with_reducible assumption
    case a2 => with_reducible assumption
    case a3 => k_asm
    case a4 => assumption
    case a5 => assumption
    case a6 => assumption
  case fin =>
    intro g v0 vs X0 Xs p u c rest hlen hR0 hRs hX0 hXs hsub
    have e1 := hsub _ (List.Mem.head _)
    have e2 := hsub _ (List.Mem.tail _ (List.Mem.head _))
    have e3 := hsub _ (List.Mem.tail _ (List.Mem.tail _ (List.Mem.head _)))
    unfold LCg.FinE
    intro D' h' tk' F' N' o1'
    (try dsimp only)
    k_steps
    repeat' (unfold Paused; (first | ((with_reducible show wpAny _ _ (PySem.call (Value.ref 220) _) _ _ _); k_dflt (refine' can_pick _ _ _ _ _ _ _ _ _ _ _ _ _ _ _ ?p0 ?p1 ?p2 ?p3 ?p4 ?p5 _ _ _ _ _ _ _ _ _ _ _ _ _ _ _ _ _ ?k1 ?k2 ?k3 ?k4 ?k5 ?kK ?kd ?ku ?_; (case k1 => k_asm); (case k2 => k_asm); (case k3 => k_asm); (case k4 => first | k_asm | exact news_drop2 (by k_asm)); (case k5 => k_asm); (case kK => first | exact rfl | assumption); (case p0 => k_mem); (case p1 => assumption); (case p2 => omega); (case p3 => omega); (case p4 => omega); (case p5 => first | assumption | k_all); (case kd => first | exact room hdp (by decide) | ((try simp only [depth_under_make, depth_under_kw, depth_in1, depth_deeper, depth_caller]); (try dsimp only [ktrTop]); omega) | ktr_room); (case ku => first | exact room hun (by decide) | ((try simp only [units_in1, units_deeper, Around.mark_units, units_caller]); (try dsimp only [ktrTop]); omega) | ktr_units)); intro k9 t9 u9 c9 h9 tk9 g9 l9 F9 N9; (try dsimp only); (try k_fold)) | ((with_reducible show wpAny _ _ (PySem.call (Value.ref 227) _) _ _ _); k_dflt (refine' can_number _ _ _ _ _ _ _ _ _ _ _ _ _ _ _ ?p0 ?p1 ?p2 ?p3 ?p4 ?p5 _ _ _ _ _ _ _ _ _ _ _ _ _ _ _ _ _ ?k1 ?k2 ?k3 ?k4 ?k5 ?kK ?kd ?ku ?_; (case k1 => k_asm); (case k2 => k_asm); (case k3 => k_asm); (case k4 => k_asm); (case k5 => k_asm); (case kK => first | exact rfl | assumption); (case p0 => k_mem); (case p1 => assumption); (case p2 => omega); (case p3 => omega); (case p4 => omega); (case p5 => assumption); (case kd => first | exact room hdp (by decide) | ((try simp only [depth_under_make, depth_under_kw, depth_in1, depth_deeper, depth_caller]); (try dsimp only [ktrTop]); omega) | ktr_room); (case ku => first | exact room hun (by decide) | ((try simp only [units_in1, units_deeper, Around.mark_units, units_caller]); (try dsimp only [ktrTop]); omega) | ktr_units)); intro r9 X9 tl9 p9 u9 c9 h9 tk9 K9 R9 F9 N9 pp9 l9; (try dsimp only); (try k_fold)) | ((with_reducible show wpAny _ _ (PySem.call (Value.ref 260) _) _ _ _); k_dflt (refine' can_led _ _ _ _ _ _ _ _ _ _ _ _ _ _ _ ?p0 ?p1 ?p2 ?p3 ?p4 ?p5 ?p6 ?p7 ?p8 ?p9 _ _ _ _ _ _ _ _ _ _ _ _ _ _ _ _ _ ?k1 ?k2 ?k3 ?k4 ?k5 ?kK ?kd ?ku ?_; (case k1 => k_asm); (case k2 => k_asm); (case k3 => k_asm); (case k4 => k_asm); (case k5 => k_asm); (case kK => first | exact rfl | assumption); (case p0 => k_mem); (case p1 => first | with_reducible assumption | (refine' RelN.mono ?r1 ?r2; (case r1 => with_reducible assumption); (case r2 => (repeat' (first | (with_reducible exact fun _ h => h) | (with_reducible exact fun _ h => List.mem_append_left _ h) | (with_reducible refine List.forall_mem_cons.mpr (And.intro ?_ ?_)) | (with_reducible refine List.forall_mem_append.mpr (And.intro ?_ ?_)) | (with_reducible refine sub_cons ?_) | (with_reducible refine sub_appR ?_) | k_mem))))); (case p2 => (refine' RelAll.mono ?ra ?rb; (case ra => with_reducible assumption); (case rb => (repeat' (first | (with_reducible exact fun _ h => h) | (with_reducible exact fun _ h => List.mem_append_left _ h) | (with_reducible refine List.forall_mem_cons.mpr (And.intro ?_ ?_)) | (with_reducible refine List.forall_mem_append.mpr (And.intro ?_ ?_)) | (with_reducible refine sub_cons ?_) | (with_reducible refine sub_appR ?_) | k_mem))))); (case p3 => assumption); (case p4 => assumption); (case p5 => assumption); (case p6 => omega); (case p7 => omega); (case p8 => first | (intro _; with_reducible assumption) | (intro hq; cases hq)); (case p9 => first | (intro _; with_reducible assumption) | (intro hq; cases hq)); (case kd => first | exact room hdp (by decide) | ((try simp only [depth_under_make, depth_under_kw, depth_in1, depth_deeper, depth_caller]); (try dsimp only [ktrTop]); omega) | ktr_room); (case ku => first | exact room hun (by decide) | ((try simp only [units_in1, units_deeper, Around.mark_units, units_caller]); (try dsimp only [ktrTop]); omega) | ktr_units)); intro D9 rs9 Zs9 c9 all9 h9 tk9 m9 R9 Z9 n9 F9 N9 s9; (refine pause ?_); (try dsimp only); (try k_fold)) | ((with_reducible show wpAny _ _ (PySem.call (Value.ref 86) _) _ _ _); k_dflt (refine' can_decimal _ _ _ _ _ _ _ _ _ ?p0 ?p1 ?p2 _ _ _ _ _ _ _ _ _ _ _ _ _ _ _ _ _ ?k1 ?k2 ?k3 ?k4 ?k5 ?kK ?kd ?ku ?_; (case k1 => k_asm); (case k2 => k_asm); (case k3 => k_asm); (case k4 => k_asm); (case k5 => k_asm); (case kK => first | exact rfl | assumption); (case p0 => first | with_reducible assumption | (refine' RelN.mono ?r1 ?r2; (case r1 => with_reducible assumption); (case r2 => (repeat' (first | (with_reducible exact fun _ h => h) | (with_reducible exact fun _ h => List.mem_append_left _ h) | (with_reducible refine List.forall_mem_cons.mpr (And.intro ?_ ?_)) | (with_reducible refine List.forall_mem_append.mpr (And.intro ?_ ?_)) | (with_reducible refine sub_cons ?_) | (with_reducible refine sub_appR ?_) | k_mem))))); (case p1 => assumption); (case p2 => omega); (case kd => first | exact room hdp (by decide) | ((try simp only [depth_under_make, depth_under_kw, depth_in1, depth_deeper, depth_caller]); (try dsimp only [ktrTop]); omega) | ktr_room); (case ku => first | exact room hun (by decide) | ((try simp only [units_in1, units_deeper, Around.mark_units, units_caller]); (try dsimp only [ktrTop]); omega) | ktr_units)); intro D9 c9 e9 t9 u9 k9 h9 tk9 P9 F9 N9 l9; (obtain ⟨P91, P92, P93, P94, P95⟩ := P9); (try simp only [AllLt, and_true] at l9); (try dsimp only); (try k_fold)) ); (try k_steps))
    unfold Paused
    have e2' := s9 _ (List.Mem.tail _ (List.Mem.tail _ e2))
    have e3' := s9 _ (List.Mem.tail _ (List.Mem.tail _ e3))
    (try dsimp only)
    k_steps
    repeat' (unfold Paused; (first | ((with_reducible show wpAny _ _ (PySem.call (Value.ref 220) _) _ _ _); k_dflt (refine' can_pick _ _ _ _ _ _ _ _ _ _ _ _ _ _ _ ?p0 ?p1 ?p2 ?p3 ?p4 ?p5 _ _ _ _ _ _ _ _ _ _ _ _ _ _ _ _ _ ?k1 ?k2 ?k3 ?k4 ?k5 ?kK ?kd ?ku ?_; (case k1 => k_asm); (case k2 => k_asm); (case k3 => k_asm); (case k4 => first | k_asm | exact news_drop2 (by k_asm)); (case k5 => k_asm); (case kK => first | exact rfl | assumption); (case p0 => k_mem); (case p1 => assumption); (case p2 => omega); (case p3 => omega); (case p4 => omega); (case p5 => first | assumption | k_all); (case kd => first | exact room hdp (by decide) | ((try simp only [depth_under_make, depth_under_kw, depth_in1, depth_deeper, depth_caller]); (try dsimp only [ktrTop]); omega) | ktr_room); (case ku => first | exact room hun (by decide) | ((try simp only [units_in1, units_deeper, Around.mark_units, units_caller]); (try dsimp only [ktrTop]); omega) | ktr_units)); intro k9 t9 u9 c9 h9 tk9 g9 l9 F9 N9; (try dsimp only); (try k_fold)) | ((with_reducible show wpAny _ _ (PySem.call (Value.ref 227) _) _ _ _); k_dflt (refine' can_number _ _ _ _ _ _ _ _ _ _ _ _ _ _ _ ?p0 ?p1 ?p2 ?p3 ?p4 ?p5 _ _ _ _ _ _ _ _ _ _ _ _ _ _ _ _ _ ?k1 ?k2 ?k3 ?k4 ?k5 ?kK ?kd ?ku ?_; (case k1 => k_asm); (case k2 => k_asm); (case k3 => k_asm); (case k4 => k_asm); (case k5 => k_asm); (case kK => first | exact rfl | assumption); (case p0 => k_mem); (case p1 => assumption); (case p2 => omega); (case p3 => omega); (case p4 => omega); (case p5 => assumption); (case kd => first | exact room hdp (by decide) | ((try simp only [depth_under_make, depth_under_kw, depth_in1, depth_deeper, depth_caller]); (try dsimp only [ktrTop]); omega) | ktr_room); (case ku => first | exact room hun (by decide) | ((try simp only [units_in1, units_deeper, Around.mark_units, units_caller]); (try dsimp only [ktrTop]); omega) | ktr_units)); intro r9 X9 tl9 p9 u9 c9 h9 tk9 K9 R9 F9 N9 pp9 l9; (try dsimp only); (try k_fold)) | ((with_reducible show wpAny _ _ (PySem.call (Value.ref 260) _) _ _ _); k_dflt (refine' can_led _ _ _ _ _ _ _ _ _ _ _ _ _ _ _ ?p0 ?p1 ?p2 ?p3 ?p4 ?p5 ?p6 ?p7 ?p8 ?p9 _ _ _ _ _ _ _ _ _ _ _ _ _ _ _ _ _ ?k1 ?k2 ?k3 ?k4 ?k5 ?kK ?kd ?ku ?_; (case k1 => k_asm); (case k2 => k_asm); (case k3 => k_asm); (case k4 => k_asm); (case k5 => k_asm); (case kK => first | exact rfl | assumption); (case p0 => k_mem); (case p1 => first | with_reducible assumption | (refine' RelN.mono ?r1 ?r2; (case r1 => with_reducible assumption); (case r2 => (repeat' (first | (with_reducible exact fun _ h => h) | (with_reducible exact fun _ h => List.mem_append_left _ h) | (with_reducible refine List.forall_mem_cons.mpr (And.intro ?_ ?_)) | (with_reducible refine List.forall_mem_append.mpr (And.intro ?_ ?_)) | (with_reducible refine sub_cons ?_) | (with_reducible refine sub_appR ?_) | k_mem))))); (case p2 => (refine' RelAll.mono ?ra ?rb; (case ra => with_reducible assumption); (case rb => (repeat' (first | (with_reducible exact fun _ h => h) | (with_reducible exact fun _ h => List.mem_append_left _ h) | (with_reducible refine List.forall_mem_cons.mpr (And.intro ?_ ?_)) | (with_reducible refine List.forall_mem_append.mpr (And.intro ?_ ?_)) | (with_reducible refine sub_cons ?_) | (with_reducible refine sub_appR ?_) | k_mem))))); (case p3 => assumption); (case p4 => assumption); (case p5 => assumption); (case p6 => omega); (case p7 => omega); (case p8 => first | (intro _; with_reducible assumption) | (intro hq; cases hq)); (case p9 => first | (intro _; with_reducible assumption) | (intro hq; cases hq)); (case kd => first | exact room hdp (by decide) | ((try simp only [depth_under_make, depth_under_kw, depth_in1, depth_deeper, depth_caller]); (try dsimp only [ktrTop]); omega) | ktr_room); (case ku => first | exact room hun (by decide) | ((try simp only [units_in1, units_deeper, Around.mark_units, units_caller]); (try dsimp only [ktrTop]); omega) | ktr_units)); intro D9 rs9 Zs9 c9 all9 h9 tk9 m9 R9 Z9 n9 F9 N9 s9; (refine pause ?_); (try dsimp only); (try k_fold)) | ((with_reducible show wpAny _ _ (PySem.call (Value.ref 86) _) _ _ _); k_dflt (refine' can_decimal _ _ _ _ _ _ _ _ _ ?p0 ?p1 ?p2 _ _ _ _ _ _ _ _ _ _ _ _ _ _ _ _ _ ?k1 ?k2 ?k3 ?k4 ?k5 ?kK ?kd ?ku ?_; (case k1 => k_asm); (case k2 => k_asm); (case k3 => k_asm); (case k4 => k_asm); (case k5 => k_asm); (case kK => first | exact rfl | assumption); (case p0 => first | with_reducible assumption | (refine' RelN.mono ?r1 ?r2; (case r1 => with_reducible assumption); (case r2 => (repeat' (first | (with_reducible exact fun _ h => h) | (with_reducible exact fun _ h => List.mem_append_left _ h) | (with_reducible refine List.forall_mem_cons.mpr (And.intro ?_ ?_)) | (with_reducible refine List.forall_mem_append.mpr (And.intro ?_ ?_)) | (with_reducible refine sub_cons ?_) | (with_reducible refine sub_appR ?_) | k_mem))))); (case p1 => assumption); (case p2 => omega); (case kd => first | exact room hdp (by decide) | ((try simp only [depth_under_make, depth_under_kw, depth_in1, depth_deeper, depth_caller]); (try dsimp only [ktrTop]); omega) | ktr_room); (case ku => first | exact room hun (by decide) | ((try simp only [units_in1, units_deeper, Around.mark_units, units_caller]); (try dsimp only [ktrTop]); omega) | ktr_units)); intro D9 c9 e9 t9 u9 k9 h9 tk9 P9 F9 N9 l9; (obtain ⟨P91, P92, P93, P94, P95⟩ := P9); (try simp only [AllLt, and_true] at l9); (try dsimp only); (try k_fold)) ); (try k_steps))
    unfold Paused
    rename News _ _ _ _ => kN2
    rename Fr _ _ _ _ => kF2
    refine' src_decs rfl kF2 kN2 R9 Z9 m9 n9 hlen ?call2 ?hkk ?fin2
    case hkk => decide
    case call2 =>
      intro g news' v X ys I oI C oC D m₂ h tk E' hsub hRX hX hC hx F N
      have e2'' := hsub _ e2'
      k_steps
      repeat' (unfold Paused; (first | ((with_reducible show wpAny _ _ (PySem.call (Value.ref 220) _) _ _ _); k_dflt (refine' can_pick _ _ _ _ _ _ _ _ _ _ _ _ _ _ _ ?p0 ?p1 ?p2 ?p3 ?p4 ?p5 _ _ _ _ _ _ _ _ _ _ _ _ _ _ _ _ _ ?k1 ?k2 ?k3 ?k4 ?k5 ?kK ?kd ?ku ?_; (case k1 => k_asm); (case k2 => k_asm); (case k3 => k_asm); (case k4 => first | k_asm | exact news_drop2 (by k_asm)); (case k5 => k_asm); (case kK => first | exact rfl | assumption); (case p0 => k_mem); (case p1 => assumption); (case p2 => omega); (case p3 => omega); (case p4 => omega); (case p5 => first | assumption | k_all); (case kd => first | exact room hdp (by decide) | ((try simp only [depth_under_make, depth_under_kw, depth_in1, depth_deeper, depth_caller]); (try dsimp only [ktrTop]); omega) | ktr_room); (case ku => first | exact room hun (by decide) | ((try simp only [units_in1, units_deeper, Around.mark_units, units_caller]); (try dsimp only [ktrTop]); omega) | ktr_units)); intro k9 t9 u9 c9 h9 tk9 g9 l9 F9 N9; (try dsimp only); (try k_fold)) | ((with_reducible show wpAny _ _ (PySem.call (Value.ref 227) _) _ _ _); k_dflt (refine' can_number _ _ _ _ _ _ _ _ _ _ _ _ _ _ _ ?p0 ?p1 ?p2 ?p3 ?p4 ?p5 _ _ _ _ _ _ _ _ _ _ _ _ _ _ _ _ _ ?k1 ?k2 ?k3 ?k4 ?k5 ?kK ?kd ?ku ?_; (case k1 => k_asm); (case k2 => k_asm); (case k3 => k_asm); (case k4 => k_asm); (case k5 => k_asm); (case kK => first | exact rfl | assumption); (case p0 => k_mem); (case p1 => assumption); (case p2 => omega); (case p3 => omega); (case p4 => omega); (case p5 => assumption); (case kd => first | exact room hdp (by decide) | ((try simp only [depth_under_make, depth_under_kw, depth_in1, depth_deeper, depth_caller]); (try dsimp only [ktrTop]); omega) | ktr_room); (case ku => first | exact room hun (by decide) | ((try simp only [units_in1, units_deeper, Around.mark_units, units_caller]); (try dsimp only [ktrTop]); omega) | ktr_units)); intro r9 X9 tl9 p9 u9 c9 h9 tk9 K9 R9 F9 N9 pp9 l9; (try dsimp only); (try k_fold)) | ((with_reducible show wpAny _ _ (PySem.call (Value.ref 260) _) _ _ _); k_dflt (refine' can_led _ _ _ _ _ _ _ _ _ _ _ _ _ _ _ ?p0 ?p1 ?p2 ?p3 ?p4 ?p5 ?p6 ?p7 ?p8 ?p9 _ _ _ _ _ _ _ _ _ _ _ _ _ _ _ _ _ ?k1 ?k2 ?k3 ?k4 ?k5 ?kK ?kd ?ku ?_; (case k1 => k_asm); (case k2 => k_asm); (case k3 => k_asm); (case k4 => k_asm); (case k5 => k_asm); (case kK => first | exact rfl | assumption); (case p0 => k_mem); (case p1 => first | with_reducible assumption | (refine' RelN.mono ?r1 ?r2; (case r1 => with_reducible assumption); (case r2 => (repeat' (first | (with_reducible exact fun _ h => h) | (with_reducible exact fun _ h => List.mem_append_left _ h) | (with_reducible refine List.forall_mem_cons.mpr (And.intro ?_ ?_)) | (with_reducible refine List.forall_mem_append.mpr (And.intro ?_ ?_)) | (with_reducible refine sub_cons ?_) | (with_reducible refine sub_appR ?_) | k_mem))))); (case p2 => (refine' RelAll.mono ?ra ?rb; (case ra => with_reducible assumption); (case rb => (repeat' (first | (with_reducible exact fun _ h => h) | (with_reducible exact fun _ h => List.mem_append_left _ h) | (with_reducible refine List.forall_mem_cons.mpr (And.intro ?_ ?_)) | (with_reducible refine List.forall_mem_append.mpr (And.intro ?_ ?_)) | (with_reducible refine sub_cons ?_) | (with_reducible refine sub_appR ?_) | k_mem))))); (case p3 => assumption); (case p4 => assumption); (case p5 => assumption); (case p6 => omega); (case p7 => omega); (case p8 => first | (intro _; with_reducible assumption) | (intro hq; cases hq)); (case p9 => first | (intro _; with_reducible assumption) | (intro hq; cases hq)); (case kd => first | exact room hdp (by decide) | ((try simp only [depth_under_make, depth_under_kw, depth_in1, depth_deeper, depth_caller]); (try dsimp only [ktrTop]); omega) | ktr_room); (case ku => first | exact room hun (by decide) | ((try simp only [units_in1, units_deeper, Around.mark_units, units_caller]); (try dsimp only [ktrTop]); omega) | ktr_units)); intro D9 rs9 Zs9 c9 all9 h9 tk9 m9 R9 Z9 n9 F9 N9 s9; (refine pause ?_); (try dsimp only); (try k_fold)) | ((with_reducible show wpAny _ _ (PySem.call (Value.ref 86) _) _ _ _); k_dflt (refine' can_decimal _ _ _ _ _ _ _ _ _ ?p0 ?p1 ?p2 _ _ _ _ _ _ _ _ _ _ _ _ _ _ _ _ _ ?k1 ?k2 ?k3 ?k4 ?k5 ?kK ?kd ?ku ?_; (case k1 => k_asm); (case k2 => k_asm); (case k3 => k_asm); (case k4 => k_asm); (case k5 => k_asm); (case kK => first | exact rfl | assumption); (case p0 => first | with_reducible assumption | (refine' RelN.mono ?r1 ?r2; (case r1 => with_reducible assumption); (case r2 => (repeat' (first | (with_reducible exact fun _ h => h) | (with_reducible exact fun _ h => List.mem_append_left _ h) | (with_reducible refine List.forall_mem_cons.mpr (And.intro ?_ ?_)) | (with_reducible refine List.forall_mem_append.mpr (And.intro ?_ ?_)) | (with_reducible refine sub_cons ?_) | (with_reducible refine sub_appR ?_) | k_mem))))); (case p1 => assumption); (case p2 => omega); (case kd => first | exact room hdp (by decide) | ((try simp only [depth_under_make, depth_under_kw, depth_in1, depth_deeper, depth_caller]); (try dsimp only [ktrTop]); omega) | ktr_room); (case ku => first | exact room hun (by decide) | ((try simp only [units_in1, units_deeper, Around.mark_units, units_caller]); (try dsimp only [ktrTop]); omega) | ktr_units)); intro D9 c9 e9 t9 u9 k9 h9 tk9 P9 F9 N9 l9; (obtain ⟨P91, P92, P93, P94, P95⟩ := P9); (try simp only [AllLt, and_true] at l9); (try dsimp only); (try k_fold)) ); (try k_steps))
      unfold Paused
      refine' ⟨_, _, _, _, _, _, _, _, rfl, rfl, ?b1, ?b2, ?b3, ?b4⟩
      case b1 => with_reducible assumption
      case b2 => k_asm
      case b3 => assumption
      case b4 => first | assumption | exact allLt_of (by assumption) | tbn_find | kcu_lt
    case fin2 =>
      intro g v0 vs X0 Xs news' hlen hR0 hRs hX0 hXs hI0 hIs hsub
      have e2'' := hsub _ e2'
      have e3'' := hsub _ e3'
      unfold LCg.FinE
      intro D' h' tk' F' N' o1'
      (try dsimp only)
      k_steps
      repeat' (unfold Paused; (first | ((with_reducible show wpAny _ _ (PySem.call (Value.ref 220) _) _ _ _); k_dflt (refine' can_pick _ _ _ _ _ _ _ _ _ _ _ _ _ _ _ ?p0 ?p1 ?p2 ?p3 ?p4 ?p5 _ _ _ _ _ _ _ _ _ _ _ _ _ _ _ _ _ ?k1 ?k2 ?k3 ?k4 ?k5 ?kK ?kd ?ku ?_; (case k1 => k_asm); (case k2 => k_asm); (case k3 => k_asm); (case k4 => first | k_asm | exact news_drop2 (by k_asm)); (case k5 => k_asm); (case kK => first | exact rfl | assumption); (case p0 => k_mem); (case p1 => assumption); (case p2 => omega); (case p3 => omega); (case p4 => omega); (case p5 => first | assumption | k_all); (case kd => first | exact room hdp (by decide) | ((try simp only [depth_under_make, depth_under_kw, depth_in1, depth_deeper, depth_caller]); (try dsimp only [ktrTop]); omega) | ktr_room); (case ku => first | exact room hun (by decide) | ((try simp only [units_in1, units_deeper, Around.mark_units, units_caller]); (try dsimp only [ktrTop]); omega) | ktr_units)); intro k9 t9 u9 c9 h9 tk9 g9 l9 F9 N9; (try dsimp only); (try k_fold)) | ((with_reducible show wpAny _ _ (PySem.call (Value.ref 227) _) _ _ _); k_dflt (refine' can_number _ _ _ _ _ _ _ _ _ _ _ _ _ _ _ ?p0 ?p1 ?p2 ?p3 ?p4 ?p5 _ _ _ _ _ _ _ _ _ _ _ _ _ _ _ _ _ ?k1 ?k2 ?k3 ?k4 ?k5 ?kK ?kd ?ku ?_; (case k1 => k_asm); (case k2 => k_asm); (case k3 => k_asm); (case k4 => k_asm); (case k5 => k_asm); (case kK => first | exact rfl | assumption); (case p0 => k_mem); (case p1 => assumption); (case p2 => omega); (case p3 => omega); (case p4 => omega); (case p5 => assumption); (case kd => first | exact room hdp (by decide) | ((try simp only [depth_under_make, depth_under_kw, depth_in1, depth_deeper, depth_caller]); (try dsimp only [ktrTop]); omega) | ktr_room); (case ku => first | exact room hun (by decide) | ((try simp only [units_in1, units_deeper, Around.mark_units, units_caller]); (try dsimp only [ktrTop]); omega) | ktr_units)); intro r9 X9 tl9 p9 u9 c9 h9 tk9 K9 R9 F9 N9 pp9 l9; (try dsimp only); (try k_fold)) | ((with_reducible show wpAny _ _ (PySem.call (Value.ref 260) _) _ _ _); k_dflt (refine' can_led _ _ _ _ _ _ _ _ _ _ _ _ _ _ _ ?p0 ?p1 ?p2 ?p3 ?p4 ?p5 ?p6 ?p7 ?p8 ?p9 _ _ _ _ _ _ _ _ _ _ _ _ _ _ _ _ _ ?k1 ?k2 ?k3 ?k4 ?k5 ?kK ?kd ?ku ?_; (case k1 => k_asm); (case k2 => k_asm); (case k3 => k_asm); (case k4 => k_asm); (case k5 => k_asm); (case kK => first | exact rfl | assumption); (case p0 => k_mem); (case p1 => first | with_reducible assumption | (refine' RelN.mono ?r1 ?r2; (case r1 => with_reducible assumption); (case r2 => (repeat' (first | (with_reducible exact fun _ h => h) | (with_reducible exact fun _ h => List.mem_append_left _ h) | (with_reducible refine List.forall_mem_cons.mpr (And.intro ?_ ?_)) | (with_reducible refine List.forall_mem_append.mpr (And.intro ?_ ?_)) | (with_reducible refine sub_cons ?_) | (with_reducible refine sub_appR ?_) | k_mem))))); (case p2 => (refine' RelAll.mono ?ra ?rb; (case ra => with_reducible assumption); (case rb => (repeat' (first | (with_reducible exact fun _ h => h) | (with_reducible exact fun _ h => List.mem_append_left _ h) | (with_reducible refine List.forall_mem_cons.mpr (And.intro ?_ ?_)) | (with_reducible refine List.forall_mem_append.mpr (And.intro ?_ ?_)) | (with_reducible refine sub_cons ?_) | (with_reducible refine sub_appR ?_) | k_mem))))); (case p3 => assumption); (case p4 => assumption); (case p5 => assumption); (case p6 => omega); (case p7 => omega); (case p8 => first | (intro _; with_reducible assumption) | (intro hq; cases hq)); (case p9 => first | (intro _; with_reducible assumption) | (intro hq; cases hq)); (case kd => first | exact room hdp (by decide) | ((try simp only [depth_under_make, depth_under_kw, depth_in1, depth_deeper, depth_caller]); (try dsimp only [ktrTop]); omega) | ktr_room); (case ku => first | exact room hun (by decide) | ((try simp only [units_in1, units_deeper, Around.mark_units, units_caller]); (try dsimp only [ktrTop]); omega) | ktr_units)); intro D9 rs9 Zs9 c9 all9 h9 tk9 m9 R9 Z9 n9 F9 N9 s9; (refine pause ?_); (try dsimp only); (try k_fold)) | ((with_reducible show wpAny _ _ (PySem.call (Value.ref 86) _) _ _ _); k_dflt (refine' can_decimal _ _ _ _ _ _ _ _ _ ?p0 ?p1 ?p2 _ _ _ _ _ _ _ _ _ _ _ _ _ _ _ _ _ ?k1 ?k2 ?k3 ?k4 ?k5 ?kK ?kd ?ku ?_; (case k1 => k_asm); (case k2 => k_asm); (case k3 => k_asm); (case k4 => k_asm); (case k5 => k_asm); (case kK => first | exact rfl | assumption); (case p0 => first | with_reducible assumption | (refine' RelN.mono ?r1 ?r2; (case r1 => with_reducible assumption); (case r2 => (repeat' (first | (with_reducible exact fun _ h => h) | (with_reducible exact fun _ h => List.mem_append_left _ h) | (with_reducible refine List.forall_mem_cons.mpr (And.intro ?_ ?_)) | (with_reducible refine List.forall_mem_append.mpr (And.intro ?_ ?_)) | (with_reducible refine sub_cons ?_) | (with_reducible refine sub_appR ?_) | k_mem))))); (case p1 => assumption); (case p2 => omega); (case kd => first | exact room hdp (by decide) | ((try simp only [depth_under_make, depth_under_kw, depth_in1, depth_deeper, depth_caller]); (try dsimp only [ktrTop]); omega) | ktr_room); (case ku => first | exact room hun (by decide) | ((try simp only [units_in1, units_deeper, Around.mark_units, units_caller]); (try dsimp only [ktrTop]); omega) | ktr_units)); intro D9 c9 e9 t9 u9 k9 h9 tk9 P9 F9 N9 l9; (obtain ⟨P91, P92, P93, P94, P95⟩ := P9); (try simp only [AllLt, and_true] at l9); (try dsimp only); (try k_fold)) ); (try k_steps))
      unfold Paused
      (try dsimp only)
      k_steps
      repeat' (unfold Paused; (first | ((with_reducible show wpAny _ _ (PySem.call (Value.ref 220) _) _ _ _); k_dflt (refine' can_pick _ _ _ _ _ _ _ _ _ _ _ _ _ _ _ ?p0 ?p1 ?p2 ?p3 ?p4 ?p5 _ _ _ _ _ _ _ _ _ _ _ _ _ _ _ _ _ ?k1 ?k2 ?k3 ?k4 ?k5 ?kK ?kd ?ku ?_; (case k1 => k_asm); (case k2 => k_asm); (case k3 => k_asm); (case k4 => first | k_asm | exact news_drop2 (by k_asm)); (case k5 => k_asm); (case kK => first | exact rfl | assumption); (case p0 => k_mem); (case p1 => assumption); (case p2 => omega); (case p3 => omega); (case p4 => omega); (case p5 => first | assumption | k_all); (case kd => first | exact room hdp (by decide) | ((try simp only [depth_under_make, depth_under_kw, depth_in1, depth_deeper, depth_caller]); (try dsimp only [ktrTop]); omega) | ktr_room); (case ku => first | exact room hun (by decide) | ((try simp only [units_in1, units_deeper, Around.mark_units, units_caller]); (try dsimp only [ktrTop]); omega) | ktr_units)); intro k9 t9 u9 c9 h9 tk9 g9 l9 F9 N9; (try dsimp only); (try k_fold)) | ((with_reducible show wpAny _ _ (PySem.call (Value.ref 227) _) _ _ _); k_dflt (refine' can_number _ _ _ _ _ _ _ _ _ _ _ _ _ _ _ ?p0 ?p1 ?p2 ?p3 ?p4 ?p5 _ _ _ _ _ _ _ _ _ _ _ _ _ _ _ _ _ ?k1 ?k2 ?k3 ?k4 ?k5 ?kK ?kd ?ku ?_; (case k1 => k_asm); (case k2 => k_asm); (case k3 => k_asm); (case k4 => k_asm); (case k5 => k_asm); (case kK => first | exact rfl | assumption); (case p0 => k_mem); (case p1 => assumption); (case p2 => omega); (case p3 => omega); (case p4 => omega); (case p5 => assumption); (case kd => first | exact room hdp (by decide) | ((try simp only [depth_under_make, depth_under_kw, depth_in1, depth_deeper, depth_caller]); (try dsimp only [ktrTop]); omega) | ktr_room); (case ku => first | exact room hun (by decide) | ((try simp only [units_in1, units_deeper, Around.mark_units, units_caller]); (try dsimp only [ktrTop]); omega) | ktr_units)); intro r9 X9 tl9 p9 u9 c9 h9 tk9 K9 R9 F9 N9 pp9 l9; (try dsimp only); (try k_fold)) | ((with_reducible show wpAny _ _ (PySem.call (Value.ref 260) _) _ _ _); k_dflt (refine' can_led _ _ _ _ _ _ _ _ _ _ _ _ _ _ _ ?p0 ?p1 ?p2 ?p3 ?p4 ?p5 ?p6 ?p7 ?p8 ?p9 _ _ _ _ _ _ _ _ _ _ _ _ _ _ _ _ _ ?k1 ?k2 ?k3 ?k4 ?k5 ?kK ?kd ?ku ?_; (case k1 => k_asm); (case k2 => k_asm); (case k3 => k_asm); (case k4 => k_asm); (case k5 => k_asm); (case kK => first | exact rfl | assumption); (case p0 => k_mem); (case p1 => first | with_reducible assumption | (refine' RelN.mono ?r1 ?r2; (case r1 => with_reducible assumption); (case r2 => (repeat' (first | (with_reducible exact fun _ h => h) | (with_reducible exact fun _ h => List.mem_append_left _ h) | (with_reducible refine List.forall_mem_cons.mpr (And.intro ?_ ?_)) | (with_reducible refine List.forall_mem_append.mpr (And.intro ?_ ?_)) | (with_reducible refine sub_cons ?_) | (with_reducible refine sub_appR ?_) | k_mem))))); (case p2 => (refine' RelAll.mono ?ra ?rb; (case ra => with_reducible assumption); (case rb => (repeat' (first | (with_reducible exact fun _ h => h) | (with_reducible exact fun _ h => List.mem_append_left _ h) | (with_reducible refine List.forall_mem_cons.mpr (And.intro ?_ ?_)) | (with_reducible refine List.forall_mem_append.mpr (And.intro ?_ ?_)) | (with_reducible refine sub_cons ?_) | (with_reducible refine sub_appR ?_) | k_mem))))); (case p3 => assumption); (case p4 => assumption); (case p5 => assumption); (case p6 => omega); (case p7 => omega); (case p8 => first | (intro _; with_reducible assumption) | (intro hq; cases hq)); (case p9 => first | (intro _; with_reducible assumption) | (intro hq; cases hq)); (case kd => first | exact room hdp (by decide) | ((try simp only [depth_under_make, depth_under_kw, depth_in1, depth_deeper, depth_caller]); (try dsimp only [ktrTop]); omega) | ktr_room); (case ku => first | exact room hun (by decide) | ((try simp only [units_in1, units_deeper, Around.mark_units, units_caller]); (try dsimp only [ktrTop]); omega) | ktr_units)); intro D9 rs9 Zs9 c9 all9 h9 tk9 m9 R9 Z9 n9 F9 N9 s9; (refine pause ?_); (try dsimp only); (try k_fold)) | ((with_reducible show wpAny _ _ (PySem.call (Value.ref 86) _) _ _ _); k_dflt (refine' can_decimal _ _ _ _ _ _ _ _ _ ?p0 ?p1 ?p2 _ _ _ _ _ _ _ _ _ _ _ _ _ _ _ _ _ ?k1 ?k2 ?k3 ?k4 ?k5 ?kK ?kd ?ku ?_; (case k1 => k_asm); (case k2 => k_asm); (case k3 => k_asm); (case k4 => k_asm); (case k5 => k_asm); (case kK => first | exact rfl | assumption); (case p0 => first | with_reducible assumption | (refine' RelN.mono ?r1 ?r2; (case r1 => with_reducible assumption); (case r2 => (repeat' (first | (with_reducible exact fun _ h => h) | (with_reducible exact fun _ h => List.mem_append_left _ h) | (with_reducible refine List.forall_mem_cons.mpr (And.intro ?_ ?_)) | (with_reducible refine List.forall_mem_append.mpr (And.intro ?_ ?_)) | (with_reducible refine sub_cons ?_) | (with_reducible refine sub_appR ?_) | k_mem))))); (case p1 => assumption); (case p2 => omega); (case kd => first | exact room hdp (by decide) | ((try simp only [depth_under_make, depth_under_kw, depth_in1, depth_deeper, depth_caller]); (try dsimp only [ktrTop]); omega) | ktr_room); (case ku => first | exact room hun (by decide) | ((try simp only [units_in1, units_deeper, Around.mark_units, units_caller]); (try dsimp only [ktrTop]); omega) | ktr_units)); intro D9 c9 e9 t9 u9 k9 h9 tk9 P9 F9 N9 l9; (obtain ⟨P91, P92, P93, P94, P95⟩ := P9); (try simp only [AllLt, and_true] at l9); (try dsimp only); (try k_fold)) ); (try k_steps))
      done)
end
end Mine
theorem PySem.Challenge.cw_sm0003_01_holds : PySem.Challenge.rw_sm0003_01.Holds := by
  exact Mine.law_holds

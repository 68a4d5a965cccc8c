import PyProof.Rows.All
import Wide.All
import OpenK.AllK
import Wide.FinOn
import PySem.Challenge.RW_xm0050_01
set_option Elab.async false
set_option linter.all false
namespace Mine
section
/-- how many figures a number has -/
def figsN (n : Nat) : Nat := if h : n < 10 then 1 else figsN (n / 10) + 1
decreasing_by omega
def figs (n : Int) : Int := (figsN n.toNat : Int)

theorem figsN_pos (n : Nat) : 1 ≤ figsN n := by
  unfold figsN; split <;> omega
theorem figsN_hi (n : Nat) : n < 10 ^ figsN n := by
  induction n using Nat.strongRecOn with
  | _ n ih =>
    unfold figsN
    split
    · simpa using ‹n < 10›
    · have := ih (n / 10) (by omega)
      rw [Nat.pow_succ]
      omega
theorem figsN_lo (n : Nat) (h : 1 ≤ n) : 10 ^ (figsN n - 1) ≤ n := by
  induction n using Nat.strongRecOn with
  | _ n ih =>
    unfold figsN
    split
    · simpa using h
    · have h1 := ih (n / 10) (by omega) (by omega)
      have h2 := figsN_pos (n / 10)
      obtain ⟨k, hk⟩ : ∃ k, figsN (n / 10) = k + 1 := ⟨figsN (n / 10) - 1, by omega⟩
      rw [hk] at h1 ⊢
      simp only [Nat.add_sub_cancel] at h1 ⊢
      rw [Nat.pow_succ]
      omega
theorem pow10_lt {a b : Nat} (h : 10 ^ a < 10 ^ b) : a < b := (Nat.pow_lt_pow_iff_right (by decide)).mp h
theorem pow10_mono {a b : Nat} (h : a ≤ b) : 10 ^ a ≤ 10 ^ b := Nat.pow_le_pow_right (by decide) h
theorem pow10_pos (a : Nat) : 0 < 10 ^ a := Nat.pow_pos (by decide)
/-- the figures are known by the two powers about the number -/
theorem figsN_of {n k : Nat} (hk : 1 ≤ k) (hi : n < 10 ^ k) (lo : k = 1 ∨ 10 ^ (k - 1) ≤ n) : figsN n = k := by
  have h1 := figsN_hi n
  have h0 := figsN_pos n
  rcases lo with rfl | lo
  · unfold figsN
    rw [dif_pos (by simpa using hi)]
  · have hn : 1 ≤ n := Nat.le_trans (pow10_pos _) lo
    have h2 := figsN_lo n hn
    have a := pow10_lt (Nat.lt_of_le_of_lt lo h1)
    have b := pow10_lt (Nat.lt_of_le_of_lt h2 hi)
    omega

theorem figs_start (n : Int) : (1 : Int) ≤ 1 ∧ (10 : Int) = 10 ^ (1 : Int).toNat ∧ ((1 : Int) = 1 ∨ (10 : Int) ^ ((1 : Int) - 1).toNat ≤ n) := ⟨by decide, by decide, .inl rfl⟩
theorem figs_turn {n many bound : Int} (h : (1 : Int) ≤ many ∧ bound = 10 ^ many.toNat ∧ (many = 1 ∨ (10 : Int) ^ (many - 1).toNat ≤ n)) (hb : bound ≤ n) :
    (1 : Int) ≤ many + 1 ∧ bound * 10 = 10 ^ (many + 1).toNat ∧ (many + 1 = 1 ∨ (10 : Int) ^ (many + 1 - 1).toNat ≤ n) := by
  obtain ⟨h1, h2, _⟩ := h
  refine ⟨by omega, ?_, .inr ?_⟩
  · rw [show (many + 1).toNat = many.toNat + 1 by omega, Int.pow_succ, h2]
  · rw [show many + 1 - 1 = many by omega, ← h2]; exact hb
theorem figs_meas {n many bound : Int} (h : (1 : Int) ≤ many ∧ bound = 10 ^ many.toNat ∧ (many = 1 ∨ (10 : Int) ^ (many - 1).toNat ≤ n)) (hb : bound ≤ n) :
    (n + 1 - bound * 10).toNat < (n + 1 - bound).toNat := by
  have : (0 : Int) < 10 ^ many.toNat := Int.pow_pos (by decide)
  rw [h.2.1] at *
  omega
theorem ten_cast (k : Nat) : ((10 ^ k : Nat) : Int) = (10 : Int) ^ k := by simp
theorem figs_end {n many bound : Int} (h0 : 0 ≤ n) (h : (1 : Int) ≤ many ∧ bound = 10 ^ many.toNat ∧ (many = 1 ∨ (10 : Int) ^ (many - 1).toNat ≤ n)) (hb : ¬ bound ≤ n) : many = figs n := by
  obtain ⟨h1, h2, h3⟩ := h
  have e : figsN n.toNat = many.toNat := by
    refine figsN_of (by omega) ?_ ?_
    · have := ten_cast many.toNat
      omega
    · rcases h3 with h3 | h3
      · left; omega
      · right
        have := ten_cast (many - 1).toNat
        rw [show many.toNat - 1 = (many - 1).toNat by omega]
        omega
  unfold figs
  omega

theorem p10_ne (k : Nat) : (10 : Int) ^ k ≠ 0 := Int.ne_of_gt (Int.pow_pos (by decide))
theorem natAbs_p10 (k : Nat) : ((10 : Int) ^ k).natAbs = 10 ^ k := by
  rw [Int.natAbs_pow]; rfl
theorem log2_lt_of {x k : Nat} (h : x < 2 ^ k) (hk : 0 < k) : x.log2 < k := by
  by_cases h0 : x = 0
  · subst h0; simpa using hk
  · exact (Nat.log2_lt h0).mpr h
theorem p10_le_p2 (k : Nat) (h : k ≤ 1000) : 10 ^ k < 2 ^ 4001 := by
  have h1 : 10 ^ k ≤ 16 ^ k := Nat.pow_le_pow_left (by decide) k
  have h2 : (16 : Nat) ^ k = 2 ^ (4 * k) := by rw [show (16 : Nat) = 2 ^ 4 by decide, ← Nat.pow_mul]
  have h3 : 2 ^ (4 * k) < 2 ^ 4001 := Nat.pow_lt_pow_right (by decide) (by omega)
  omega
/-- a number without its last p figures, half to even -/
def rndF (n p : Int) : Int :=
  if 2 * n.fmod (10 ^ p.toNat) > 10 ^ p.toNat ∨ (2 * n.fmod (10 ^ p.toNat) = 10 ^ p.toNat ∧ (n.fdiv (10 ^ p.toNat)).fmod 2 = 1) then n.fdiv (10 ^ p.toNat) + 1 else n.fdiv (10 ^ p.toNat)

def absI (c : Int) : Int := if c < 0 then -c else c
def rndN (n p : Nat) : Nat :=
  if 2 * (n % 10 ^ p) > 10 ^ p ∨ (2 * (n % 10 ^ p) = 10 ^ p ∧ n / 10 ^ p % 2 = 1) then n / 10 ^ p + 1 else n / 10 ^ p
theorem rndF_nat (n p : Nat) : rndF n p = (rndN n p : Int) := by
  unfold rndF rndN
  have hf : ((n : Int)).fmod (10 ^ (p : Int).toNat) = ((n % 10 ^ p : Nat) : Int) := by
    rw [Int.fmod_eq_emod_of_nonneg _ (Int.le_of_lt (Int.pow_pos (by decide)))]; simp
  have hd : ((n : Int)).fdiv (10 ^ (p : Int).toNat) = ((n / 10 ^ p : Nat) : Int) := by
    rw [Int.fdiv_eq_ediv_of_nonneg _ (Int.le_of_lt (Int.pow_pos (by decide)))]; simp
  have h2 : (((n / 10 ^ p : Nat) : Int)).fmod 2 = ((n / 10 ^ p % 2 : Nat) : Int) := by
    rw [Int.fmod_eq_emod_of_nonneg _ (by decide)]; simp
  have ht : (10 : Int) ^ (p : Int).toNat = ((10 ^ p : Nat) : Int) := by simp
  rw [hf, hd, h2, ht]
  generalize n % 10 ^ p = r
  generalize n / 10 ^ p = q
  generalize 10 ^ p = u
  by_cases hc : 2 * r > u ∨ (2 * r = u ∧ q % 2 = 1)
  · rw [if_pos hc, if_pos (by omega)]; omega
  · rw [if_neg hc, if_neg (by omega)]
/-- how many noughts stand at a number's end -/
def tz (n : Nat) : Nat := if h : n = 0 ∨ n % 10 ≠ 0 then 0 else tz (n / 10) + 1
decreasing_by omega
theorem tz_of {n s k : Nat} (h : s * 10 ^ k = n) (hs : s % 10 ≠ 0) : tz n = k := by
  induction k generalizing n with
  | zero =>
    unfold tz
    rw [dif_pos]
    right
    simpa [← h] using hs
  | succ k ih =>
    have h0 : s ≠ 0 := by intro h; subst h; simp at hs
    have e : n = s * 10 ^ k * 10 := by rw [← h, Nat.pow_succ, Nat.mul_assoc]
    have hp : 0 < s * 10 ^ k := Nat.mul_pos (by omega) (pow10_pos k)
    unfold tz
    rw [dif_neg (by omega)]
    rw [ih (n := n / 10) (by omega)]
theorem tz_div (n : Nat) : n / 10 ^ tz n * 10 ^ tz n = n := by
  induction n using Nat.strongRecOn with
  | _ n ih =>
    unfold tz
    split
    · simp
    · have h := ih (n / 10) (by omega)
      rw [Nat.pow_succ, Nat.mul_comm (10 ^ tz (n / 10)) 10, ← Nat.div_div_eq_div_mul, ← Nat.mul_assoc, Nat.mul_comm (n / 10 / 10 ^ tz (n / 10)) 10, Nat.mul_assoc, h]
      omega
theorem tz_mod {n : Nat} (h : n ≠ 0) : n / 10 ^ tz n % 10 ≠ 0 := by
  induction n using Nat.strongRecOn with
  | _ n ih =>
    unfold tz
    split
    · simp; omega
    · rw [Nat.pow_succ, Nat.mul_comm (10 ^ tz (n / 10)) 10, ← Nat.div_div_eq_div_mul]
      exact ih (n / 10) (by omega) (by omega)
/-- the decimal of a plain number: at most d figures, no noughts at its end -/
def madeN (s : Nat) (e : Int) (d : Nat) : Nat × Int :=
  let s1 := if figsN s > d then rndN s (figsN s - d) else s
  let e1 := if figsN s > d then e + ((figsN s - d : Nat) : Int) else e
  if s1 = 0 then (0, 0) else (s1 / 10 ^ tz s1, e1 + (tz s1 : Int))
def madeC (c e d : Int) : Int := if c < 0 then -((madeN c.natAbs e d.toNat).1 : Int) else ((madeN c.natAbs e d.toNat).1 : Int)
def madeE (c e d : Int) : Int := (madeN c.natAbs e d.toNat).2
/-- has a number a place in so many bits? -/
def fitsB (n bits : Int) : Bool := decide (-(2 ^ (bits - 1).toNat) ≤ n) && decide (n < 2 ^ (bits - 1).toNat)
end
section
theorem figsN_le {n k : Nat} (hk : 1 ≤ k) (h : n < 10 ^ k) : figsN n ≤ k := by
  by_cases h0 : n = 0
  · subst h0; unfold figsN; simp; exact hk
  · have := figsN_lo n (by omega)
    have := pow10_lt (Nat.lt_of_le_of_lt this h)
    omega
theorem figsN_gt {n k : Nat} (h : 10 ^ k ≤ n) : k < figsN n := by
  have := figsN_hi n
  exact pow10_lt (Nat.lt_of_le_of_lt h this)
theorem figsN_div {n : Nat} (h : 10 ≤ n) : figsN (n / 10) + 1 = figsN n := by
  conv => rhs; unfold figsN
  rw [dif_neg (by omega)]
theorem rndN_le {n p d : Nat} (h : n < 10 ^ (d + p)) : rndN n p ≤ 10 ^ d := by
  have h1 : n / 10 ^ p < 10 ^ d := by
    rw [Nat.div_lt_iff_lt_mul (pow10_pos p), ← Nat.pow_add]; exact h
  unfold rndN
  split <;> omega
theorem figsN_rnd {n d : Nat} (h : d < figsN n) : figsN (rndN n (figsN n - d)) ≤ d + 1 := by
  have h1 := rndN_le (n := n) (p := figsN n - d) (d := d) (by rw [show d + (figsN n - d) = figsN n by omega]; exact figsN_hi n)
  exact figsN_le (by omega) (Nat.lt_of_le_of_lt h1 (Nat.pow_lt_pow_right (by decide) (by omega)))
theorem absI_nat (c : Int) : absI c = (c.natAbs : Int) := by unfold absI; split <;> omega
theorem figs_nat (n : Nat) : figs (n : Int) = (figsN n : Int) := by unfold figs; simp
theorem figs_pos (n : Int) : 1 ≤ figs n := by unfold figs; have := figsN_pos n.toNat; omega

/-- what made strips: a number and an exponent, ahead of the loop -/
def s1N (s d : Nat) : Nat := if figsN s > d then rndN s (figsN s - d) else s
def e1N (s : Nat) (e : Int) (d : Nat) : Int := if figsN s > d then e + ((figsN s - d : Nat) : Int) else e
theorem madeN_eq (s : Nat) (e : Int) (d : Nat) : madeN s e d = if s1N s d = 0 then (0, 0) else (s1N s d / 10 ^ tz (s1N s d), e1N s e d + (tz (s1N s d) : Int)) := rfl
theorem s1_round {c d : Int} (hd : 0 ≤ d) (h : 0 < figs (absI c) - d) : rndF (absI c) (figs (absI c) - d) = (s1N c.natAbs d.toNat : Int) := by
  rw [absI_nat, figs_nat] at *
  unfold s1N
  rw [if_pos (by omega), show (figsN c.natAbs : Int) - d = ((figsN c.natAbs - d.toNat : Nat) : Int) by omega, rndF_nat]
theorem s1_plain {c d : Int} (hd : 0 ≤ d) (h : ¬ 0 < figs (absI c) - d) : absI c = (s1N c.natAbs d.toNat : Int) := by
  rw [absI_nat, figs_nat] at *
  unfold s1N
  rw [if_neg (by omega)]
theorem e1_round {c e d : Int} (hd : 0 ≤ d) (h : 0 < figs (absI c) - d) : e + (figs (absI c) - d) = e1N c.natAbs e d.toNat := by
  rw [absI_nat, figs_nat] at *
  unfold e1N
  rw [if_pos (by omega)]
  omega
theorem e1_plain {c e d : Int} (hd : 0 ≤ d) (h : ¬ 0 < figs (absI c) - d) : e = e1N c.natAbs e d.toNat := by
  rw [absI_nat, figs_nat] at *
  unfold e1N
  rw [if_neg (by omega)]

structure Strip (s0 : Nat) (e0 s x : Int) : Prop where
  pos : 0 < s
  ex : ∃ k : Nat, s * 10 ^ k = (s0 : Int) ∧ x = e0 + (k : Int)

def MadeInv (c e d s x : Int) : Prop := Strip (s1N c.natAbs d.toNat) (e1N c.natAbs e d.toNat) s x
theorem figs_rise {s : Int} (hp : 0 < s) (hm : s.fmod 10 = 0) : figs (s.fdiv 10) + 1 = figs s ∧ 0 < s.fdiv 10 ∧ s.fdiv 10 * 10 = s := by
  rw [Int.fmod_eq_emod_of_nonneg _ (by decide)] at hm
  rw [Int.fdiv_eq_ediv_of_nonneg _ (by decide)]
  refine ⟨?_, by omega, by omega⟩
  have h1 : s.toNat / 10 = (s / 10).toNat := by omega
  have := figsN_div (n := s.toNat) (by omega)
  unfold figs
  rw [← h1]
  omega
theorem made_turn {c e d s x : Int} (h : MadeInv c e d s x) (hx : -46 ≤ x) (hf : x + figs s ≤ 95) (hm : s.fmod 10 = 0) :
    MadeInv c e d (s.fdiv 10) (x + 1) ∧ 1 ≤ figs (s.fdiv 10) ∧ -46 ≤ x + 1 ∧ x + 1 + figs (s.fdiv 10) ≤ 95 := by
  obtain ⟨a, b, f⟩ := figs_rise h.pos hm
  obtain ⟨k, h1, h2⟩ := h.ex
  refine ⟨⟨b, k + 1, ?_, ?_⟩, figs_pos _, by omega, by omega⟩
  · rw [← h1]
    conv => rhs; rw [← f]
    rw [Int.pow_succ, Int.mul_assoc, Int.mul_comm (10 ^ k) 10]
  · omega
theorem made_meas {s : Int} (hp : 0 < s) (hm : s.fmod 10 = 0) : (s.fdiv 10).toNat < s.toNat := by
  obtain ⟨_, b, f⟩ := figs_rise hp hm
  omega
theorem made_startA {c e d : Int} (hc : c.natAbs < 10 ^ 45) (he : -45 ≤ e ∧ e ≤ 45) (hd : 1 ≤ d ∧ d ≤ 12) (h : 0 < figs (absI c) - d) (h0 : ¬ rndF (absI c) (figs (absI c) - d) = 0) :
    MadeInv c e d (rndF (absI c) (figs (absI c) - d)) (e + (figs (absI c) - d)) ∧ 1 ≤ figs (rndF (absI c) (figs (absI c) - d)) ∧ -46 ≤ e + (figs (absI c) - d) ∧ e + (figs (absI c) - d) + figs (rndF (absI c) (figs (absI c) - d)) ≤ 95 := by
  have e1 := s1_round (by omega) h
  have e2 := e1_round (e := e) (by omega) h
  have hF := figsN_le (by decide) hc
  have hA : figs (absI c) = (figsN c.natAbs : Int) := by rw [absI_nat, figs_nat]
  refine ⟨⟨by omega, 0, by rw [e1]; simp, by rw [e2]; simp⟩, figs_pos _, by omega, ?_⟩
  have hr : figs (rndF (absI c) (figs (absI c) - d)) ≤ d + 1 := by
    rw [e1, figs_nat]
    unfold s1N
    rw [if_pos (by omega)]
    have := figsN_rnd (n := c.natAbs) (d := d.toNat) (by omega)
    omega
  omega
theorem made_startB {c e d : Int} (hc : c.natAbs < 10 ^ 45) (he : -45 ≤ e ∧ e ≤ 45) (hd : 1 ≤ d ∧ d ≤ 12) (h : ¬ 0 < figs (absI c) - d) (h0 : ¬ absI c = 0) :
    MadeInv c e d (absI c) e ∧ 1 ≤ figs (absI c) ∧ -46 ≤ e ∧ e + figs (absI c) ≤ 95 := by
  have e1 := s1_plain (by omega) h
  have e2 := e1_plain (e := e) (by omega) h
  have hF := figsN_le (by decide) hc
  have hA : figs (absI c) = (figsN c.natAbs : Int) := by rw [absI_nat, figs_nat]
  refine ⟨⟨by rw [absI_nat] at *; omega, 0, by rw [← e1]; simp, by rw [← e2]; simp⟩, figs_pos _, by omega, by omega⟩
theorem made_end {c e d s x : Int} (h : MadeInv c e d s x) (hm : ¬ s.fmod 10 = 0) : s = ((madeN c.natAbs e d.toNat).1 : Int) ∧ x = madeE c e d := by
  obtain ⟨hp, k, h1, h2⟩ := h
  rw [Int.fmod_eq_emod_of_nonneg _ (by decide)] at hm
  have h1' : s.toNat * 10 ^ k = s1N c.natAbs d.toNat := by
    have : ((s.toNat * 10 ^ k : Nat) : Int) = (s1N c.natAbs d.toNat : Int) := by
      rw [← h1, Int.natCast_mul, ten_cast, Int.toNat_of_nonneg (by omega)]
    omega
  have ht := tz_of h1' (by omega)
  have hne : s1N c.natAbs d.toNat ≠ 0 := by
    rw [← h1']
    exact Nat.ne_of_gt (Nat.mul_pos (by omega) (pow10_pos k))
  unfold madeE
  rw [madeN_eq, if_neg hne, ht]
  refine ⟨?_, by simpa using h2⟩
  show s = ((s1N c.natAbs d.toNat / 10 ^ k : Nat) : Int)
  rw [← h1', Nat.mul_div_cancel _ (pow10_pos k)]
  omega
theorem made_zero {c e d s0 : Int} (hs : s0 = (s1N c.natAbs d.toNat : Int)) (h : s0 = 0) : 0 = madeC c e d ∧ 0 = madeE c e d := by
  have : s1N c.natAbs d.toNat = 0 := by omega
  unfold madeC madeE
  rw [madeN_eq, if_pos this]
  refine ⟨?_, rfl⟩
  split <;> rfl
theorem made_sign {c e d s : Int} (h : s = ((madeN c.natAbs e d.toNat).1 : Int)) : (c < 0 → -s = madeC c e d) ∧ (¬ c < 0 → s = madeC c e d) := by
  unfold madeC
  refine ⟨fun hc => by rw [if_pos hc, h], fun hc => by rw [if_neg hc, h]⟩
theorem abs_facts {c : Int} (hc : c.natAbs < 10 ^ 45) : figs (if c < 0 then -c else c) ≤ 45 ∧ 1 ≤ figs (if c < 0 then -c else c) ∧ 0 ≤ (if c < 0 then -c else c) := by
  have hF := figsN_le (by decide) hc
  have hA : figs (absI c) = (figsN c.natAbs : Int) := by rw [absI_nat, figs_nat]
  refine ⟨?_, figs_pos _, ?_⟩
  · show figs (absI c) ≤ 45; omega
  · show 0 ≤ absI c; rw [absI_nat]; omega

def minI (a b : Int) : Int := if b < a then b else a
def addS (c e c' e' : Int) : Int := c * 10 ^ (e - minI e e').toNat + c' * 10 ^ (e' - minI e e').toNat
def wrC (w r : Int) : Int := if r = 0 then w else w * 10 + 1
def wrE (x r : Int) : Int := if r = 0 then x else x - 1
def divP (c c' d : Int) : Int := d + 2 + if figs (absI c') - figs (absI c) > 0 then figs (absI c') - figs (absI c) else 0
def divQ (c c' d : Int) : Int := wrC ((absI c * 10 ^ (divP c c' d).toNat).fdiv (absI c')) ((absI c * 10 ^ (divP c c' d).toNat).fmod (absI c'))
def divX (c e c' e' d : Int) : Int := wrE (e - e' - divP c c' d) ((absI c * 10 ^ (divP c c' d).toNat).fmod (absI c'))
theorem abs_small {c : Int} (hc : 0 < c) (h : c ≤ 1000) : figs (if c < 0 then -c else c) ≤ 4 ∧ 1 ≤ figs (if c < 0 then -c else c) ∧ 0 ≤ (if c < 0 then -c else c) ∧ (if c < 0 then -c else c).natAbs < 1000000 ∧ (if c < 0 then -c else c) ≠ 0 := by
  rw [if_neg (by omega)]
  refine ⟨?_, figs_pos _, by omega, by omega, by omega⟩
  unfold figs
  have := figsN_le (n := c.toNat) (k := 4) (by decide) (by omega)
  omega
theorem divP_le {c c' d : Int} (hc : 0 < c) (h : c ≤ 1000) (hc' : 0 < c') (h' : c' ≤ 1000) (hd : 1 ≤ d ∧ d ≤ 12) : 3 ≤ divP c c' d ∧ divP c c' d ≤ 17 := by
  obtain ⟨a1, a2, _⟩ := abs_small hc h
  obtain ⟨b1, b2, _⟩ := abs_small hc' h'
  have e1 : absI c = (if c < 0 then -c else c) := rfl
  have e2 : absI c' = (if c' < 0 then -c' else c') := rfl
  unfold divP
  rw [← e1] at a1 a2; rw [← e2] at b1 b2
  split <;> omega
theorem divQ_facts {c c' d : Int} (hc : 0 < c) (h : c ≤ 1000) (hc' : 0 < c') (h' : c' ≤ 1000) (hd : 1 ≤ d ∧ d ≤ 12) : (divQ c c' d).natAbs < 10 ^ 45 ∧ 0 ≤ divQ c c' d := by
  obtain ⟨p1, p2⟩ := divP_le hc h hc' h' hd
  have e1 : absI c = c := by unfold absI; rw [if_neg (by omega)]
  have e2 : absI c' = c' := by unfold absI; rw [if_neg (by omega)]
  have hz : (0 : Int) ≤ 10 ^ (divP c c' d).toNat := Int.le_of_lt (Int.pow_pos (by decide))
  have hp : (10 : Int) ^ (divP c c' d).toNat ≤ 10 ^ 17 := by
    have h1 : 10 ^ (divP c c' d).toNat ≤ 10 ^ 17 := pow10_mono (by omega)
    have h2 := ten_cast (divP c c' d).toNat
    omega
  have hm : c * 10 ^ (divP c c' d).toNat ≤ 1000 * 10 ^ 17 := Int.mul_le_mul h hp hz (by omega)
  have hm0 : 0 ≤ c * 10 ^ (divP c c' d).toNat := Int.mul_nonneg (by omega) hz
  have hq : (c * 10 ^ (divP c c' d).toNat).fdiv c' ≤ 1000 * 10 ^ 17 := by
    rw [Int.fdiv_eq_ediv_of_nonneg _ (by omega)]
    exact Int.le_trans (Int.ediv_le_self _ hm0) hm
  have hq0 : 0 ≤ (c * 10 ^ (divP c c' d).toNat).fdiv c' := by
    rw [Int.fdiv_eq_ediv_of_nonneg _ (by omega)]
    exact Int.ediv_nonneg hm0 (by omega)
  unfold divQ wrC
  rw [e1, e2]
  generalize (c * 10 ^ (divP c c' d).toNat).fdiv c' = q at *
  split <;> omega
theorem divX_facts {c e c' e' d : Int} (hc : 0 < c) (h : c ≤ 1000) (hc' : 0 < c') (h' : c' ≤ 1000) (he : -10 ≤ e ∧ e ≤ 10) (he' : -10 ≤ e' ∧ e' ≤ 10) (hd : 1 ≤ d ∧ d ≤ 12) : -45 ≤ divX c e c' e' d ∧ divX c e c' e' d ≤ 45 := by
  obtain ⟨p1, p2⟩ := divP_le hc h hc' h' hd
  unfold divX wrE
  split <;> omega
end
section
theorem tz_mul {s : Nat} (h : s ≠ 0) (j : Nat) : tz (s * 10 ^ j) = tz s + j := by
  refine tz_of (s := s / 10 ^ tz s) ?_ (tz_mod h)
  rw [Nat.pow_add, ← Nat.mul_assoc, tz_div]
theorem strip_mul {s : Nat} (h : s ≠ 0) (j : Nat) : s * 10 ^ j / 10 ^ tz (s * 10 ^ j) = s / 10 ^ tz s := by
  rw [tz_mul h, Nat.pow_add, Nat.mul_comm (10 ^ tz s), ← Nat.div_div_eq_div_mul, Nat.mul_div_cancel _ (pow10_pos j)]
theorem figsN_mul {s : Nat} (h : s ≠ 0) (k : Nat) : figsN (s * 10 ^ k) = figsN s + k := by
  have h1 := figsN_hi s
  have h2 := figsN_lo s (by omega)
  have h3 := figsN_pos s
  refine figsN_of (by omega) ?_ (.inr ?_)
  · rw [Nat.pow_add]; exact Nat.mul_lt_mul_of_pos_right h1 (pow10_pos k)
  · rw [show figsN s + k - 1 = (figsN s - 1) + k by omega, Nat.pow_add]; exact Nat.mul_le_mul_right _ h2
theorem rndN_shift (s p k : Nat) : rndN (s * 10 ^ k) (p + k) = rndN s p := by
  unfold rndN
  have hk := pow10_pos k
  have e1 : s * 10 ^ k % 10 ^ (p + k) = s % 10 ^ p * 10 ^ k := by rw [Nat.pow_add, Nat.mul_mod_mul_right]
  have e2 : s * 10 ^ k / 10 ^ (p + k) = s / 10 ^ p := by rw [Nat.pow_add, Nat.mul_div_mul_right _ _ hk]
  rw [e1, e2, Nat.pow_add, ← Nat.mul_assoc]
  generalize s % 10 ^ p = r
  generalize s / 10 ^ p = q
  generalize 10 ^ p = u
  have a1 : (2 * r * 10 ^ k > u * 10 ^ k) ↔ (2 * r > u) := ⟨fun h => Nat.lt_of_mul_lt_mul_right h, fun h => Nat.mul_lt_mul_of_pos_right h hk⟩
  have a2 : (2 * r * 10 ^ k = u * 10 ^ k) ↔ (2 * r = u) := ⟨fun h => Nat.eq_of_mul_eq_mul_right hk h, fun h => by rw [h]⟩
  simp only [a1, a2]
theorem rndN_exact (s j p : Nat) : rndN (s * 10 ^ (j + p)) p = s * 10 ^ j := by
  have h := rndN_shift (s * 10 ^ j) 0 p
  rw [Nat.zero_add] at h
  rw [Nat.pow_add, ← Nat.mul_assoc, h]
  unfold rndN
  simp [Nat.mod_one]
theorem rndN_zero (p : Nat) : rndN 0 p = 0 := by
  unfold rndN
  have := pow10_pos p
  rw [if_neg (by simp)]
  simp
theorem madeN_zero (e : Int) {d : Nat} (hd : 1 ≤ d) : madeN 0 e d = (0, 0) := by
  rw [madeN_eq]
  have : s1N 0 d = 0 := by unfold s1N; split
                           · exact rndN_zero _
                           · rfl
  rw [if_pos this]
/-- a plain number of few figures is only stripped -/
theorem madeN_few {s d : Nat} (e : Int) (h0 : s ≠ 0) (h : figsN s ≤ d) : madeN s e d = (s / 10 ^ tz s, e + (tz s : Int)) := by
  rw [madeN_eq]
  have h1 : s1N s d = s := by unfold s1N; rw [if_neg (by omega)]
  have h2 : e1N s e d = e := by unfold e1N; rw [if_neg (by omega)]
  rw [h1, h2, if_neg h0]
theorem madeN_shift (s k : Nat) (e : Int) {d : Nat} (hd : 1 ≤ d) : madeN (s * 10 ^ k) e d = madeN s (e + (k : Int)) d := by
  by_cases h0 : s = 0
  · subst h0; rw [Nat.zero_mul, madeN_zero _ hd, madeN_zero _ hd]
  have hs : s * 10 ^ k ≠ 0 := Nat.ne_of_gt (Nat.mul_pos (by omega) (pow10_pos k))
  have hf := figsN_mul h0 k
  by_cases h1 : figsN s ≤ d
  · rw [madeN_few _ h0 h1]
    by_cases h2 : figsN s + k ≤ d
    · rw [madeN_few _ hs (by omega), strip_mul h0, tz_mul h0]
      simp only [Prod.mk.injEq, true_and]
      omega
    · -- rounded exactly
      rw [madeN_eq]
      have a1 : s1N (s * 10 ^ k) d = s * 10 ^ (d - figsN s) := by
        unfold s1N
        rw [if_pos (by omega), hf]
        have := rndN_exact s (d - figsN s) (figsN s + k - d)
        rw [show d - figsN s + (figsN s + k - d) = k by omega] at this
        exact this
      have a2 : e1N (s * 10 ^ k) e d = e + ((figsN s + k - d : Nat) : Int) := by unfold e1N; rw [if_pos (by omega), hf]
      have hn : s * 10 ^ (d - figsN s) ≠ 0 := Nat.ne_of_gt (Nat.mul_pos (by omega) (pow10_pos _))
      rw [a1, a2, if_neg hn, strip_mul h0, tz_mul h0]
      simp only [Prod.mk.injEq, true_and]
      omega
  · rw [madeN_eq, madeN_eq]
    have a1 : s1N (s * 10 ^ k) d = s1N s d := by
      unfold s1N
      rw [if_pos (by omega), if_pos (by omega), hf, show figsN s + k - d = (figsN s - d) + k by omega, rndN_shift]
    have a2 : e1N (s * 10 ^ k) e d = e1N s (e + (k : Int)) d := by
      unfold e1N
      rw [if_pos (by omega), if_pos (by omega), hf]
      omega
    rw [a1, a2]
theorem madeN_pos {s d : Nat} {e : Int} (h : s1N s d ≠ 0) : madeN s e d = (s1N s d / 10 ^ tz (s1N s d), e1N s e d + (tz (s1N s d) : Int)) := by rw [madeN_eq, if_neg h]
theorem s1N_le (s d : Nat) (hd : 1 ≤ d) : s1N s d ≤ 10 ^ d := by
  unfold s1N
  split
  · exact rndN_le (by rw [show d + (figsN s - d) = figsN s by omega]; exact figsN_hi s)
  · have := figsN_hi s
    exact Nat.le_of_lt (Nat.lt_of_lt_of_le this (pow10_mono (by omega)))
theorem pow10_mod {d : Nat} (hd : 1 ≤ d) : 10 ^ d % 10 = 0 := by
  rw [show d = (d - 1) + 1 by omega, Nat.pow_succ]; simp
/-- the coefficient has at most d figures -/
theorem madeN_fst_lt (s : Nat) (e : Int) {d : Nat} (hd : 1 ≤ d) : (madeN s e d).1 < 10 ^ d := by
  by_cases h : s1N s d = 0
  · rw [madeN_eq, if_pos h]; exact pow10_pos d
  · rw [madeN_pos h]
    show s1N s d / 10 ^ tz (s1N s d) < 10 ^ d
    have h1 := s1N_le s d hd
    have h2 := tz_mod h
    have h3 : s1N s d / 10 ^ tz (s1N s d) ≤ s1N s d := Nat.div_le_self _ _
    have h4 := pow10_mod hd
    rcases Nat.lt_or_ge (s1N s d / 10 ^ tz (s1N s d)) (10 ^ d) with h5 | h5
    · exact h5
    · have h6 : s1N s d / 10 ^ tz (s1N s d) = 10 ^ d := by omega
      rw [h6] at h2
      exact absurd h4 h2
theorem tz_zero {c : Nat} (h : c % 10 ≠ 0) : tz c = 0 := tz_of (k := 0) (by simp) h
/-- made again, it stays -/
theorem madeN_idem (s : Nat) (e : Int) {d : Nat} (hd : 1 ≤ d) : madeN (madeN s e d).1 (madeN s e d).2 d = madeN s e d := by
  by_cases h : s1N s d = 0
  · rw [madeN_eq s, if_pos h]; exact madeN_zero 0 hd
  · have h1 := madeN_fst_lt s e hd
    rw [madeN_pos h] at h1 ⊢
    have h2 := tz_mod h
    have hne : s1N s d / 10 ^ tz (s1N s d) ≠ 0 := by intro h3; rw [h3] at h2; exact h2 rfl
    show madeN (s1N s d / 10 ^ tz (s1N s d)) (e1N s e d + (tz (s1N s d) : Int)) d = _
    rw [madeN_few _ hne (figsN_le hd h1), tz_zero h2]
    simp
theorem e1N_ge (s : Nat) (e : Int) (d : Nat) : e ≤ e1N s e d := by
  unfold e1N; split <;> omega
/-- with no exponent at first there is none below nought behind -/
theorem madeN_snd0 (s : Nat) (d : Nat) : 0 ≤ (madeN s 0 d).2 := by
  by_cases h : s1N s d = 0
  · rw [madeN_eq, if_pos h]; exact Int.le_refl 0
  · rw [madeN_pos h]
    have := e1N_ge s 0 d
    show 0 ≤ e1N s 0 d + (tz (s1N s d) : Int)
    omega
/-- the whole number that its d figures are -/
def cut (s d : Nat) : Nat := (madeN s 0 d).1 * 10 ^ (madeN s 0 d).2.toNat
theorem cut_few {s d : Nat} (h : figsN s ≤ d) (hd : 1 ≤ d) : cut s d = s := by
  unfold cut
  by_cases h0 : s = 0
  · subst h0; rw [madeN_zero 0 hd]; rfl
  · rw [madeN_few 0 h0 h]
    show s / 10 ^ tz s * 10 ^ ((0 : Int) + (tz s : Int)).toNat = s
    rw [show ((0 : Int) + (tz s : Int)).toNat = tz s by omega, tz_div]
theorem cut_made (s : Nat) {d : Nat} (hd : 1 ≤ d) : madeN (cut s d) 0 d = madeN s 0 d := by
  unfold cut
  rw [madeN_shift _ _ _ hd]
  have h := madeN_snd0 s d
  rw [show (0 : Int) + ((madeN s 0 d).2.toNat : Int) = (madeN s 0 d).2 by omega, madeN_idem s 0 hd]
theorem cut_le {s k d : Nat} (hd : 1 ≤ d) (h : s ≤ 10 ^ k) : cut s d ≤ 10 ^ k := by
  by_cases hf : figsN s ≤ d
  · rw [cut_few hf hd]; exact h
  rcases Nat.lt_or_ge s (10 ^ k) with h1 | h1
  · -- rounded
    have hk : figsN s ≤ k := by
      have h2 := figsN_pos s
      have : s ≠ 0 := by intro h0; subst h0; unfold figsN at hf; simp at hf; omega
      have h3 := figsN_lo s (by omega)
      have := pow10_lt (Nat.lt_of_le_of_lt h3 h1)
      omega
    have h4 := s1N_le s d hd
    have h5 : cut s d ≤ s1N s d * 10 ^ (figsN s - d) := by
      unfold cut
      by_cases h0 : s1N s d = 0
      · rw [madeN_eq, if_pos h0]; simp
      · rw [madeN_pos h0]
        show s1N s d / 10 ^ tz (s1N s d) * 10 ^ (e1N s 0 d + (tz (s1N s d) : Int)).toNat ≤ _
        have e1 : e1N s 0 d = ((figsN s - d : Nat) : Int) := by unfold e1N; rw [if_pos (by omega)]; omega
        rw [e1, show (((figsN s - d : Nat) : Int) + (tz (s1N s d) : Int)).toNat = tz (s1N s d) + (figsN s - d) by omega, Nat.pow_add, ← Nat.mul_assoc, tz_div]
        exact Nat.le_refl _
    have h6 : s1N s d * 10 ^ (figsN s - d) ≤ 10 ^ d * 10 ^ (figsN s - d) := Nat.mul_le_mul_right _ h4
    rw [← Nat.pow_add] at h6
    exact Nat.le_trans h5 (Nat.le_trans h6 (pow10_mono (by omega)))
  · have h2 : s = 10 ^ k := by omega
    have h3 := madeN_shift 1 k 0 hd
    rw [Nat.one_mul] at h3
    unfold cut
    rw [h2, h3, madeN_few _ (by decide) (by have : figsN 1 = 1 := by unfold figsN; simp
                                            omega)]
    have : tz 1 = 0 := tz_zero (by decide)
    rw [this]
    simp
end
section
def cutI (n : Int) : Int := if n < 0 then -(cut n.natAbs 12 : Int) else (cut n.natAbs 12 : Int)
def Good (n : Int) : Prop := cutI n = n
theorem cutI_abs (n : Int) : (cutI n).natAbs = cut n.natAbs 12 := by unfold cutI; split <;> omega
theorem cut_idem (s : Nat) : cut (cut s 12) 12 = cut s 12 := by
  have h := cut_made s (d := 12) (by decide)
  show (madeN (cut s 12) 0 12).1 * 10 ^ (madeN (cut s 12) 0 12).2.toNat = cut s 12
  rw [h]; rfl
theorem cut_pos_sign {n : Int} (h : cutI n < 0) : n < 0 := by unfold cutI at h; split at h <;> omega
theorem cutI_good (n : Int) : Good (cutI n) := by
  have h1 := cutI_abs n
  have h2 := cut_idem n.natAbs
  show (if cutI n < 0 then -(cut (cutI n).natAbs 12 : Int) else (cut (cutI n).natAbs 12 : Int)) = cutI n
  rw [h1, h2]
  split <;> omega
theorem madeC_cut (n : Int) : madeC (cutI n) 0 12 = madeC n 0 12 := by
  unfold madeC
  rw [cutI_abs, show (12 : Int).toNat = 12 by rfl, cut_made n.natAbs (d := 12) (by decide)]
  by_cases h : n < 0
  · rw [if_pos h]
    by_cases h2 : cutI n < 0
    · rw [if_pos h2]
    · rw [if_neg h2]
      have : cut n.natAbs 12 = 0 := by unfold cutI at h2; rw [if_pos h] at h2; omega
      unfold cut at this
      have h3 : (madeN n.natAbs 0 12).1 = 0 := by
        rcases Nat.mul_eq_zero.mp this with h4 | h4
        · exact h4
        · exact absurd h4 (Nat.ne_of_gt (pow10_pos _))
      rw [h3]; rfl
  · rw [if_neg h, if_neg (fun h2 => h (cut_pos_sign h2))]
theorem madeE_cut (n : Int) : madeE (cutI n) 0 12 = madeE n 0 12 := by
  unfold madeE
  rw [cutI_abs, show (12 : Int).toNat = 12 by rfl, cut_made n.natAbs (d := 12) (by decide)]
theorem madeE_nn (n : Int) : 0 ≤ madeE n 0 12 := madeN_snd0 _ _
theorem made_value (n : Int) : madeC n 0 12 * 10 ^ (madeE n 0 12).toNat = cutI n := by
  unfold madeC cutI madeE
  rw [show (12 : Int).toNat = 12 by rfl]
  have : ((cut n.natAbs 12 : Nat) : Int) = ((madeN n.natAbs 0 12).1 : Int) * 10 ^ (madeN n.natAbs 0 12).2.toNat := by
    unfold cut
    rw [Int.natCast_mul, ten_cast]
  split
  · rw [this, Int.neg_mul]
  · rw [this]
theorem madeC_lt (c e : Int) : (madeC c e 12).natAbs < 10 ^ 12 := by
  have := madeN_fst_lt c.natAbs e (d := 12) (by decide)
  unfold madeC
  rw [show (12 : Int).toNat = 12 by rfl]
  split <;> omega
theorem madeC_idem (c e d : Int) (hd : 1 ≤ d) : madeC (madeC c e d) (madeE c e d) d = madeC c e d ∧ madeE (madeC c e d) (madeE c e d) d = madeE c e d := by
  have h1 : (madeC c e d).natAbs = (madeN c.natAbs e d.toNat).1 := by unfold madeC; split <;> omega
  have h2 := madeN_idem c.natAbs e (d := d.toNat) (by omega)
  refine ⟨?_, ?_⟩
  · show (if madeC c e d < 0 then -((madeN (madeC c e d).natAbs (madeE c e d) d.toNat).1 : Int) else ((madeN (madeC c e d).natAbs (madeE c e d) d.toNat).1 : Int)) = madeC c e d
    rw [h1]
    show (if madeC c e d < 0 then -((madeN (madeN c.natAbs e d.toNat).1 (madeN c.natAbs e d.toNat).2 d.toNat).1 : Int) else ((madeN (madeN c.natAbs e d.toNat).1 (madeN c.natAbs e d.toNat).2 d.toNat).1 : Int)) = madeC c e d
    rw [h2]
    split <;> omega
  · show (madeN (madeC c e d).natAbs (madeE c e d) d.toNat).2 = madeE c e d
    rw [h1]
    show (madeN (madeN c.natAbs e d.toNat).1 (madeN c.natAbs e d.toNat).2 d.toNat).2 = madeE c e d
    rw [h2]; rfl
theorem made_shift (c e : Int) (k : Nat) (d : Int) (hd : 1 ≤ d) : madeC (c * 10 ^ k) e d = madeC c (e + (k : Int)) d ∧ madeE (c * 10 ^ k) e d = madeE c (e + (k : Int)) d := by
  have h1 : (c * 10 ^ k).natAbs = c.natAbs * 10 ^ k := by rw [Int.natAbs_mul, natAbs_p10]
  have h2 := madeN_shift c.natAbs k e (d := d.toNat) (by omega)
  have hp : (0 : Int) < 10 ^ k := Int.pow_pos (by decide)
  have h3 : c * 10 ^ k < 0 ↔ c < 0 := by
    constructor
    · intro h
      rcases (show c < 0 ∨ 0 ≤ c by omega) with h4 | h4
      · exact h4
      · exact absurd (Int.mul_nonneg h4 (Int.le_of_lt hp)) (by omega)
    · intro h; exact Int.mul_neg_of_neg_of_pos h hp
  unfold madeC madeE
  rw [h1, h2]
  simp only [h3, and_self]
/-- a sum of figures at one exponent is the sum of the numbers -/
theorem pow_split {e m : Int} (hm : 0 ≤ m) (h : m ≤ e) (c : Int) : c * 10 ^ (e - m).toNat * 10 ^ m.toNat = c * 10 ^ e.toNat := by
  rw [Int.mul_assoc, ← Int.pow_add, show (e - m).toNat + m.toNat = e.toNat by omega]
theorem minI_le (a b : Int) : minI a b ≤ a ∧ minI a b ≤ b ∧ (minI a b = a ∨ minI a b = b) := by unfold minI; split <;> omega
theorem addS_value {c e c' e' : Int} (he : 0 ≤ e) (he' : 0 ≤ e') : addS c e c' e' * 10 ^ (minI e e').toNat = c * 10 ^ e.toNat + c' * 10 ^ e'.toNat := by
  obtain ⟨h1, h2, h3⟩ := minI_le e e'
  unfold addS
  rw [Int.add_mul, pow_split (by omega) h1, pow_split (by omega) h2]
/-- what the decimals' sum is made of is what the numbers' sum is made of -/
theorem made_whole {S X z : Int} (hX : 0 ≤ X) (h : S * 10 ^ X.toNat = z) : madeC S X 12 = madeC z 0 12 ∧ madeE S X 12 = madeE z 0 12 := by
  obtain ⟨h1, h2⟩ := made_shift S 0 X.toNat 12 (by decide)
  rw [h] at h1 h2
  rw [show (0 : Int) + ((X.toNat : Nat) : Int) = X by omega] at h1 h2
  exact ⟨h1.symm, h2.symm⟩
theorem abs_shift_le {S X z : Int} (h : S * 10 ^ X.toNat = z) : S.natAbs ≤ z.natAbs := by
  rw [← h, Int.natAbs_mul, natAbs_p10]
  exact Nat.le_mul_of_pos_right _ (pow10_pos _)
theorem madeE_le {n : Int} {k : Nat} (h : n.natAbs ≤ 10 ^ k) : madeE n 0 12 ≤ k := by
  have h1 := cut_le (d := 12) (by decide) h
  have h2 := madeN_snd0 n.natAbs 12
  unfold madeE
  rw [show (12 : Int).toNat = 12 by rfl]
  by_cases h0 : s1N n.natAbs 12 = 0
  · rw [madeN_eq, if_pos h0]; exact Int.natCast_nonneg k
  · unfold cut at h1
    have h3 : 1 ≤ (madeN n.natAbs 0 12).1 := by
      rw [madeN_pos h0]
      show 1 ≤ s1N n.natAbs 12 / 10 ^ tz (s1N n.natAbs 12)
      have := tz_mod h0
      rcases Nat.eq_zero_or_pos (s1N n.natAbs 12 / 10 ^ tz (s1N n.natAbs 12)) with h4 | h4
      · rw [h4] at this; exact absurd rfl this
      · exact h4
    have h4 : 10 ^ (madeN n.natAbs 0 12).2.toNat ≤ 10 ^ k := Nat.le_trans (by
      have := Nat.mul_le_mul_right (10 ^ (madeN n.natAbs 0 12).2.toNat) h3
      rw [Nat.one_mul] at this; exact this) h1
    have h5 : (madeN n.natAbs 0 12).2.toNat ≤ k := (Nat.pow_le_pow_iff_right (by decide)).mp h4
    omega
theorem good_small {n : Int} (h : n.natAbs < 10 ^ 12) : Good n := by
  unfold Good cutI
  rw [cut_few (figsN_le (by decide) h) (by decide)]
  split <;> omega
theorem fits_small {n bits : Int} (hb : bits ≤ 32) (h : fitsB n bits = true) : n.natAbs < 10 ^ 12 := by
  unfold fitsB at h
  rw [Bool.and_eq_true, decide_eq_true_eq, decide_eq_true_eq] at h
  have h1 : (2 : Nat) ^ (bits - 1).toNat ≤ 2 ^ 31 := Nat.pow_le_pow_right (by decide) (by omega)
  have h2 : ((2 ^ (bits - 1).toNat : Nat) : Int) = (2 : Int) ^ (bits - 1).toNat := by simp
  omega
theorem cutI_le {n : Int} {k : Nat} (h : n.natAbs ≤ 10 ^ k) : (cutI n).natAbs ≤ 10 ^ k := by
  rw [cutI_abs]; exact cut_le (by decide) h
end
section
/-- a decimal as `_law_figures` draws it -/
def FigN (c e : Int) : Prop := 0 < c ∧ c ≤ 900 ∧ -2 ≤ e ∧ e ≤ 2 ∧ c.natAbs % 10 ≠ 0 ∧ c * 10 ^ (e + 2).toNat ≤ 90000
theorem tz_le2 {n : Nat} (h0 : n ≠ 0) (h : n ≤ 900) : tz n ≤ 2 := by
  have h1 := tz_div n
  have h2 : 0 < n / 10 ^ tz n := Nat.pos_of_ne_zero fun q => by rw [q, Nat.zero_mul] at h1; exact h0 h1.symm
  have h3 : 10 ^ tz n ≤ n := by
    calc 10 ^ tz n = 1 * 10 ^ tz n := by rw [Nat.one_mul]
      _ ≤ n / 10 ^ tz n * 10 ^ tz n := Nat.mul_le_mul_right _ h2
      _ = n := h1
  have h4 : 10 ^ tz n < 10 ^ 3 := Nat.lt_of_le_of_lt h3 (by omega)
  have := pow10_lt h4
  omega
theorem fig_made {k e : Int} (hk : 1 ≤ k ∧ k ≤ 900) (he : -2 ≤ e ∧ e ≤ 0) : FigN (madeC k e 6) (madeE k e 6) := by
  have h0 : k.natAbs ≠ 0 := by omega
  have hf : figsN k.natAbs ≤ 6 := figsN_le (by decide) (by omega)
  have hm := madeN_few (d := 6) e h0 hf
  have ht := tz_le2 h0 (by omega)
  have hq := tz_mod h0
  have hp : k.natAbs / 10 ^ tz k.natAbs ≤ k.natAbs := Nat.div_le_self _ _
  have hpos : 0 < k.natAbs / 10 ^ tz k.natAbs := Nat.pos_of_ne_zero fun q => by rw [q] at hq; simp at hq
  have e1 : madeC k e 6 = ((k.natAbs / 10 ^ tz k.natAbs : Nat) : Int) := by
    unfold madeC; rw [if_neg (by omega)]; show ((madeN k.natAbs e 6).1 : Int) = _; rw [hm]
  have e2 : madeE k e 6 = e + (tz k.natAbs : Int) := by unfold madeE; show (madeN k.natAbs e 6).2 = _; rw [hm]
  rw [e1, e2]
  refine ⟨by omega, by omega, by omega, by omega, ?_, ?_⟩
  · rw [Int.natAbs_natCast]
    exact hq
  · have hdv := tz_div k.natAbs
    generalize hj : k.natAbs / 10 ^ tz k.natAbs = j at hdv
    generalize hz : tz k.natAbs = z at hdv ht
    have e3 : (e + (z : Int) + 2).toNat = z + (e + 2).toNat := by omega
    have e4 : ((j : Int)) * 10 ^ (e + (z : Int) + 2).toNat = ((j * 10 ^ z * 10 ^ (e + 2).toNat : Nat) : Int) := by
      rw [e3, Int.pow_add, Int.natCast_mul, Int.natCast_mul, ten_cast, ten_cast, Int.mul_assoc]
    rw [e4, hdv]
    have e5 : 10 ^ (e + 2).toNat ≤ 10 ^ 2 := pow10_mono (by omega)
    have e6 : k.natAbs * 10 ^ (e + 2).toNat ≤ 900 * 10 ^ 2 := Nat.mul_le_mul (by omega) e5
    omega
theorem FigN.same {c e d : Int} (h : FigN c e) (hd : 3 ≤ d) : madeC c e d = c ∧ madeE c e d = e := by
  obtain ⟨h1, h2, h3, h4, h5, _⟩ := h
  have h0 : c.natAbs ≠ 0 := by omega
  have hf : figsN c.natAbs ≤ d.toNat := Nat.le_trans (figsN_le (k := 3) (by decide) (by omega)) (by omega)
  have hm := madeN_few (d := d.toNat) e h0 hf
  rw [tz_zero h5] at hm
  unfold madeC madeE
  rw [if_neg (by omega), hm]
  simp
  omega
end
section
theorem addS_small {c e c' e' : Int} (he : -2 ≤ e) (he' : -2 ≤ e') (h : (c * 10 ^ (e + 2).toNat).natAbs ≤ 90000) (h' : (c' * 10 ^ (e' + 2).toNat).natAbs ≤ 90000) : (addS c e c' e').natAbs ≤ 180000 := by
  have hm := minI_le e e'
  have s1 := pow_split (e := e + 2) (m := minI e e' + 2) (by omega) (by omega) c
  have s2 := pow_split (e := e' + 2) (m := minI e e' + 2) (by omega) (by omega) c'
  rw [show e + 2 - (minI e e' + 2) = e - minI e e' by omega] at s1
  rw [show e' + 2 - (minI e e' + 2) = e' - minI e e' by omega] at s2
  have s3 : addS c e c' e' * 10 ^ (minI e e' + 2).toNat = c * 10 ^ (e + 2).toNat + c' * 10 ^ (e' + 2).toNat := by
    unfold addS; rw [Int.add_mul, s1, s2]
  have s4 := abs_shift_le (X := minI e e' + 2) s3
  have := Int.natAbs_add_le (c * 10 ^ (e + 2).toNat) (c' * 10 ^ (e' + 2).toNat)
  omega
/-- few figures: rounding to 6 and to 12 is one thing -/
theorem made_exact {S X : Int} (h : S.natAbs < 10 ^ 6) : madeC S X 6 = madeC S X 12 ∧ madeE S X 6 = madeE S X 12 := by
  have e : madeN S.natAbs X 6 = madeN S.natAbs X 12 := by
    by_cases h0 : S.natAbs = 0
    · rw [h0, madeN_zero X (by decide), madeN_zero X (by decide)]
    · rw [madeN_few X h0 (figsN_le (by decide) h), madeN_few X h0 (figsN_le (by decide) (Nat.lt_trans h (by decide)))]
  constructor
  · show (if S < 0 then -((madeN S.natAbs X 6).1 : Int) else ((madeN S.natAbs X 6).1 : Int)) = (if S < 0 then -((madeN S.natAbs X 12).1 : Int) else ((madeN S.natAbs X 12).1 : Int))
    rw [e]
  · show (madeN S.natAbs X 6).2 = (madeN S.natAbs X 12).2
    rw [e]
/-- rounding to the nearest leaves at most half a unit -/
theorem rnd_near (n p : Nat) : 2 * n ≤ 2 * (rndN n p * 10 ^ p) + 10 ^ p ∧ 2 * (rndN n p * 10 ^ p) ≤ 2 * n + 10 ^ p := by
  have hd := Nat.div_add_mod n (10 ^ p)
  have hl := Nat.mod_lt n (pow10_pos p)
  unfold rndN
  generalize n % 10 ^ p = r at hd hl
  generalize n / 10 ^ p = q at hd
  generalize 10 ^ p = u at hd hl
  have e : q * u = u * q := Nat.mul_comm _ _
  split
  · have e2 : (q + 1) * u = u * q + u := by rw [Nat.add_mul, Nat.one_mul, e]
    rw [e2]; omega
  · rw [e]; omega
theorem core_near {A B D : Nat} (hD : 15 ≤ D) (h1 : A < B + 10 ^ 7) (h2 : B < A + 10 ^ 7) :
    rndN A (D - 6) * 10 ^ (D - 6) < rndN B (D - 12) * 10 ^ (D - 12) + 10 ^ (D - 6) ∧ rndN B (D - 12) * 10 ^ (D - 12) < rndN A (D - 6) * 10 ^ (D - 6) + 10 ^ (D - 6) := by
  have k1 := rnd_near A (D - 6)
  have k2 := rnd_near B (D - 12)
  have e : 10 ^ (D - 6) = 10 ^ (D - 12) * 10 ^ 6 := by rw [← Nat.pow_add]; congr 1; omega
  have l : 10 ^ 9 ≤ 10 ^ (D - 6) := pow10_mono (by omega)
  generalize rndN A (D - 6) * 10 ^ (D - 6) = F at k1
  generalize rndN B (D - 12) * 10 ^ (D - 12) = G at k2
  rw [e] at l k1 ⊢
  generalize 10 ^ (D - 12) = u at *
  omega
theorem rnd_range {A D d : Nat} (hd : 1 ≤ d) (hD : d < D) (a1 : 10 ^ (D - 1) ≤ A) (a2 : A < 10 ^ D) : 10 ^ (d - 1) ≤ rndN A (D - d) ∧ rndN A (D - d) ≤ 10 ^ d := by
  constructor
  · have h : 10 ^ (d - 1) ≤ A / 10 ^ (D - d) := by
      rw [Nat.le_div_iff_mul_le (pow10_pos _), ← Nat.pow_add]
      exact Nat.le_trans (pow10_mono (by omega)) a1
    unfold rndN; split <;> omega
  · exact rndN_le (by rw [show d + (D - d) = D by omega]; exact a2)
theorem nat_fig {A B D : Nat} {Y : Int} (hD : 15 ≤ D) (a1 : 10 ^ (D - 1) ≤ A) (a2 : A < 10 ^ D) (b1 : 10 ^ (D - 1) ≤ B) (b2 : B < 10 ^ D) (h1 : A < B + 10 ^ 7) (h2 : B < A + 10 ^ 7) :
    madeN A Y 6 = madeN B Y 12 ∨ (6 < figsN (madeN B Y 12).1 ∧ (madeN B Y 12).2 < (madeN A Y 6).2 ∧ (madeN B Y 12).2 ≤ (madeN A Y 6).2 + (figsN (madeN A Y 6).1 : Int) - 6 ∧
      (madeN A Y 6).1 * 10 ^ ((madeN A Y 6).2 - (madeN B Y 12).2).toNat < (madeN B Y 12).1 + 10 ^ ((madeN A Y 6).2 + (figsN (madeN A Y 6).1 : Int) - 6 - (madeN B Y 12).2).toNat ∧
      (madeN B Y 12).1 < (madeN A Y 6).1 * 10 ^ ((madeN A Y 6).2 - (madeN B Y 12).2).toNat + 10 ^ ((madeN A Y 6).2 + (figsN (madeN A Y 6).1 : Int) - 6 - (madeN B Y 12).2).toNat) := by
  have fA : figsN A = D := figsN_of (by omega) a2 (.inr a1)
  have fB : figsN B = D := figsN_of (by omega) b2 (.inr b1)
  have hc := core_near hD h1 h2
  have r1 := rnd_range (d := 6) (by decide) (by omega) a1 a2
  have r2 := rnd_range (d := 12) (by decide) (by omega) b1 b2
  have s1 : s1N A 6 = rndN A (D - 6) := by unfold s1N; rw [fA, if_pos (by omega)]
  have s2 : s1N B 12 = rndN B (D - 12) := by unfold s1N; rw [fB, if_pos (by omega)]
  have e1 : e1N A Y 6 = Y + ((D - 6 : Nat) : Int) := by unfold e1N; rw [fA, if_pos (by omega)]
  have e2 : e1N B Y 12 = Y + ((D - 12 : Nat) : Int) := by unfold e1N; rw [fB, if_pos (by omega)]
  generalize hf : rndN A (D - 6) = f at *
  generalize hg : rndN B (D - 12) = g at *
  have p6 : (10 : Nat) ^ (6 - 1) = 100000 := by decide
  have p12 : (10 : Nat) ^ (12 - 1) = 100000000000 := by decide
  have f0 : f ≠ 0 := by omega
  have g0 : g ≠ 0 := by omega
  have m1 : madeN A Y 6 = (f / 10 ^ tz f, Y + ((D - 6 : Nat) : Int) + (tz f : Int)) := by rw [madeN_pos (by rw [s1]; exact f0), s1, e1]
  have m2 : madeN B Y 12 = (g / 10 ^ tz g, Y + ((D - 12 : Nat) : Int) + (tz g : Int)) := by rw [madeN_pos (by rw [s2]; exact g0), s2, e2]
  have df := tz_div f
  have dg := tz_div g
  by_cases ht : 6 ≤ tz g
  · left
    have e : 10 ^ tz g = 10 ^ (tz g - 6) * 10 ^ 6 := by rw [← Nat.pow_add]; congr 1; omega
    have e3 : 10 ^ (D - 6) = 10 ^ 6 * 10 ^ (D - 12) := by rw [← Nat.pow_add]; congr 1; omega
    generalize hj : g / 10 ^ tz g * 10 ^ (tz g - 6) = j
    have gj : g = j * 10 ^ 6 := by rw [← hj, Nat.mul_assoc, ← e]; exact dg.symm
    have hp := pow10_pos (D - 6)
    have c1 : f * 10 ^ (D - 6) < j * 10 ^ (D - 6) + 10 ^ (D - 6) := by have := hc.1; rw [gj, Nat.mul_assoc, ← e3] at this; exact this
    have c2 : j * 10 ^ (D - 6) < f * 10 ^ (D - 6) + 10 ^ (D - 6) := by have := hc.2; rw [gj, Nat.mul_assoc, ← e3] at this; exact this
    have q1 : f < j + 1 := Nat.lt_of_mul_lt_mul_right (a := 10 ^ (D - 6)) (by rw [Nat.add_mul, Nat.one_mul]; exact c1)
    have q2 : j < f + 1 := Nat.lt_of_mul_lt_mul_right (a := 10 ^ (D - 6)) (by rw [Nat.add_mul, Nat.one_mul]; exact c2)
    have fj : j = f := by omega
    rw [m1, m2, gj, fj, strip_mul f0, tz_mul f0]
    congr 1
    omega
  · right
    rw [m1, m2]
    dsimp only
    have gs0 : g / 10 ^ tz g ≠ 0 := fun q => by rw [q, Nat.zero_mul] at dg; exact g0 dg.symm
    have fs0 : f / 10 ^ tz f ≠ 0 := fun q => by rw [q, Nat.zero_mul] at df; exact f0 df.symm
    have lg := figsN_mul gs0 (tz g)
    have lf := figsN_mul fs0 (tz f)
    rw [dg] at lg
    rw [df] at lf
    have lg1 : 11 < figsN g := figsN_gt (by omega)
    have lf1 : 5 < figsN f := figsN_gt (by omega)
    generalize hgs : g / 10 ^ tz g = gs at *
    generalize hfs : f / 10 ^ tz f = fs at *
    generalize htg : tz g = a at *
    generalize htf : tz f = b at *
    have hw := pow10_pos (D - 12 + a)
    have x1 : fs * 10 ^ (Y + ((D - 6 : Nat) : Int) + (b : Int) - (Y + ((D - 12 : Nat) : Int) + (a : Int))).toNat * 10 ^ (D - 12 + a) = f * 10 ^ (D - 6) := by
      rw [Nat.mul_assoc, ← Nat.pow_add, ← df, Nat.mul_assoc, ← Nat.pow_add]; congr 2; omega
    have x2 : gs * 10 ^ (D - 12 + a) = g * 10 ^ (D - 12) := by rw [← dg, Nat.mul_assoc, ← Nat.pow_add]; congr 2; omega
    have x3 : 10 ^ (D - 6) ≤ 10 ^ (Y + ((D - 6 : Nat) : Int) + (b : Int) + (figsN fs : Int) - 6 - (Y + ((D - 12 : Nat) : Int) + (a : Int))).toNat * 10 ^ (D - 12 + a) := by
      rw [← Nat.pow_add]; exact pow10_mono (by omega)
    refine ⟨by omega, by omega, by omega, Nat.lt_of_mul_lt_mul_right (a := 10 ^ (D - 12 + a)) ?_, Nat.lt_of_mul_lt_mul_right (a := 10 ^ (D - 12 + a)) ?_⟩
    · rw [Nat.add_mul, x1, x2]; omega
    · rw [Nat.add_mul, x1, x2]; omega
end
section
theorem div_big {n k P : Nat} (hk : 0 < k) (hn : 0 < n) (hP : 8 + figsN k ≤ P + figsN n) : 10 ^ 7 ≤ n * 10 ^ P / k := by
  rw [Nat.le_div_iff_mul_le hk]
  have h1 := figsN_lo n hn
  have h2 := figsN_hi k
  have h3 := figsN_pos n
  calc 10 ^ 7 * k ≤ 10 ^ 7 * 10 ^ figsN k := Nat.mul_le_mul_left _ (Nat.le_of_lt h2)
    _ = 10 ^ (7 + figsN k) := by rw [← Nat.pow_add]
    _ ≤ 10 ^ (figsN n - 1 + P) := pow10_mono (by omega)
    _ = 10 ^ (figsN n - 1) * 10 ^ P := by rw [Nat.pow_add]
    _ ≤ n * 10 ^ P := Nat.mul_le_mul_right _ h1
theorem div_step {n k P : Nat} : n * 10 ^ (P + 6) / k / 10 ^ 6 = n * 10 ^ P / k := by
  rw [Nat.div_div_eq_div_mul, Nat.pow_add, ← Nat.mul_assoc, Nat.mul_div_mul_right _ _ (by decide)]
/-- the numbers that stand before rounding, on one scale -/
def scA (m r : Nat) : Nat := if r = 0 then m * 10 ^ 7 else (m * 10 + 1) * 10 ^ 6
def scB (m r : Nat) : Nat := if r = 0 then m * 10 else m * 10 + 1
theorem scA_in (m r : Nat) : m * 10000000 ≤ scA m r ∧ scA m r < m * 10000000 + 10000000 := by
  unfold scA
  rw [show (10 : Nat) ^ 7 = 10000000 from rfl, show (10 : Nat) ^ 6 = 1000000 from rfl]
  split <;> omega
theorem scB_in {m6 m12 : Nat} (r : Nat) (h1 : m6 * 1000000 ≤ m12) (h2 : m12 < m6 * 1000000 + 1000000) : m6 * 10000000 ≤ scB m12 r ∧ scB m12 r < m6 * 10000000 + 10000000 := by
  unfold scB
  split <;> omega
theorem sc_in {m6 m12 r r' : Nat} (h : m12 / 1000000 = m6) (h0 : 10000000 ≤ m6) :
    ∃ D, 15 ≤ D ∧ 10 ^ (D - 1) ≤ scA m6 r ∧ scA m6 r < 10 ^ D ∧ 10 ^ (D - 1) ≤ scB m12 r' ∧ scB m12 r' < 10 ^ D ∧ scA m6 r < scB m12 r' + 10 ^ 7 ∧ scB m12 r' < scA m6 r + 10 ^ 7 := by
  have hm : m6 * 1000000 ≤ m12 ∧ m12 < m6 * 1000000 + 1000000 := by omega
  have f1 := figsN_hi m6
  have f2 := figsN_lo m6 (by omega)
  have f3 : 7 < figsN m6 := figsN_gt (by rw [show (10 : Nat) ^ 7 = 10000000 from rfl]; exact h0)
  have lo : 10 ^ (figsN m6 + 7 - 1) = 10 ^ (figsN m6 - 1) * 10000000 := by rw [show figsN m6 + 7 - 1 = (figsN m6 - 1) + 7 by omega, Nat.pow_add]
  have hi : 10 ^ (figsN m6 + 7) = 10 ^ figsN m6 * 10000000 := by rw [Nat.pow_add]
  have a1 := scA_in m6 r
  have b1 := scB_in r' hm.1 hm.2
  refine ⟨figsN m6 + 7, by omega, ?_⟩
  rw [lo, hi, show (10 : Nat) ^ 7 = 10000000 from rfl]
  clear lo hi
  generalize 10 ^ (figsN m6 - 1) = u at *
  generalize 10 ^ figsN m6 = v at *
  generalize scA m6 r = x at *
  generalize scB m12 r' = y at *
  clear f3 hm h h0
  refine ⟨?_, ?_, ?_, ?_, ?_, ?_⟩ <;> omega
theorem divQ_nat {n k : Nat} {d e e' : Int} :
    divQ n k d = ((if n * 10 ^ (divP n k d).toNat % k = 0 then n * 10 ^ (divP n k d).toNat / k else n * 10 ^ (divP n k d).toNat / k * 10 + 1 : Nat) : Int) ∧
      divX n e k e' d = (if n * 10 ^ (divP n k d).toNat % k = 0 then e - e' - divP n k d else e - e' - divP n k d - 1) := by
  have a1 : absI (n : Int) = (n : Int) := by rw [absI_nat]; simp
  have a2 : absI (k : Int) = (k : Int) := by rw [absI_nat]; simp
  unfold divQ divX wrC wrE
  rw [a1, a2]
  have hm : (n : Int) * 10 ^ (divP n k d).toNat = ((n * 10 ^ (divP n k d).toNat : Nat) : Int) := by simp
  rw [hm, Int.fdiv_eq_ediv_of_nonneg _ (by omega), Int.fmod_eq_emod_of_nonneg _ (by omega), ← Int.natCast_ediv, ← Int.natCast_emod]
  by_cases h : n * 10 ^ (divP n k d).toNat % k = 0
  · rw [h, if_pos rfl, if_pos rfl]; simp
  · rw [if_neg (by omega), if_neg h, if_neg (by omega), if_neg h]; simp
theorem divP_6 (n k : Nat) : divP n k 12 = divP n k 6 + 6 ∧ 8 + (figsN k : Int) ≤ divP n k 6 + (figsN n : Int) ∧ 0 ≤ divP n k 6 := by
  have a1 : figs (absI (n : Int)) = (figsN n : Int) := by rw [absI_nat, figs_nat]; simp
  have a2 : figs (absI (k : Int)) = (figsN k : Int) := by rw [absI_nat, figs_nat]; simp
  unfold divP
  rw [a1, a2]
  split <;> omega
/-- what «/» gives with 6 and with 12 figures -/
def FigRel (F G : Nat × Int) : Prop := F = G ∨ (6 < figsN G.1 ∧ G.2 < F.2 ∧ G.2 ≤ F.2 + (figsN F.1 : Int) - 6 ∧
      F.1 * 10 ^ (F.2 - G.2).toNat < G.1 + 10 ^ (F.2 + (figsN F.1 : Int) - 6 - G.2).toNat ∧
      G.1 < F.1 * 10 ^ (F.2 - G.2).toNat + 10 ^ (F.2 + (figsN F.1 : Int) - 6 - G.2).toNat)
theorem fig_div {n k : Nat} (hn : 0 < n) (hk : 0 < k) (e e' : Int) :
    FigRel (madeN (divQ n k 6).natAbs (divX n e k e' 6) 6) (madeN (divQ n k 12).natAbs (divX n e k e' 12) 12) := by
  have hp := divP_6 n k
  have q6 := divQ_nat (n := n) (k := k) (d := 6) (e := e) (e' := e')
  have q12 := divQ_nat (n := n) (k := k) (d := 12) (e := e) (e' := e')
  have hP : (divP n k 12).toNat = (divP n k 6).toNat + 6 := by omega
  rw [hP] at q12
  have hbig := div_big (n := n) (k := k) (P := (divP n k 6).toNat) hk hn (by omega)
  have hstep := div_step (n := n) (k := k) (P := (divP n k 6).toNat)
  rw [q6.1, q6.2, q12.1, q12.2, Int.natAbs_natCast, Int.natAbs_natCast, hp.1]
  generalize n * 10 ^ (divP n k 6).toNat / k = N6 at *
  generalize n * 10 ^ (divP n k 6).toNat % k = R6 at *
  generalize n * 10 ^ ((divP n k 6).toNat + 6) / k = N12 at *
  generalize n * 10 ^ ((divP n k 6).toNat + 6) % k = R12 at *
  generalize divP n k 6 = p at *
  clear q6 q12 hP hp
  have t6 : madeN (if R6 = 0 then N6 else N6 * 10 + 1) (if R6 = 0 then e - e' - p else e - e' - p - 1) 6 = madeN (scA N6 R6) (e - e' - p - 7) 6 := by
    unfold scA
    by_cases h : R6 = 0
    · rw [if_pos h, if_pos h, if_pos h, madeN_shift N6 7 _ (by decide)]; congr 1; omega
    · rw [if_neg h, if_neg h, if_neg h, madeN_shift _ 6 _ (by decide)]; congr 1; omega
  have t12 : madeN (if R12 = 0 then N12 else N12 * 10 + 1) (if R12 = 0 then e - e' - (p + 6) else e - e' - (p + 6) - 1) 12 = madeN (scB N12 R12) (e - e' - p - 7) 12 := by
    unfold scB
    by_cases h : R12 = 0
    · rw [if_pos h, if_pos h, if_pos h, show N12 * 10 = N12 * 10 ^ 1 by rw [Nat.pow_one], madeN_shift N12 1 _ (by decide)]; congr 1; omega
    · rw [if_neg h, if_neg h, if_neg h]; congr 1; omega
  rw [t6, t12]
  obtain ⟨D, d0, d1, d2, d3, d4, d5, d6⟩ := sc_in (m6 := N6) (m12 := N12) (r := R6) (r' := R12) hstep hbig
  exact nat_fig d0 d1 d2 d3 d4 d5 d6
end
section
/-- what is to be rounded when two decimals are reckoned by the x-th of + - * / -/
def figS (x c e c' e' d : Int) : Int := if x = 0 then addS c e c' e' else if x = 1 then addS c e (0 - c') e' else if x = 2 then c * c' else divQ c c' d
def figX (x c e c' e' d : Int) : Int := if x = 0 then minI e e' else if x = 1 then minI e e' else if x = 2 then e + e' else divX c e c' e' d
theorem addS_fig {c e c' e' : Int} (h : c.natAbs ≤ 900) (h' : c'.natAbs ≤ 900) (he : -2 ≤ e ∧ e ≤ 2) (he' : -2 ≤ e' ∧ e' ≤ 2) : (addS c e c' e').natAbs < 10 ^ 45 := by
  have k : ∀ a b : Int, -2 ≤ a ∧ a ≤ 2 → -2 ≤ b ∧ b ≤ 2 → ∀ z : Int, z.natAbs ≤ 900 → (z * 10 ^ (a - minI a b).toNat).natAbs ≤ 900 * 10 ^ 4 := fun a b ha hb z hz => by
    rw [Int.natAbs_mul, natAbs_p10]
    refine Nat.mul_le_mul hz (pow10_mono ?_)
    have := minI_le a b
    omega
  have k1 := k e e' he he' c h
  have hs : minI e e' = minI e' e := by unfold minI; split <;> split <;> omega
  have k2 := k e' e he' he c' h'
  rw [← hs] at k2
  unfold addS
  have := Int.natAbs_add_le (c * 10 ^ (e - minI e e').toNat) (c' * 10 ^ (e' - minI e e').toNat)
  omega
theorem tz_le {s d : Nat} (h0 : s ≠ 0) (h : s ≤ 10 ^ d) : tz s ≤ d := by
  have h1 := tz_div s
  have h2 : 0 < s / 10 ^ tz s := Nat.pos_of_ne_zero fun q => by rw [q, Nat.zero_mul] at h1; exact h0 h1.symm
  have h3 : 10 ^ tz s ≤ s := by
    calc 10 ^ tz s = 1 * 10 ^ tz s := by rw [Nat.one_mul]
      _ ≤ s / 10 ^ tz s * 10 ^ tz s := Nat.mul_le_mul_right _ h2
      _ = s := h1
  exact (Nat.pow_le_pow_iff_right (by decide)).mp (Nat.le_trans h3 h)
theorem madeN_snd_in (s : Nat) (e : Int) {d : Nat} (hd : 1 ≤ d) : (madeN s e d).2 = 0 ∨ (e ≤ (madeN s e d).2 ∧ (madeN s e d).2 ≤ e + (figsN s : Int)) := by
  by_cases h : s1N s d = 0
  · left; rw [madeN_eq, if_pos h]
  · right
    rw [madeN_pos h]
    show e ≤ e1N s e d + (tz (s1N s d) : Int) ∧ e1N s e d + (tz (s1N s d) : Int) ≤ e + (figsN s : Int)
    have h1 := e1N_ge s e d
    have h2 := tz_le h (s1N_le s d hd)
    by_cases h3 : figsN s > d
    · have : e1N s e d = e + ((figsN s - d : Nat) : Int) := by unfold e1N; rw [if_pos h3]
      omega
    · have e1 : e1N s e d = e := by unfold e1N; rw [if_neg h3]
      have e2 : s1N s d = s := by unfold s1N; rw [if_neg h3]
      rw [e2] at h h2 ⊢
      have := tz_le h (Nat.le_of_lt (figsN_hi s))
      omega
theorem madeE_in {c e d : Int} (hc : c.natAbs < 10 ^ 45) (he : -45 ≤ e ∧ e ≤ 45) (hd : 1 ≤ d) : -45 ≤ madeE c e d ∧ madeE c e d ≤ 90 := by
  have h := madeN_snd_in c.natAbs e (d := d.toNat) (by omega)
  have hf := figsN_le (by decide) hc
  unfold madeE
  omega
theorem madeC_abs (c e d : Int) : (madeC c e d).natAbs = (madeN c.natAbs e d.toNat).1 := by unfold madeC; split <;> omega
/-- how what 6 figures bring stands to what 12 bring -/
structure FigR (f g f' g' : Int) : Prop where
  bf : f.natAbs < 10 ^ 6
  bf' : f'.natAbs < 10 ^ 12
  bg : -45 ≤ g ∧ g ≤ 90
  bg' : -45 ≤ g' ∧ g' ≤ 90
  le : g' ≤ g
  few : figs (absI f') ≤ 6 → f = f' ∧ g = g'
  far : f * 10 ^ (g - g').toNat - f' ≠ 0 → g' ≤ g + figs (absI f) - 6 ∧ absI (f * 10 ^ (g - g').toNat - f') < 10 ^ (g + figs (absI f) - 6 - g').toNat
structure FigV (x c e c' e' d f g : Int) : Prop where
  hf : f = madeC (figS x c e c' e' d) (figX x c e c' e' d) d
  hg : g = madeE (figS x c e c' e' d) (figX x c e c' e' d) d
theorem figR_of {S S' X X' : Int} (hS : S.natAbs < 10 ^ 45) (hS' : S'.natAbs < 10 ^ 45) (hX : -45 ≤ X ∧ X ≤ 45) (hX' : -45 ≤ X' ∧ X' ≤ 45)
    (le : madeE S' X' 12 ≤ madeE S X 6) (few : figs (absI (madeC S' X' 12)) ≤ 6 → madeC S X 6 = madeC S' X' 12 ∧ madeE S X 6 = madeE S' X' 12)
    (far : madeC S X 6 * 10 ^ (madeE S X 6 - madeE S' X' 12).toNat - madeC S' X' 12 ≠ 0 → madeE S' X' 12 ≤ madeE S X 6 + figs (absI (madeC S X 6)) - 6 ∧ absI (madeC S X 6 * 10 ^ (madeE S X 6 - madeE S' X' 12).toNat - madeC S' X' 12) < 10 ^ (madeE S X 6 + figs (absI (madeC S X 6)) - 6 - madeE S' X' 12).toNat) :
    FigR (madeC S X 6) (madeE S X 6) (madeC S' X' 12) (madeE S' X' 12) := by
  refine ⟨?_, ?_, madeE_in hS hX (by decide), madeE_in hS' hX' (by decide), le, few, far⟩
  · rw [madeC_abs]; exact madeN_fst_lt _ _ (by decide)
  · rw [madeC_abs]; exact madeN_fst_lt _ _ (by decide)
theorem figR_exact {S X : Int} (hS : S.natAbs < 10 ^ 6) (hX : -45 ≤ X ∧ X ≤ 45) : FigR (madeC S X 6) (madeE S X 6) (madeC S X 12) (madeE S X 12) := by
  obtain ⟨h1, h2⟩ := made_exact (X := X) hS
  refine figR_of (by omega) (by omega) hX hX (by omega) (fun _ => ⟨h1, h2⟩) fun hn => ?_
  exfalso
  apply hn
  rw [h1, h2, Int.sub_self]
  simp
theorem figR_div {c e c' e' : Int} (hc : 0 < c ∧ c ≤ 900) (hc' : 0 < c' ∧ c' ≤ 900) (he : -2 ≤ e ∧ e ≤ 2) (he' : -2 ≤ e' ∧ e' ≤ 2) :
    FigR (madeC (divQ c c' 6) (divX c e c' e' 6) 6) (madeE (divQ c c' 6) (divX c e c' e' 6) 6) (madeC (divQ c c' 12) (divX c e c' e' 12) 12) (madeE (divQ c c' 12) (divX c e c' e' 12) 12) := by
  have q6 := divQ_facts (d := 6) hc.1 (by omega) hc'.1 (by omega) (by decide)
  have q12 := divQ_facts (d := 12) hc.1 (by omega) hc'.1 (by omega) (by decide)
  have x6 := divX_facts (d := 6) (e := e) (e' := e') hc.1 (by omega) hc'.1 (by omega) (by omega) (by omega) (by decide)
  have x12 := divX_facts (d := 12) (e := e) (e' := e') hc.1 (by omega) hc'.1 (by omega) (by omega) (by omega) (by decide)
  have hr := fig_div (n := c.toNat) (k := c'.toNat) (by omega) (by omega) e e'
  rw [show ((c.toNat : Nat) : Int) = c by omega, show ((c'.toNat : Nat) : Int) = c' by omega] at hr
  have c6 : madeC (divQ c c' 6) (divX c e c' e' 6) 6 = ((madeN (divQ c c' 6).natAbs (divX c e c' e' 6) 6).1 : Int) := by unfold madeC; rw [if_neg (by omega)]; rfl
  have c12 : madeC (divQ c c' 12) (divX c e c' e' 12) 12 = ((madeN (divQ c c' 12).natAbs (divX c e c' e' 12) 12).1 : Int) := by unfold madeC; rw [if_neg (by omega)]; rfl
  have e6 : madeE (divQ c c' 6) (divX c e c' e' 6) 6 = (madeN (divQ c c' 6).natAbs (divX c e c' e' 6) 6).2 := rfl
  have e12 : madeE (divQ c c' 12) (divX c e c' e' 12) 12 = (madeN (divQ c c' 12).natAbs (divX c e c' e' 12) 12).2 := rfl
  refine figR_of q6.1 q12.1 x6 x12 ?_ ?_ ?_
  all_goals rw [e6, e12]
  all_goals try rw [c6, c12]
  all_goals generalize madeN (divQ c c' 6).natAbs (divX c e c' e' 6) 6 = F at hr
  all_goals generalize madeN (divQ c c' 12).natAbs (divX c e c' e' 12) 12 = G at hr
  all_goals clear c6 c12 e6 e12 q6 q12 x6 x12
  · rcases hr with h | ⟨_, h, _⟩
    · rw [h]; exact Int.le_refl _
    · omega
  · intro hf
    rcases hr with h | ⟨h, _⟩
    · rw [h]; exact ⟨rfl, rfl⟩
    · rw [absI_nat, Int.natAbs_natCast, figs_nat] at hf; omega
  · intro hn
    rcases hr with h | ⟨_, h2, h3, h4, h5⟩
    · exfalso; apply hn; rw [h, Int.sub_self]; simp
    · rw [absI_nat, absI_nat, Int.natAbs_natCast, figs_nat]
      refine ⟨h3, ?_⟩
      have k : (F.1 : Int) * 10 ^ (F.2 - G.2).toNat = ((F.1 * 10 ^ (F.2 - G.2).toNat : Nat) : Int) := by simp
      have k2 : (10 : Int) ^ (F.2 + (figsN F.1 : Int) - 6 - G.2).toNat = ((10 ^ (F.2 + (figsN F.1 : Int) - 6 - G.2).toNat : Nat) : Int) := by simp
      rw [k, k2]
      generalize F.1 * 10 ^ (F.2 - G.2).toNat = u at *
      generalize 10 ^ (F.2 + (figsN F.1 : Int) - 6 - G.2).toNat = v at *
      omega
theorem fig_pair {x c e c' e' f g f' g' : Int} (h : FigV x c e c' e' 6 f g) (h' : FigV x c e c' e' 12 f' g') (h0 : 0 ≤ x) (h4 : x < 4) (G : FigN c e) (G' : FigN c' e') : FigR f g f' g' := by
  obtain ⟨rfl, rfl⟩ := h
  obtain ⟨rfl, rfl⟩ := h'
  obtain ⟨p1, p2, p3, p4, _, p6⟩ := G
  obtain ⟨q1, q2, q3, q4, _, q6⟩ := G'
  have hX : -45 ≤ minI e e' ∧ minI e e' ≤ 45 := by have := minI_le e e'; omega
  have pp : 0 ≤ c * 10 ^ (e + 2).toNat := Int.mul_nonneg (by omega) (Int.le_of_lt (Int.pow_pos (by decide)))
  have qq : 0 ≤ c' * 10 ^ (e' + 2).toNat := Int.mul_nonneg (by omega) (Int.le_of_lt (Int.pow_pos (by decide)))
  obtain h | h | h | h : x = 0 ∨ x = 1 ∨ x = 2 ∨ x = 3 := by omega
  · subst h
    have := addS_small (c := c) (c' := c') p3 q3 (by omega) (by omega)
    exact figR_exact (S := addS c e c' e') (by omega) hX
  · subst h
    have := addS_small (c := c) (c' := 0 - c') p3 q3 (by omega) (by rw [Int.sub_mul]; omega)
    exact figR_exact (S := addS c e (0 - c') e') (by omega) hX
  · subst h
    have hm : (c * c').natAbs ≤ 900 * 900 := by rw [Int.natAbs_mul]; exact Nat.mul_le_mul (by omega) (by omega)
    exact figR_exact (S := c * c') (X := e + e') (by omega) (by omega)
  · subst h
    exact figR_div (by omega) (by omega) (by omega) (by omega)
theorem FigR.no {f g f' g' : Int} (R : FigR f g f' g') (h : figs (if f' < 0 then -f' else f') ≤ 6) (n : (f == f' && g == g') = false) : False := by
  obtain ⟨h1, h2⟩ := R.few h
  rw [h1, h2] at n
  simp at n
/-- the difference as the law writes it -/
abbrev apartF (f g f' g' : Int) : Int := if f * 10 ^ (g - g').toNat - f' * 10 ^ (g' - g').toNat < 0 then -(f * 10 ^ (g - g').toNat - f' * 10 ^ (g' - g').toNat) else f * 10 ^ (g - g').toNat - f' * 10 ^ (g' - g').toNat
theorem apartF_eq (f g f' g' : Int) : apartF f g f' g' = absI (f * 10 ^ (g - g').toNat - f') := by
  unfold apartF absI
  rw [Int.sub_self, show (10 : Int) ^ (0 : Int).toNat = 1 by rfl, Int.mul_one]
theorem FigR.ne {f g f' g' : Int} (h : apartF f g f' g' ≠ 0) : f * 10 ^ (g - g').toNat - f' ≠ 0 := by
  intro q
  apply h
  rw [apartF_eq, q]
  rfl
theorem FigR.unit0 {f g f' g' : Int} (R : FigR f g f' g') (h : apartF f g f' g' ≠ 0) : 0 ≤ g + figs (if f < 0 then -f else f) - 6 - g' := by
  have := (R.far (FigR.ne h)).1
  show 0 ≤ g + figs (absI f) - 6 - g'
  omega
theorem FigR.unit1 {f g f' g' : Int} (R : FigR f g f' g') : g + figs (if f < 0 then -f else f) - 6 - g' ≤ 1000000 := by
  show g + figs (absI f) - 6 - g' ≤ 1000000
  have h1 := figsN_le (by decide) R.bf
  have h2 := R.bg
  have h3 := R.bg'
  rw [absI_nat, figs_nat]
  omega
theorem FigR.lt {f g f' g' : Int} (R : FigR f g f' g') (h : apartF f g f' g' ≠ 0) : decide (apartF f g f' g' < 10 ^ (g + figs (if f < 0 then -f else f) - 6 - g').toNat) = true := by
  rw [apartF_eq]
  exact decide_eq_true (R.far (FigR.ne h)).2
theorem FigR.eq {f g f' g' : Int} (h : apartF f g f' g' = 0) : (apartF f g f' g' == 0) = true := by rw [h]; rfl
end
open PySem PySem.W PySem.Spec PyProof.Rows
/-- the text as the walk sees it: without its four rows that only say a name -/
def keepAt (l : List Stmt) (ks : List Nat) : List Stmt := ks.filterMap fun k => l[k]?
def hdBody : List Stmt := keepAt PySem.Challenge.rw_xm0050_01.row.prog.main.body [1, 2, 3, 4, 5, 6, 7, 8, 9, 11, 12, 13, 14, 15, 16, 17, 18, 19, 20, 21, 22, 24, 25, 26, 27, 28, 29, 30, 31, 32, 33, 35, 36, 37, 38, 39, 40]
def hdView : Program := { PySem.Challenge.rw_xm0050_01.row.prog with main := { PySem.Challenge.rw_xm0050_01.row.prog.main with body := hdBody } }
theorem hdRowPart : (PySem.Challenge.rw_xm0050_01).row.partSaid = true := by
  delta OpenRow.partSaid looksOpen
  repeat' with_reducible refine look_both ?_ ?_
  all_goals decide +kernel
theorem hdRowSaid : (PySem.Challenge.rw_xm0050_01).row.wellSaid = true := by
  delta OpenRow.wellSaid
  refine look_both (look_both hdRowPart ?_) ?_
  all_goals decide +kernel
theorem hdSaid : OpenLaw.wellSaid PySem.Challenge.rw_xm0050_01 = true := by
  delta OpenLaw.wellSaid
  repeat' with_reducible first | exact hdRowSaid | refine look_both ?_ ?_
  all_goals decide +kernel
section
local macro_rules | `(tactic| o_head $_) => `(tactic| assumption)
/-- it says nothing; it lays the view of the heap, hd.heap_1 -/
theorem hd : (PySem.Challenge.rw_xm0050_01).row.Holds → (PySem.Challenge.rw_xm0050_01).row.Holds := by
  intro h
  x_head
end
/-- the few objects of the end that the view leaves out -/
noncomputable def hdGap1 (P : Params) : List Obj := [
  { cls := .type "builtin_function_or_method", data := .fields ⟨[.builtin "type.__prepare__", .type "type"]⟩ },
  { cls := .type "dict", data := .dict ⟨[
    { hash := PyData.keyHash P (Str.ofString "__module__"), key := .str (Str.ofString "__module__") 198, val := .str (Str.ofString "basicplus.values") 187 },
    { hash := PyData.keyHash P (Str.ofString "__qualname__"), key := .str (Str.ofString "__qualname__") 200, val := .str (Str.ofString "BasicError") 199 },
    { hash := PyData.keyHash P (Str.ofString "__firstlineno__"), key := .str (Str.ofString "__firstlineno__") 202, val := .int 3 201 },
    { hash := PyData.keyHash P (Str.ofString "__init__"), key := .str (Str.ofString "__init__") 213, val := .ref 31 },
    { hash := PyData.keyHash P (Str.ofString "__static_attributes__"), key := .str (Str.ofString "__static_attributes__") 216, val := .ref 32 },
    { hash := PyData.keyHash P (Str.ofString "__classcell__"), key := .str (Str.ofString "__classcell__") 217, val := .ref 18 }]⟩ 6 }]
noncomputable def hdGap2 : List Obj := [
  { cls := .type "tuple", data := .seq ⟨[]⟩ },
  { cls := .none, data := .fields ⟨[.int 5 0, .int 4 0, .ref 30]⟩ },
  { cls := .type "code", data := .fields ⟨[.str (Str.ofString "BasicError") 193, .str (Str.ofString "BasicError") 194, .str (Str.ofString "/claim/cut.py") 195, .int 3 0, .int 0 0, .int 0 0, .int 0 0, .int 0 0, .ref 19, .bool false, .int 181 0, .ref 20, .none, .none, .none, .none, .int 196 0, .int 3 0, .str (Str.ofString "/claim/cut.py") 197]⟩ },
  { cls := .type "frame", slots := ⟨[some (.ref 21), some (.ref 3), some (.ref 17), none, some (.str (Str.ofString "basicplus.values") 187), none, some (.ref 0)]⟩ }]
noncomputable def hdGap3 : List Obj := [
  { cls := .type "super", data := .fields ⟨[.ref 34, .ref 34, .ref 34]⟩ },
  { cls := .type "builtin_function_or_method", data := .fields ⟨[.builtin "object.__init_subclass__", .ref 34]⟩ }]
noncomputable def hdEndObjs (K : Params → Frag) (P : Params) : List Obj :=
  let L := (K P).map (·.2)
  L.take 16 ++ (hdGap1 P ++ ((L.drop 16).take 1 ++ (hdGap2 ++ ((L.drop 17).take 13 ++ (hdGap3 ++ L.drop 30)))))
noncomputable def hdOnAt : Nat → (Obj → Obj) → List Obj → List Obj
  | _, _, [] => []
  | 0, f, o :: l => f o :: l
  | k + 1, f, o :: l => o :: hdOnAt k f l
noncomputable def hdCutD (n : Nat) : Obj → Obj
  | ⟨c, d, .dict es _, sl⟩ => ⟨c, d, .dict ⟨es.toList.take n⟩ n, sl⟩
  | o => o
noncomputable def hdCutF (n : Nat) : Obj → Obj
  | ⟨c, d, .fields fs, sl⟩ => ⟨c, d, .fields ⟨fs.toList.take n⟩, sl⟩
  | o => o
noncomputable def hdFirstD (v : Value) : Obj → Obj
  | ⟨c, d, .dict ⟨e :: r⟩ n, sl⟩ => ⟨c, d, .dict ⟨{ e with val := v } :: r⟩ n, sl⟩
  | o => o
/-- the state of the top between two of its statements: the end's objects, cut back -/
noncomputable def hdMidAt (K : Params → Frag) (P : Params) (m n2 n3 j : Nat) (v : Value) : Heap :=
  ⟨⟨hdOnAt 2 (hdCutD n2) (hdOnAt 3 (fun o => hdFirstD v (hdCutD n3 o)) (hdOnAt 12 (hdCutF j) ((hdEndObjs K P).take m)))⟩, {}⟩
noncomputable abbrev hdMidS (K : Params → Frag) (w : World) (os : OsState) (m n2 n3 j : Nat) (v : Value) (tk : Nat) : Shared := ⟨hdMidAt K w.params m n2 n3 j v, ⟨[]⟩, boot_drawn, tk, os⟩
noncomputable abbrev hdProg : Program := PySem.Challenge.rw_xm0050_01.row.prog
noncomputable def hdBody0 : List Stmt := behindTheImports hdProg
noncomputable def hdEnv : Env := { scope := hdProg.main.scope, locals := mainNs, globals := mainNs, cells := [], code := .ref 13, frame := some 14 }
noncomputable def hdCode : Code := .body hdBody0 hdEnv
noncomputable abbrev hdSeg (w : World) (n : Nat) (s : Shared) (t : Thread) := segRun treeTable hdProg w 11 (some (.ref 6)) 1 n s t
noncomputable abbrev hdS0 (K : Params → Frag) (w : World) (os : OsState) : Shared := hdMidS K w os 15 0 9 0 (.str (Str.ofString "__main__") 164) 187
noncomputable abbrev hdS1 (K : Params → Frag) (w : World) (os : OsState) : Shared := hdMidS K w os 38 2 11 3 (.str (Str.ofString "basicplus.values") 187) 225
noncomputable abbrev hdS2 (K : Params → Frag) (w : World) (os : OsState) : Shared := hdMidS K w os 87 2 18 24 (.str (Str.ofString "basicplus.values") 187) 292
noncomputable abbrev hdS3 (K : Params → Frag) (w : World) (os : OsState) : Shared := hdMidS K w os 137 2 27 45 (.str (Str.ofString "basicplus.decimals") 292) 368
noncomputable abbrev hdS4 (K : Params → Frag) (w : World) (os : OsState) : Shared := hdMidS K w os 207 2 37 75 (.str (Str.ofString "basicplus.arith") 399) 462
noncomputable abbrev hdS5 (K : Params → Frag) (w : World) (os : OsState) : Shared := hdMidS K w os 264 2 46 102 (.str (Str.ofString "law_xm0050_01") 497) 546
noncomputable abbrev hdPos0 : Pos := ⟨0, 0, 0, 0⟩
noncomputable abbrev hdPos1 : Pos := ⟨3, 0, 8, 24⟩
noncomputable abbrev hdPos2 : Pos := ⟨55, 0, 58, 99⟩
noncomputable abbrev hdPos3 : Pos := ⟨76, 0, 83, 83⟩
noncomputable abbrev hdPos4 : Pos := ⟨127, 0, 132, 40⟩
noncomputable abbrev hdPos5 : Pos := ⟨201, 0, 208, 44⟩
noncomputable abbrev hdPiece (l : List Stmt) (p : Pos) : Thread := piecesOf l hdEnv hdCode p [topFrame hdPos0]
theorem hdSeg_on {w : World} {n N k : Nat} {s s' r : Shared} {l : List Stmt} {c : Code} {pos p' : Pos} {m : Nat} {a : Option Value} (h : segRun treeTable hdProg w m a 1 n s (piecesOf (l.take k) hdEnv c pos [topFrame hdPos0]) = some (.next, s', c, p'))
    (g : topRun treeTable hdProg w m a N s' (restOf (l.drop k) hdEnv c p' [topFrame hdPos0]) = some r) : topRun treeTable hdProg w m a (n + N) s (restOf l hdEnv c pos [topFrame hdPos0]) = some r := by
  have := piece_app h g
  rwa [List.take_append_drop] at this
theorem hdLeft_of {K : Params → Frag} {as : List Addr} {e : ∀ P, as = (K P).map (·.1)} {loose : List Str} {Xt : Shared → Bool}
    (o1 : opening hdProg = plainProg hdProg.main.scope.names) (o2 : ∀ s, fenceModules? hdProg s = some s)
    (sz : ∀ w : World, ((boot_heap w.params).isNs mainGlobals && (⟨[]⟩ : Array GenState).size == 0, (boot_heap w.params).objs.size, (boot_heap w.params).nsMap mainGlobals "__annotations__") = (true, 11, some (.ref 6)))
    (h0 : ∀ w os, topGo treeTable hdProg w 11 (some (.ref 6)) 12 ⟨boot_heap w.params, ⟨[]⟩, boot_drawn, boot_toks, os⟩ (topStub hdProg) = some (hdS0 K w os, ⟨denote treeTable hdCode, hdCode, hdPos0, [topFrame hdPos0]⟩))
    (hb : ∀ w os, hdSeg w 1 (hdS0 K w os) (blockOf hdBody0 hdEnv hdCode hdPos0 [topFrame hdPos0]) = some (.next, hdS0 K w os, hdCode, hdPos0))
    (h1 : ∀ w os, hdSeg w 300 (hdS0 K w os) (hdPiece (hdBody0.take 3) hdPos0) = some (.next, hdS1 K w os, hdCode, hdPos1))
    (h2 : ∀ w os, hdSeg w 300 (hdS1 K w os) (hdPiece ((hdBody0.drop 3).take 7) hdPos1) = some (.next, hdS2 K w os, hdCode, hdPos2))
    (h3 : ∀ w os, hdSeg w 300 (hdS2 K w os) (hdPiece (((hdBody0.drop 3).drop 7).take 10) hdPos2) = some (.next, hdS3 K w os, hdCode, hdPos3))
    (h4 : ∀ w os, hdSeg w 400 (hdS3 K w os) (hdPiece ((((hdBody0.drop 3).drop 7).drop 10).take 11) hdPos3) = some (.next, hdS4 K w os, hdCode, hdPos4))
    (h5 : ∀ w os, hdSeg w 400 (hdS4 K w os) (hdPiece (((((hdBody0.drop 3).drop 7).drop 10).drop 11).take 10) hdPos4) = some (.next, hdS5 K w os, hdCode, hdPos5))
    (hf : ∀ w os, topRun treeTable hdProg w 11 (some (.ref 6)) 2 (hdS5 K w os) (restOf (((((hdBody0.drop 3).drop 7).drop 10).drop 11).drop 10) hdEnv hdCode hdPos5 [topFrame hdPos0]) = some (hdS5 K w os))
    (k1 : ∀ (w : World) (os : OsState), (staticsOk (importedModules hdProg.main.body) (boot_heap w.params) (hdS5 K w os).heap && namesBound hdProg (hdS5 K w os).heap && gensDone (hdS5 K w os) && laidKept (boot_heap w.params) (hdS5 K w os).heap) = true)
    (k2 : ∀ (w : World) (os : OsState), openSeen hdView loose (importedModules hdProg.main.body) Xt true (hdS5 K w os) = openGood hdView loose)
    (k3 : ∀ (w : World) (os : OsState), (kHook K as e).obs (hdS5 K w os) = (kHook K as e).val w) : LeftO hdProg hdView loose Xt (kHook K as e).obs (kHook K as e).val 2814 :=
  LeftO.of_pieces (H₁ := fun P => hdMidAt K P 264 2 46 102 (.str (Str.ofString "law_xm0050_01") 497)) (boot_open o1 (by decide) o2) sz
    (fun w os => go_top (h0 w os) (piece_block (hb w os) (hdSeg_on (h1 w os) (hdSeg_on (h2 w os) (hdSeg_on (h3 w os) (hdSeg_on (h4 w os) (hdSeg_on (h5 w os) (hf w os)))))))) (by decide)
    (fun w => funext fun os => looks_pair (k1 w os) (looks_pair (k2 w os) (k3 w os)))
abbrev hdAddrs : List Addr := [0, 1, 2, 3, 4, 5, 6, 7, 8, 9, 10, 11, 12, 13, 14, 15, 18, 23, 24, 25, 26, 27, 28, 29, 30, 31, 32, 33, 34, 35, 38, 39, 40, 41, 42, 43, 44, 45, 46, 47, 48, 49, 50, 51, 52, 53, 54, 55, 56, 57, 58, 59, 60, 61, 62, 63, 64, 65, 66, 67, 68, 69, 70, 71, 72, 73, 74, 75, 76, 77, 78, 79, 80, 81, 82, 83, 84, 85, 86, 87, 88, 89, 90, 91, 92, 93, 94, 95, 96, 97, 98, 99, 100, 101, 102, 103, 104, 105, 106, 107, 108, 109, 110, 111, 112, 113, 114, 115, 116, 117, 118, 119, 120, 121, 122, 123, 124, 125, 126, 127, 128, 129, 130, 131, 132, 133, 134, 135, 136, 137, 138, 139, 140, 141, 142, 143, 144, 145, 146, 147, 148, 149, 150, 151, 152, 153, 154, 155, 156, 157, 158, 159, 160, 161, 162, 163, 164, 165, 166, 167, 168, 169, 170, 171, 172, 173, 174, 175, 176, 177, 178, 179, 180, 181, 182, 183, 184, 185, 186, 187, 188, 189, 190, 191, 192, 193, 194, 195, 196, 197, 198, 199, 200, 201, 202, 203, 204, 205, 206, 207, 208, 209, 210, 211, 212, 213, 214, 215, 216, 217, 218, 219, 220, 221, 222, 223, 224, 225, 226, 227, 228, 229, 230, 231, 232, 233, 234, 235, 236, 237, 238, 239, 240, 241, 242, 243, 244, 245, 246, 247, 248, 249, 250, 251, 252, 253, 254, 255, 256, 257, 258, 259, 260, 261, 262, 263]
theorem hdAs : ∀ P, hdAddrs = (hd.heap_1 P).map (·.1) := by intro P; kernel_rfl
abbrev hdXt : Shared → Bool := fun s => xlAt hdView [] s && recOk (RowW.records (PySem.Challenge.rw_xm0050_01.row.toRowW)) s
section
set_option maxRecDepth 100000
theorem hd_o1 : opening hdProg = plainProg hdProg.main.scope.names := by kernel_rfl
theorem hd_o2 : ∀ s, fenceModules? hdProg s = some s := by intro s; kernel_rfl
theorem hd_sz : ∀ w : World, ((boot_heap w.params).isNs mainGlobals && (⟨[]⟩ : Array GenState).size == 0, (boot_heap w.params).objs.size, (boot_heap w.params).nsMap mainGlobals "__annotations__") = (true, 11, some (.ref 6)) := by intro w; kernel_rfl
theorem hd_h0 : ∀ w os, topGo treeTable hdProg w 11 (some (.ref 6)) 12 ⟨boot_heap w.params, ⟨[]⟩, boot_drawn, boot_toks, os⟩ (topStub hdProg) = some (hdS0 hd.heap_1 w os, ⟨denote treeTable hdCode, hdCode, hdPos0, [topFrame hdPos0]⟩) := by intro w os; kernel_rfl
theorem hd_hb : ∀ w os, hdSeg w 1 (hdS0 hd.heap_1 w os) (blockOf hdBody0 hdEnv hdCode hdPos0 [topFrame hdPos0]) = some (.next, hdS0 hd.heap_1 w os, hdCode, hdPos0) := by intro w os; kernel_rfl
theorem hd_h1 : ∀ w os, hdSeg w 300 (hdS0 hd.heap_1 w os) (hdPiece (hdBody0.take 3) hdPos0) = some (.next, hdS1 hd.heap_1 w os, hdCode, hdPos1) := by intro w os; kernel_rfl
theorem hd_h2 : ∀ w os, hdSeg w 300 (hdS1 hd.heap_1 w os) (hdPiece ((hdBody0.drop 3).take 7) hdPos1) = some (.next, hdS2 hd.heap_1 w os, hdCode, hdPos2) := by intro w os; kernel_rfl
theorem hd_h3 : ∀ w os, hdSeg w 300 (hdS2 hd.heap_1 w os) (hdPiece (((hdBody0.drop 3).drop 7).take 10) hdPos2) = some (.next, hdS3 hd.heap_1 w os, hdCode, hdPos3) := by intro w os; kernel_rfl
theorem hd_h4 : ∀ w os, hdSeg w 400 (hdS3 hd.heap_1 w os) (hdPiece ((((hdBody0.drop 3).drop 7).drop 10).take 11) hdPos3) = some (.next, hdS4 hd.heap_1 w os, hdCode, hdPos4) := by intro w os; kernel_rfl
theorem hd_h5 : ∀ w os, hdSeg w 400 (hdS4 hd.heap_1 w os) (hdPiece (((((hdBody0.drop 3).drop 7).drop 10).drop 11).take 10) hdPos4) = some (.next, hdS5 hd.heap_1 w os, hdCode, hdPos5) := by intro w os; kernel_rfl
theorem hd_hf : ∀ w os, topRun treeTable hdProg w 11 (some (.ref 6)) 2 (hdS5 hd.heap_1 w os) (restOf (((((hdBody0.drop 3).drop 7).drop 10).drop 11).drop 10) hdEnv hdCode hdPos5 [topFrame hdPos0]) = some (hdS5 hd.heap_1 w os) := by intro w os; kernel_rfl
theorem hd_k1 : ∀ (w : World) (os : OsState), (staticsOk (importedModules hdProg.main.body) (boot_heap w.params) (hdS5 hd.heap_1 w os).heap && namesBound hdProg (hdS5 hd.heap_1 w os).heap && gensDone (hdS5 hd.heap_1 w os) && laidKept (boot_heap w.params) (hdS5 hd.heap_1 w os).heap) = true := by intro w os; kernel_rfl
theorem hd_k2 : ∀ (w : World) (os : OsState), openSeen hdView [Str.ofString "BasicError"] (importedModules hdProg.main.body) hdXt true (hdS5 hd.heap_1 w os) = openGood hdView [Str.ofString "BasicError"] := by intro w os; kernel_rfl
theorem hd_k3 : ∀ (w : World) (os : OsState), (kHook hd.heap_1 hdAddrs hdAs).obs (hdS5 hd.heap_1 w os) = (kHook hd.heap_1 hdAddrs hdAs).val w := by intro w os; kernel_rfl
theorem hdLeft : LeftO hdProg hdView [Str.ofString "BasicError"] hdXt (kHook hd.heap_1 hdAddrs hdAs).obs (kHook hd.heap_1 hdAddrs hdAs).val 2814 :=
  hdLeft_of hd_o1 hd_o2 hd_sz hd_h0 hd_hb hd_h1 hd_h2 hd_h3 hd_h4 hd_h5 hd_hf hd_k1 hd_k2 hd_k3
end
section
local macro_rules | `(tactic| o_law) => `(tactic| refine holds_law hdSaid fun said => ?_)
local macro_rules | `(tactic| k_head) => `(tactic| (
  refine holds_open (q := hdView) (loose := [Str.ofString "BasicError"]) (Xt := hdXt) (XP := XL hdView []) (Yf := (kHook hd.heap_1 hdAddrs hdAs).obs) (Ya := (kHook hd.heap_1 hdAddrs hdAs).val) (YP := (kHook hd.heap_1 hdAddrs hdAs).says) (N := 2814) hdLeft (kHook hd.heap_1 hdAddrs hdAs).of (kHook hd.heap_1 hdAddrs hdAs).keeps (fun s e => xl_of s (Bool.and_eq_true_iff.mp e).1) XL.keeps (by rfl) (by rfl) (by rfl) (fun s e => recFacts_of (Bool.and_eq_true_iff.mp e).2) (by rfl) (by first | assumption | decide +kernel) (by decide +kernel) ⟨rfl, rfl, rfl, rfl, rfl, by decide +kernel⟩ ?hw ?hc))
set_option maxRecDepth 100000 in
set_option maxHeartbeats 8000000 in
open_top top for PySem.Challenge.rw_xm0050_01
end
local macro_rules | `(tactic| walk_at $s:str) => do
  let k := Lean.Syntax.mkStrLit ("!" ++ s.getString)
  `(tactic| k_extra $k)
section
abbrev Led := List (Addr × Obj)
noncomputable abbrev loose : List Str := looseW hdView [Str.ofString "BasicError"]

/-- what a call of the def at f does, seen from any def's frame: it gives back what «ok» says (with the new objects that it says); it never raises -/
def Does (w : World) (need : Nat) (f : Addr) (vs : List Value) (news : Led) (ok : Value → Led → Prop) : Prop :=
  ∀ (mean : ExcName → Option Value) (mg mb : Str → Option Value) (dp un : Nat) (gd : Option (List Code)) (cn : Str) (cs : Scope) (a : Addr) (ccd : Value) (cl : List (Str × Addr)) (outer : List Env) (A₀ : Around) (base h₀ : Heap) (L : Addr) (m : Str → Option Value) (s : Shared) (Q E : Value → Shared → Prop),
    Below A₀ base outer h₀ → Fr h₀ L s.heap m → (hd.heap_1 w.params).In h₀ → News h₀ L s.heap news → Top hdView loose mean mg mb h₀ → cs.kind = .function →
    dp + need < recursionLimit → un + 8 * need < cLine →
    (∀ r tl h' tk', Fr h₀ L h' m → News h₀ L h' (tl ++ news) → (∀ p ∈ news, ∀ q ∈ tl, p.1 < q.1) → ok r tl → Q r { s with heap := h', toks := tk' }) →
    wpAny (model PySem.Challenge.rw_xm0050_01.row.prog w) (ktrTop dp un gd cn cs L a ccd cl outer) (call (.ref f) vs) Q E s

theorem Does.use {w : World} {need : Nat} {f : Addr} {vs : List Value} {news : Led} {ok : Value → Led → Prop}
    {mean : ExcName → Option Value} {mg mb : Str → Option Value} {dp un : Nat} {gd : Option (List Code)} {cn : Str} {cs : Scope} {a : Addr} {ccd : Value} {cl : List (Str × Addr)} {outer : List Env} {A₀ : Around} {base h₀ : Heap} {L : Addr} {m : Str → Option Value} {s : Shared} {Q E : Value → Shared → Prop}
    (N : News h₀ L s.heap news) (D : Does w need f vs news ok) (B : Below A₀ base outer h₀) (F : Fr h₀ L s.heap m) (X : (hd.heap_1 w.params).In h₀) (T : Top hdView loose mean mg mb h₀) (hk : cs.kind = .function)
    (hd : dp + need < recursionLimit) (hu : un + 8 * need < cLine)
    (ret : ∀ r tl h' tk', Fr h₀ L h' m → News h₀ L h' (tl ++ news) → (∀ p ∈ news, ∀ q ∈ tl, p.1 < q.1) → ok r tl → Q r { s with heap := h', toks := tk' }) :
    wpAny (model PySem.Challenge.rw_xm0050_01.row.prog w) (ktrTop dp un gd cn cs L a ccd cl outer) (call (.ref f) vs) Q E s :=
  D mean mg mb dp un gd cn cs a ccd cl outer A₀ base h₀ L m s Q E B F X N T hk hd hu ret

theorem Does.mono {w : World} {need need' : Nat} {f : Addr} {vs : List Value} {news : Led} {ok ok' : Value → Led → Prop} (D : Does w need f vs news ok) (hn : need ≤ need') (h : ∀ r tl, ok r tl → ok' r tl) : Does w need' f vs news ok' := by
  intro mean mg mb dp un gd cn cs a ccd cl outer A₀ base h₀ L m s Q E B F X N T hk hd hu ret
  exact D mean mg mb dp un gd cn cs a ccd cl outer A₀ base h₀ L m s Q E B F X N T hk (by omega) (by omega) fun r tl h' tk' F' N' l o => ret r tl h' tk' F' N' l (h r tl o)

inductive OkInt (x : Int) : Value → Led → Prop
  | mk (t : Tok) : OkInt x (.int x t) []
theorem OkInt.of {x y : Int} (t : Tok) (h : y = x) : OkInt x (.int y t) [] := h ▸ OkInt.mk t
inductive OkBool (x : Bool) : Value → Led → Prop
  | mk : OkBool x (.bool x) []
theorem OkBool.of {x y : Bool} (h : y = x) : OkBool x (.bool y) [] := h ▸ OkBool.mk
theorem noNew {news : Led} : ∀ p ∈ news, ∀ q ∈ ([] : Led), p.1 < q.1 := fun _ _ _ h => nomatch h

theorem newLt {news : Led} {a : Addr} {o : Obj} (h : ∀ p ∈ news, ∀ q ∈ [(a, o)], p.1 < q.1) : ∀ p ∈ news, p.1 < a := fun p hp => h p hp _ (.head _)
theorem room1 {d k n m c : Nat} (h : d + n < c) (hk : k + m ≤ n) : d + k + m < c := by omega
theorem room2 {d k j n m c : Nat} (h : d + n < c) (hk : k + j + m ≤ n) : d + k + j + m < c := by omega
theorem units1 {u k n m c : Nat} (h : u + 8 * n < c) (hk : k + 8 * m ≤ 8 * n) : u + k + 8 * m < c := by omega
theorem units2 {u k j n m c : Nat} (h : u + 8 * n < c) (hk : k + j + 8 * m ≤ 8 * n) : u + k + j + 8 * m < c := by omega
theorem fill0 (w : World) (h : Heap) (T : (hd.heap_1 w.params).In h) : PySem.Challenge.rw_xm0050_01.Holds → (hd.heap_1 w.params).In h := by
  k_fill
  intro _; exact T
end
local macro_rules | `(tactic| k_mem) => `(tactic| ((repeat (with_reducible refine List.mem_cons_of_mem _ ?_)); assumption))
section
theorem words20 : True := by
  k_with_none
  k_with "m k1" => (first | k_asm | ktn_no "m use: Below")
  k_with "m k2" => (first | k_asm | ktn_no "m use: Fr")
  k_with "m k3" => (first | k_asm | ktn_no "m use: In")
  k_with "m k5" => (first | k_asm | ktn_no "m use: Top")
  k_with "m k6" => (first | assumption | exact rfl | ktn_no "m use: kind")
  k_with "m k7" => (first | exact room1 (by with_reducible assumption) (by decide) | exact room2 (by with_reducible assumption) (by decide) | ktr_room | ktn_no "m use: room")
  k_with "m k8" => (first | exact units1 (by with_reducible assumption) (by decide) | exact units2 (by with_reducible assumption) (by decide) | ktr_units | ktn_no "m use: units")
  k_with "m enter" => ((refine wpAny_call ?_; k_dflt cell_enter))
  k_with "m sub" => (first | with_reducible exact fun _ h => h | with_reducible exact fun _ h => List.mem_cons_of_mem _ h | with_reducible exact fun _ h => List.mem_cons_of_mem _ (List.mem_cons_of_mem _ h) | with_reducible exact fun _ h => List.mem_cons_of_mem _ (List.mem_cons_of_mem _ (List.mem_cons_of_mem _ h)) | kcj_all)
  k_with "m drop" => (first | with_reducible assumption | exact cb_drop (by with_reducible assumption) (by k_extra "m sub") | k_asm | (refine' cb_drop (by assumption) (by kcj_all)) | ktn_no "m drop: the ledger")
  k_with "m fact" => (first | assumption | (constructor <;> assumption) | omega | (simp only [decide_eq_true_eq, decide_eq_false_iff_not, Int.not_lt, Int.not_le, gt_iff_lt, ge_iff_le] at *; omega) | ktn_no "m fact")
  trivial
set_option maxRecDepth 100000 in
set_option maxHeartbeats 8000000 in
theorem does_figs (w : World) (news : Led) (n : Int) (tn : Tok) (h0 : 0 ≤ n) : Does w 2 44 [.int n tn] news (OkInt (figs n)) := by
  unfold Does
  intro mean mg mb dp un gd cn cs a ccd cl outer A₀ base h₀ L m s Q E B F X N T hk hd hu ret
  k_extra "m enter"
  k_with "exec While Compare cons nil" => k_while (fun _ many bound => (1 : Int) ≤ many ∧ bound = 10 ^ many.toNat ∧ (many = 1 ∨ (10 : Int) ^ (many - 1).toNat ≤ n)) (fun _ _ bound => (n + 1 - bound).toNat) "many" "bound"
  k_with "state" => first | exact figs_start _ | exact figs_turn ⟨by assumption, by assumption, by assumption⟩ (by assumption)
  k_with "measure" => exact figs_meas ⟨by assumption, by assumption, by assumption⟩ (by assumption)
  k_steps
  all_goals refine ret _ [] _ _ (by k_asm) (by k_extra "m drop") noNew (OkInt.of _ ?_)
  all_goals exact figs_end h0 ⟨by assumption, by assumption, by assumption⟩ (by assumption)
end
section
theorem words30 : True := by
  k_with_none
  k_with "m k1" => (first | k_asm | ktn_no "m use: Below")
  k_with "m k2" => (first | k_asm | ktn_no "m use: Fr")
  k_with "m k3" => (first | k_asm | ktn_no "m use: In")
  k_with "m k5" => (first | k_asm | ktn_no "m use: Top")
  k_with "m k6" => (first | assumption | exact rfl | ktn_no "m use: kind")
  k_with "m k7" => (first | exact room1 (by with_reducible assumption) (by decide) | exact room2 (by with_reducible assumption) (by decide) | ktr_room | ktn_no "m use: room")
  k_with "m k8" => (first | exact units1 (by with_reducible assumption) (by decide) | exact units2 (by with_reducible assumption) (by decide) | ktr_units | ktn_no "m use: units")
  k_with "m enter" => ((refine wpAny_call ?_; k_dflt cell_enter))
  k_with "m sub" => (first | with_reducible exact fun _ h => h | with_reducible exact fun _ h => List.mem_cons_of_mem _ h | with_reducible exact fun _ h => List.mem_cons_of_mem _ (List.mem_cons_of_mem _ h) | with_reducible exact fun _ h => List.mem_cons_of_mem _ (List.mem_cons_of_mem _ (List.mem_cons_of_mem _ h)) | kcj_all)
  k_with "m drop" => (first | with_reducible assumption | exact cb_drop (by with_reducible assumption) (by k_extra "m sub") | k_asm | (refine' cb_drop (by assumption) (by kcj_all)) | ktn_no "m drop: the ledger")
  k_with "m fact" => (first | assumption | (constructor <;> assumption) | omega | (simp only [decide_eq_true_eq, decide_eq_false_iff_not, Int.not_lt, Int.not_le, gt_iff_lt, ge_iff_le] at *; omega) | ktn_no "m fact")
  k_with "!call ref" => ((k_here; (with_reducible show wpAny _ _ (PySem.call (Value.ref 44) _) _ _ _); k_dflt (refine' Does.use (by k_asm) (does_figs _ _ _ _ (by k_extra "m fact")) (by k_extra "m k1") (by k_extra "m k2") (by k_extra "m k3") (by k_extra "m k5") (by k_extra "m k6") (by k_extra "m k7") (by k_extra "m k8") ?_; intro r9 tl9 h9 tk9 F9 N9 l9 o9; cases o9; (try simp only [List.nil_append] at N9); clear l9; (try dsimp only); (try k_fold))))
  trivial
theorem nopy10 {x p : Int} (h : p ≤ 1000) : Builtin.divisionGoesByPylong x (10 ^ p.toNat) = false := by
  refine PyProof.noPylong_of_log2 ?_
  rw [natAbs_p10]
  exact Nat.lt_trans (log2_lt_of (p10_le_p2 _ (by omega)) (by decide)) (by decide)
theorem words30_b : True := by
  k_with "!binaryOp FloorDiv int int" => ((k_here; (with_reducible refine floordiv_int (p10_ne _) ?_ (Or.inl (nopy10 (by k_extra "m fact"))))))
  k_with "!binaryOp Mod int int" => ((k_here; (with_reducible refine mod_int' (p10_ne _) ?_)))
  trivial
set_option maxRecDepth 100000 in
set_option maxHeartbeats 8000000 in
theorem does_rnd (w : World) (news : Led) (n p : Int) (tn tp : Tok) (h0 : 0 ≤ n) (hp : 0 < p) (hp1 : p ≤ figs n) (hp2 : p ≤ 1000) : Does w 4 51 [.int n tn, .int p tp] news (OkInt (rndF n p)) := by
  unfold Does
  intro mean mg mb dp un gd cn cs a ccd cl outer A₀ base h₀ L m s Q E B F X N T hk hd hu ret
  k_extra "m enter"
  k_steps
  all_goals refine ret _ [] _ _ (by k_asm) (by k_extra "m drop") noNew (OkInt.of _ ?_)
  all_goals (unfold rndF; split <;> rename_i hh <;> omega)
end
section
theorem words40 : True := by
  k_with_none
  k_with "m k1" => (first | k_asm | ktn_no "m use: Below")
  k_with "m k2" => (first | k_asm | ktn_no "m use: Fr")
  k_with "m k3" => (first | k_asm | ktn_no "m use: In")
  k_with "m k5" => (first | k_asm | ktn_no "m use: Top")
  k_with "m k6" => (first | assumption | exact rfl | ktn_no "m use: kind")
  k_with "m k7" => (first | exact room1 (by with_reducible assumption) (by decide) | exact room2 (by with_reducible assumption) (by decide) | ktr_room | ktn_no "m use: room")
  k_with "m k8" => (first | exact units1 (by with_reducible assumption) (by decide) | exact units2 (by with_reducible assumption) (by decide) | ktr_units | ktn_no "m use: units")
  k_with "m enter" => ((refine wpAny_call ?_; k_dflt cell_enter))
  k_with "m sub" => (first | with_reducible exact fun _ h => h | with_reducible exact fun _ h => List.mem_cons_of_mem _ h | with_reducible exact fun _ h => List.mem_cons_of_mem _ (List.mem_cons_of_mem _ h) | with_reducible exact fun _ h => List.mem_cons_of_mem _ (List.mem_cons_of_mem _ (List.mem_cons_of_mem _ h)) | kcj_all)
  k_with "m drop" => (first | with_reducible assumption | exact cb_drop (by with_reducible assumption) (by k_extra "m sub") | k_asm | (refine' cb_drop (by assumption) (by kcj_all)) | ktn_no "m drop: the ledger")
  k_with "m fact" => (first | assumption | (constructor <;> assumption) | omega | (simp only [decide_eq_true_eq, decide_eq_false_iff_not, Int.not_lt, Int.not_le, gt_iff_lt, ge_iff_le] at *; omega) | ktn_no "m fact")
  k_with "!call ref" => ((k_here; (with_reducible show wpAny _ _ (PySem.call (Value.ref 44) _) _ _ _); k_dflt (refine' Does.use (by k_asm) (does_figs _ _ _ _ (by k_extra "m fact")) (by k_extra "m k1") (by k_extra "m k2") (by k_extra "m k3") (by k_extra "m k5") (by k_extra "m k6") (by k_extra "m k7") (by k_extra "m k8") ?_; intro r9 tl9 h9 tk9 F9 N9 l9 o9; cases o9; (try simp only [List.nil_append] at N9); clear l9; (try dsimp only); (try k_fold))))
  k_with "!call ref" => ((k_here; (with_reducible show wpAny _ _ (PySem.call (Value.ref 51) _) _ _ _); k_dflt (refine' Does.use (by k_asm) (does_rnd _ _ _ _ _ _ (by k_extra "m fact") (by k_extra "m fact") (by k_extra "m fact") (by k_extra "m fact")) (by k_extra "m k1") (by k_extra "m k2") (by k_extra "m k3") (by k_extra "m k5") (by k_extra "m k6") (by k_extra "m k7") (by k_extra "m k8") ?_; intro r9 tl9 h9 tk9 F9 N9 l9 o9; cases o9; (try simp only [List.nil_append] at N9); clear l9; (try dsimp only); (try k_fold))))
  trivial
abbrev tup2 (c : Int) (t : Tok) (e : Int) (u : Tok) : Obj := { cls := .type "tuple", data := .seq #[.int c t, .int e u] }
inductive OkTup (c e : Int) : Value → Led → Prop
  | mk (a : Addr) (t u : Tok) : OkTup c e (.ref a) [(a, tup2 c t e u)]
theorem OkTup.of {c e c' e' : Int} {a : Addr} {t u : Tok} (h : c' = c ∧ e' = e) : OkTup c e (.ref a) [(a, tup2 c' t e' u)] := by
  obtain ⟨rfl, rfl⟩ := h; exact .mk a t u
theorem oneNew {news : Led} {a : Addr} {o : Obj} (h : ∀ p ∈ news, p.1 < a) : ∀ p ∈ news, ∀ q ∈ [(a, o)], p.1 < q.1 := fun p hp q hq => by
  rw [List.mem_singleton.mp hq]; exact h p hp

theorem newsHead {h₀ h : Heap} {L a : Addr} {o : Obj} {rest news : Led} (N : News h₀ L h ((a, o) :: rest)) (hs : ∀ p ∈ news, p ∈ rest) : News h₀ L h ([(a, o)] ++ news) :=
  cb_drop N fun p hp => by
    rcases List.mem_append.mp hp with hp | hp
    · rw [List.mem_singleton.mp hp]; exact .head _
    · exact .tail _ (hs p hp)
theorem made_fin {c e d s x : Int} (h : MadeInv c e d s x) (hm : ¬ s.fmod 10 = 0) : (c < 0 → -s = madeC c e d ∧ x = madeE c e d) ∧ (¬ c < 0 → s = madeC c e d ∧ x = madeE c e d) := by
  obtain ⟨h1, h2⟩ := made_end h hm
  exact ⟨fun hc => ⟨(made_sign h1).1 hc, h2⟩, fun hc => ⟨(made_sign h1).2 hc, h2⟩⟩
theorem zero_fin {c e d s0 : Int} (hs : s0 = (s1N c.natAbs d.toNat : Int)) (h : s0 = 0) : (0 : Int) = madeC c e d ∧ (0 : Int) = madeE c e d := made_zero hs h
theorem words40_b : True := by
  k_with "m lt" => (first | assumption | exact ktn_ltOf (by assumption) | ((with_reducible rename _ ∧ AllLt _ _ => hlt); exact ktn_ltOf hlt.2) | exact ktn_ltOf (And.right (by assumption)) | exact ktn_ltOf (And.right (And.right (by assumption))) | exact ktn_ltOf (And.right (And.right (And.right (by assumption)))) | exact ktn_ltOf (And.right (And.right (And.right (And.right (by assumption))))) | exact ktn_ltOf (And.right (And.right (And.right (And.right (And.right (by assumption)))))) | exact ktn_ltOf (And.right (And.right (And.right (And.right (And.right (And.right (by assumption))))))) | ktn_no "m lt")
  trivial
theorem made_P {c e d s x : Int} (h : MadeInv c e d s x ∧ 1 ≤ figs s ∧ -46 ≤ x ∧ x + figs s ≤ 95) : 0 < s ∧ MadeInv c e d s x ∧ 1 ≤ figs s ∧ -46 ≤ x ∧ x + figs s ≤ 95 := ⟨h.1.pos, h⟩
set_option maxRecDepth 100000 in
set_option maxHeartbeats 8000000 in
theorem does_made (w : World) (news : Led) (c e d : Int) (tc te td : Tok) (hc : c.natAbs < 10 ^ 45) (he : -45 ≤ e ∧ e ≤ 45) (hdd : 1 ≤ d ∧ d ≤ 12) : Does w 6 58 [.int c tc, .int e te, .int d td] news (OkTup (madeC c e d) (madeE c e d)) := by
  unfold Does
  intro mean mg mb dp un gd cn cs a ccd cl outer A₀ base h₀ L m s Q E B F X N T hk hd hu ret
  obtain ⟨ha1, ha2, ha3⟩ := abs_facts hc
  obtain ⟨he1, he2⟩ := he
  obtain ⟨hd1, hd2⟩ := hdd
  k_extra "m enter"
  k_with "exec While Compare cons nil" => k_while (fun _ size exponent => 0 < size ∧ MadeInv c e d size exponent ∧ 1 ≤ figs size ∧ -46 ≤ exponent ∧ exponent + figs size ≤ 95) (fun _ size _ => size.toNat) "size" "exponent"
  k_with "state" => first | exact made_P (made_turn (by assumption) (by assumption) (by assumption) (by assumption)) | exact made_P (made_startA hc ⟨he1, he2⟩ ⟨hd1, hd2⟩ (by assumption) (by assumption)) | exact made_P (made_startB hc ⟨he1, he2⟩ ⟨hd1, hd2⟩ (by assumption) (by assumption))
  k_with "measure" => exact made_meas (by assumption) (by assumption)
  k_steps
  all_goals refine ret _ _ _ _ (by k_asm) (newsHead (by assumption) (by k_extra "m sub")) (oneNew (by k_extra "m lt")) (OkTup.of ?_)
  all_goals first | exact zero_fin (s1_round (by omega) (by assumption)) (by assumption) | exact zero_fin (s1_plain (by omega) (by assumption)) (by assumption) | exact (made_fin (by assumption) (by assumption)).1 (by assumption) | exact (made_fin (by assumption) (by assumption)).2 (by assumption)
end
section
theorem words45 : True := by
  k_with_none
  k_with "m k1" => (first | k_asm | ktn_no "m use: Below")
  k_with "m k2" => (first | k_asm | ktn_no "m use: Fr")
  k_with "m k3" => (first | k_asm | ktn_no "m use: In")
  k_with "m k5" => (first | k_asm | ktn_no "m use: Top")
  k_with "m k6" => (first | assumption | exact rfl | ktn_no "m use: kind")
  k_with "m k7" => (first | exact room1 (by with_reducible assumption) (by decide) | exact room2 (by with_reducible assumption) (by decide) | ktr_room | ktn_no "m use: room")
  k_with "m k8" => (first | exact units1 (by with_reducible assumption) (by decide) | exact units2 (by with_reducible assumption) (by decide) | ktr_units | ktn_no "m use: units")
  k_with "m enter" => ((refine wpAny_call ?_; k_dflt cell_enter))
  k_with "m sub" => (first | with_reducible exact fun _ h => h | with_reducible exact fun _ h => List.mem_cons_of_mem _ h | with_reducible exact fun _ h => List.mem_cons_of_mem _ (List.mem_cons_of_mem _ h) | with_reducible exact fun _ h => List.mem_cons_of_mem _ (List.mem_cons_of_mem _ (List.mem_cons_of_mem _ h)) | kcj_all)
  k_with "m drop" => (first | with_reducible assumption | exact cb_drop (by with_reducible assumption) (by k_extra "m sub") | k_asm | (refine' cb_drop (by assumption) (by kcj_all)) | ktn_no "m drop: the ledger")
  k_with "m fact" => (first | assumption | (constructor <;> assumption) | omega | (simp only [decide_eq_true_eq, decide_eq_false_iff_not, Int.not_lt, Int.not_le, gt_iff_lt, ge_iff_le] at *; omega) | ktn_no "m fact")
  k_with "!call ref" => ((k_here; (with_reducible show wpAny _ _ (PySem.call (Value.ref 44) _) _ _ _); k_dflt (refine' Does.use (by k_asm) (does_figs _ _ _ _ (by k_extra "m fact")) (by k_extra "m k1") (by k_extra "m k2") (by k_extra "m k3") (by k_extra "m k5") (by k_extra "m k6") (by k_extra "m k7") (by k_extra "m k8") ?_; intro r9 tl9 h9 tk9 F9 N9 l9 o9; cases o9; (try simp only [List.nil_append] at N9); clear l9; (try dsimp only); (try k_fold))))
  k_with "!call ref" => ((k_here; (with_reducible show wpAny _ _ (PySem.call (Value.ref 51) _) _ _ _); k_dflt (refine' Does.use (by k_asm) (does_rnd _ _ _ _ _ _ (by k_extra "m fact") (by k_extra "m fact") (by k_extra "m fact") (by k_extra "m fact")) (by k_extra "m k1") (by k_extra "m k2") (by k_extra "m k3") (by k_extra "m k5") (by k_extra "m k6") (by k_extra "m k7") (by k_extra "m k8") ?_; intro r9 tl9 h9 tk9 F9 N9 l9 o9; cases o9; (try simp only [List.nil_append] at N9); clear l9; (try dsimp only); (try k_fold))))
  k_with "m lt" => (first | assumption | exact ktn_ltOf (by assumption) | ((with_reducible rename _ ∧ AllLt _ _ => hlt); exact ktn_ltOf hlt.2) | exact ktn_ltOf (And.right (by assumption)) | exact ktn_ltOf (And.right (And.right (by assumption))) | exact ktn_ltOf (And.right (And.right (And.right (by assumption)))) | exact ktn_ltOf (And.right (And.right (And.right (And.right (by assumption))))) | exact ktn_ltOf (And.right (And.right (And.right (And.right (And.right (by assumption)))))) | exact ktn_ltOf (And.right (And.right (And.right (And.right (And.right (And.right (by assumption))))))) | ktn_no "m lt")
  k_with "m back" => ((intro r9 tl9 h9 tk9 F9 N9 l9 o9; cases o9; all_goals ((try simp only [List.nil_append, List.cons_append] at N9); (first | (replace l9 := newLt l9; (try k_lt l9)) | clear l9); (try dsimp only); (try k_fold))))
  k_with "!call ref" => ((k_here; (with_reducible show wpAny _ _ (PySem.call (Value.ref 58) _) _ _ _); k_dflt (refine' Does.use (by k_asm) (does_made _ _ _ _ _ _ _ _ (by k_extra "m fact") (by k_extra "m fact") (by k_extra "m fact")) (by k_extra "m k1") (by k_extra "m k2") (by k_extra "m k3") (by k_extra "m k5") (by k_extra "m k6") (by k_extra "m k7") (by k_extra "m k8") ?_; k_extra "m back")))
  trivial
theorem fits_e1 {n bits : Int} (h : -(1 * 2 ^ (bits - 1).toNat) ≤ n) : decide (n < 1 * 2 ^ (bits - 1).toNat) = fitsB n bits := by
  unfold fitsB; simp only [Int.one_mul] at *; rw [decide_eq_true h, Bool.true_and]
theorem fits_e2 {n bits : Int} (h : ¬ -(1 * 2 ^ (bits - 1).toNat) ≤ n) : decide (-(1 * 2 ^ (bits - 1).toNat) ≤ n) = fitsB n bits := by
  unfold fitsB; simp only [Int.one_mul] at *; rw [decide_eq_false h, Bool.false_and]
set_option maxRecDepth 100000 in
set_option maxHeartbeats 8000000 in
theorem does_fits (w : World) (news : Led) (n : Int) (tn : Tok) (bits : Int) (tb : Tok) (hb : 1 ≤ bits ∧ bits ≤ 64) : Does w 3 72 [.int n tn, .int bits tb] news (OkBool (fitsB n bits)) := by
  unfold Does
  intro mean mg mb dp un gd cn cs a ccd cl outer A₀ base h₀ L m s Q E B F X N T hk hd hu ret
  obtain ⟨hb1, hb2⟩ := hb
  k_extra "m enter"
  k_steps
  all_goals refine ret _ [] _ _ (by k_asm) (by k_extra "m drop") noNew (OkBool.of ?_)
  all_goals first | exact fits_e1 (by assumption) | exact fits_e2 (by assumption)

set_option maxRecDepth 100000 in
set_option maxHeartbeats 8000000 in
theorem does_decimal_int (w : World) (news : Led) (n d : Int) (tn td : Tok) (hc : n.natAbs < 10 ^ 45) (hdd : 1 ≤ d ∧ d ≤ 12) : Does w 8 86 [.int n tn, .int d td] news (OkTup (madeC n 0 d) (madeE n 0 d)) := by
  unfold Does
  intro mean mg mb dp un gd cn cs a ccd cl outer A₀ base h₀ L m s Q E B F X N T hk hd hu ret
  k_extra "m enter"
  k_steps
  all_goals refine ret _ _ _ _ (by k_asm) (newsHead (by assumption) (by k_extra "m sub")) (oneNew (by k_extra "m lt")) (OkTup.of ?_)
  all_goals exact ⟨rfl, rfl⟩
set_option maxRecDepth 100000 in
set_option maxHeartbeats 8000000 in
theorem does_decimal_tup (w : World) (news : Led) (x : Addr) (c e d : Int) (tc te td : Tok) (hx : (x, tup2 c tc e te) ∈ news) (hc : c.natAbs < 10 ^ 45) (he : -45 ≤ e ∧ e ≤ 45) (hdd : 1 ≤ d ∧ d ≤ 12) : Does w 8 86 [.ref x, .int d td] news (OkTup (madeC c e d) (madeE c e d)) := by
  unfold Does
  intro mean mg mb dp un gd cn cs a ccd cl outer A₀ base h₀ L m s Q E B F X N T hk hd hu ret
  k_extra "m enter"
  k_steps
  all_goals refine ret _ _ _ _ (by k_asm) (newsHead (by assumption) (by k_extra "m sub")) (oneNew (by k_extra "m lt")) (OkTup.of ?_)
  all_goals exact ⟨rfl, rfl⟩
set_option maxRecDepth 100000 in
set_option maxHeartbeats 8000000 in
theorem does_negated (w : World) (news : Led) (x : Addr) (c e : Int) (tc te : Tok) (hx : (x, tup2 c tc e te) ∈ news) : Does w 2 94 [.ref x] news (OkTup (0 - c) e) := by
  unfold Does
  intro mean mg mb dp un gd cn cs a ccd cl outer A₀ base h₀ L m s Q E B F X N T hk hd hu ret
  k_extra "m enter"
  k_steps
  all_goals refine ret _ _ _ _ (by k_asm) (newsHead (by assumption) (by k_extra "m sub")) (oneNew (by k_extra "m lt")) (OkTup.of ?_)
  all_goals exact ⟨rfl, rfl⟩

/-- a tuple of three -/
abbrev tup3 (c : Int) (t : Tok) (e : Int) (u : Tok) (f : Int) (v : Tok) : Obj := { cls := .type "tuple", data := .seq #[.int c t, .int e u, .int f v] }
inductive OkTup3 (c e f : Int) : Value → Led → Prop
  | mk (a : Addr) (t u v : Tok) : OkTup3 c e f (.ref a) [(a, tup3 c t e u f v)]
theorem OkTup3.of {c e f c' e' f' : Int} {a : Addr} {t u v : Tok} (h : c' = c ∧ e' = e ∧ f' = f) : OkTup3 c e f (.ref a) [(a, tup3 c' t e' u f' v)] := by
  obtain ⟨rfl, rfl, rfl⟩ := h; exact .mk a t u v
def Sm (x : Int) : Prop := x.natAbs < 10 ^ 200
theorem Sm.bits {x : Int} (h : Sm x) : Builtin.Int.intBits x ≤ 2 ^ 20 := by
  unfold Builtin.Int.intBits
  split
  · exact Nat.zero_le _
  · have h1 := log2_lt_of (Nat.lt_trans h (p10_le_p2 200 (by decide))) (by decide)
    have h2 : 4001 + 1 ≤ 2 ^ 20 := by decide
    omega
theorem Sm.of45 {x : Int} (h : x.natAbs < 10 ^ 45) : Sm x := Nat.lt_trans h (by decide)
theorem Sm.p10 {k : Nat} (h : k < 200) : Sm ((10 : Int) ^ k) := by
  unfold Sm; rw [natAbs_p10]; exact Nat.pow_lt_pow_right (by decide) h
theorem Sm.lit {x : Int} (h : x.natAbs < 1000000) : Sm x := Nat.lt_trans h (by decide)
theorem words45_b : True := by
  k_with "m sm" => (first | assumption | exact Sm.of45 (by assumption) | exact Sm.p10 (by k_extra "m fact") | exact Sm.lit (by omega) | ktn_no "m sm")
  k_with "!binaryOp Mult int int" => ((k_here; (with_reducible refine PyProof.Rows.mul_int ?_ (IntMulOk.of_bits (Sm.bits (by k_extra "m sm")) (Sm.bits (by k_extra "m sm"))))))
  k_with "!binaryOp Pow int int" => ((k_here; (with_reducible refine pow_int_small (by omega) (by omega) (by decide) ?_)))
  trivial
set_option maxRecDepth 100000 in
set_option maxHeartbeats 8000000 in
theorem does_alike (w : World) (news : Led) (x y : Addr) (c e c' e' : Int) (tc te tc' te' : Tok) (hx : (x, tup2 c tc e te) ∈ news) (hy : (y, tup2 c' tc' e' te') ∈ news) (hc : c.natAbs < 10 ^ 45) (hc' : c'.natAbs < 10 ^ 45) (he : -50 ≤ e ∧ e ≤ 50) (he' : -50 ≤ e' ∧ e' ≤ 50) : Does w 4 101 [.ref x, .ref y] news (OkTup3 (c * 10 ^ (e - minI e e').toNat) (c' * 10 ^ (e' - minI e e').toNat) (minI e e')) := by
  unfold Does
  intro mean mg mb dp un gd cn cs a ccd cl outer A₀ base h₀ L m s Q E B F X N T hk hd hu ret
  k_extra "m enter"
  k_steps
  all_goals refine ret _ _ _ _ (by k_asm) (newsHead (by assumption) (by k_extra "m sub")) (oneNew (by k_extra "m lt")) (OkTup3.of ?_)
  all_goals exact ⟨rfl, rfl, rfl⟩
end
section
theorem words50 : True := by
  k_with_none
  k_with "m k1" => (first | k_asm | ktn_no "m use: Below")
  k_with "m k2" => (first | k_asm | ktn_no "m use: Fr")
  k_with "m k3" => (first | k_asm | ktn_no "m use: In")
  k_with "m k5" => (first | k_asm | ktn_no "m use: Top")
  k_with "m k6" => (first | assumption | exact rfl | ktn_no "m use: kind")
  k_with "m k7" => (first | exact room1 (by with_reducible assumption) (by decide) | exact room2 (by with_reducible assumption) (by decide) | ktr_room | ktn_no "m use: room")
  k_with "m k8" => (first | exact units1 (by with_reducible assumption) (by decide) | exact units2 (by with_reducible assumption) (by decide) | ktr_units | ktn_no "m use: units")
  k_with "m enter" => ((refine wpAny_call ?_; k_dflt cell_enter))
  k_with "m sub" => (first | with_reducible exact fun _ h => h | with_reducible exact fun _ h => List.mem_cons_of_mem _ h | with_reducible exact fun _ h => List.mem_cons_of_mem _ (List.mem_cons_of_mem _ h) | with_reducible exact fun _ h => List.mem_cons_of_mem _ (List.mem_cons_of_mem _ (List.mem_cons_of_mem _ h)) | kcj_all)
  k_with "m drop" => (first | with_reducible assumption | exact cb_drop (by with_reducible assumption) (by k_extra "m sub") | k_asm | (refine' cb_drop (by assumption) (by kcj_all)) | ktn_no "m drop: the ledger")
  k_with "m fact" => (first | assumption | (constructor <;> assumption) | omega | (simp only [decide_eq_true_eq, decide_eq_false_iff_not, Int.not_lt, Int.not_le, gt_iff_lt, ge_iff_le] at *; omega) | ktn_no "m fact")
  k_with "!call ref" => ((k_here; (with_reducible show wpAny _ _ (PySem.call (Value.ref 44) _) _ _ _); k_dflt (refine' Does.use (by k_asm) (does_figs _ _ _ _ (by k_extra "m fact")) (by k_extra "m k1") (by k_extra "m k2") (by k_extra "m k3") (by k_extra "m k5") (by k_extra "m k6") (by k_extra "m k7") (by k_extra "m k8") ?_; intro r9 tl9 h9 tk9 F9 N9 l9 o9; cases o9; (try simp only [List.nil_append] at N9); clear l9; (try dsimp only); (try k_fold))))
  k_with "!call ref" => ((k_here; (with_reducible show wpAny _ _ (PySem.call (Value.ref 51) _) _ _ _); k_dflt (refine' Does.use (by k_asm) (does_rnd _ _ _ _ _ _ (by k_extra "m fact") (by k_extra "m fact") (by k_extra "m fact") (by k_extra "m fact")) (by k_extra "m k1") (by k_extra "m k2") (by k_extra "m k3") (by k_extra "m k5") (by k_extra "m k6") (by k_extra "m k7") (by k_extra "m k8") ?_; intro r9 tl9 h9 tk9 F9 N9 l9 o9; cases o9; (try simp only [List.nil_append] at N9); clear l9; (try dsimp only); (try k_fold))))
  k_with "m lt" => (first | assumption | exact ktn_ltOf (by assumption) | ((with_reducible rename _ ∧ AllLt _ _ => hlt); exact ktn_ltOf hlt.2) | exact ktn_ltOf (And.right (by assumption)) | exact ktn_ltOf (And.right (And.right (by assumption))) | exact ktn_ltOf (And.right (And.right (And.right (by assumption)))) | exact ktn_ltOf (And.right (And.right (And.right (And.right (by assumption))))) | exact ktn_ltOf (And.right (And.right (And.right (And.right (And.right (by assumption)))))) | exact ktn_ltOf (And.right (And.right (And.right (And.right (And.right (And.right (by assumption))))))) | ktn_no "m lt")
  k_with "m back" => ((intro r9 tl9 h9 tk9 F9 N9 l9 o9; cases o9; all_goals ((try simp only [List.nil_append, List.cons_append] at N9); (first | (replace l9 := newLt l9; (try k_lt l9)) | clear l9); (try dsimp only); (try k_fold))))
  k_with "!call ref" => ((k_here; (with_reducible show wpAny _ _ (PySem.call (Value.ref 58) _) _ _ _); k_dflt (refine' Does.use (by k_asm) (does_made _ _ _ _ _ _ _ _ (by k_extra "m fact") (by k_extra "m fact") (by k_extra "m fact")) (by k_extra "m k1") (by k_extra "m k2") (by k_extra "m k3") (by k_extra "m k5") (by k_extra "m k6") (by k_extra "m k7") (by k_extra "m k8") ?_; k_extra "m back")))
  k_with "m sm" => (first | assumption | exact Sm.of45 (by assumption) | exact Sm.p10 (by k_extra "m fact") | exact Sm.lit (by omega) | ktn_no "m sm")
  k_with "!binaryOp Mult int int" => ((k_here; (with_reducible refine PyProof.Rows.mul_int ?_ (IntMulOk.of_bits (Sm.bits (by k_extra "m sm")) (Sm.bits (by k_extra "m sm"))))))
  k_with "!call ref" => ((k_here; (with_reducible show wpAny _ _ (PySem.call (Value.ref 72) _) _ _ _); k_dflt (refine' Does.use (by k_asm) (does_fits _ _ _ _ _ _ (by k_extra "m fact")) (by k_extra "m k1") (by k_extra "m k2") (by k_extra "m k3") (by k_extra "m k5") (by k_extra "m k6") (by k_extra "m k7") (by k_extra "m k8") ?_; k_extra "m back")))
  k_with "!call ref" => ((k_here; (with_reducible show wpAny _ _ (PySem.call (Value.ref 86) _) _ _ _); k_dflt (refine' Does.use (by k_asm) (does_decimal_int _ _ _ _ _ _ (by k_extra "m fact") (by k_extra "m fact")) (by k_extra "m k1") (by k_extra "m k2") (by k_extra "m k3") (by k_extra "m k5") (by k_extra "m k6") (by k_extra "m k7") (by k_extra "m k8") ?_; k_extra "m back")))
  k_with "!call ref" => ((k_here; (with_reducible show wpAny _ _ (PySem.call (Value.ref 86) _) _ _ _); k_dflt (refine' Does.use (by k_asm) (does_decimal_tup _ _ _ _ _ _ _ _ _ (by k_mem) (by k_extra "m fact") (by k_extra "m fact") (by k_extra "m fact")) (by k_extra "m k1") (by k_extra "m k2") (by k_extra "m k3") (by k_extra "m k5") (by k_extra "m k6") (by k_extra "m k7") (by k_extra "m k8") ?_; k_extra "m back")))
  k_with "!call ref" => ((k_here; (with_reducible show wpAny _ _ (PySem.call (Value.ref 94) _) _ _ _); k_dflt (refine' Does.use (by k_asm) (does_negated _ _ _ _ _ _ _ (by k_mem)) (by k_extra "m k1") (by k_extra "m k2") (by k_extra "m k3") (by k_extra "m k5") (by k_extra "m k6") (by k_extra "m k7") (by k_extra "m k8") ?_; k_extra "m back")))
  k_with "!call ref" => ((k_here; (with_reducible show wpAny _ _ (PySem.call (Value.ref 101) _) _ _ _); k_dflt (refine' Does.use (by k_asm) (does_alike _ _ _ _ _ _ _ _ _ _ _ _ (by k_mem) (by k_mem) (by k_extra "m fact") (by k_extra "m fact") (by k_extra "m fact") (by k_extra "m fact")) (by k_extra "m k1") (by k_extra "m k2") (by k_extra "m k3") (by k_extra "m k5") (by k_extra "m k6") (by k_extra "m k7") (by k_extra "m k8") ?_; k_extra "m back")))
  trivial
theorem words50_b : True := by
  k_with "m fin2" => (exact ⟨rfl, rfl⟩)
  trivial
set_option maxRecDepth 100000 in
set_option maxHeartbeats 8000000 in
theorem does_add (w : World) (news : Led) (x y : Addr) (c e c' e' d : Int) (tc te tc' te' td : Tok) (hx : (x, tup2 c tc e te) ∈ news) (hy : (y, tup2 c' tc' e' te') ∈ news) (hc : c.natAbs < 10 ^ 45) (hc' : c'.natAbs < 10 ^ 45)
    (he : -45 ≤ e ∧ e ≤ 45) (he' : -45 ≤ e' ∧ e' ≤ 45) (hs : (addS c e c' e').natAbs < 10 ^ 45) (hdd : 1 ≤ d ∧ d ≤ 12) : Does w 8 108 [.ref x, .ref y, .int d td] news (OkTup (madeC (addS c e c' e') (minI e e') d) (madeE (addS c e c' e') (minI e e') d)) := by
  unfold Does
  intro mean mg mb dp un gd cn cs a ccd cl outer A₀ base h₀ L m s Q E B F X N T hk hd hu ret
  have hs' : (c * 10 ^ (e - minI e e').toNat + c' * 10 ^ (e' - minI e e').toNat).natAbs < 10 ^ 45 := hs
  have hm : -45 ≤ minI e e' ∧ minI e e' ≤ 45 := by unfold minI; split <;> omega
  k_extra "m enter"
  k_steps
  all_goals refine ret _ _ _ _ (by k_asm) (newsHead (by assumption) (by k_extra "m sub")) (oneNew (by k_extra "m lt")) (OkTup.of ?_)
  all_goals exact ⟨rfl, rfl⟩
set_option maxRecDepth 100000 in
set_option maxHeartbeats 8000000 in
theorem does_mul (w : World) (news : Led) (x y : Addr) (c e c' e' d : Int) (tc te tc' te' td : Tok) (hx : (x, tup2 c tc e te) ∈ news) (hy : (y, tup2 c' tc' e' te') ∈ news) (hc : c.natAbs < 10 ^ 45) (hc' : c'.natAbs < 10 ^ 45)
    (he : -45 ≤ e + e' ∧ e + e' ≤ 45) (hs : (c * c').natAbs < 10 ^ 45) (hdd : 1 ≤ d ∧ d ≤ 12) : Does w 8 122 [.ref x, .ref y, .int d td] news (OkTup (madeC (c * c') (e + e') d) (madeE (c * c') (e + e') d)) := by
  unfold Does
  intro mean mg mb dp un gd cn cs a ccd cl outer A₀ base h₀ L m s Q E B F X N T hk hd hu ret
  k_extra "m enter"
  k_steps
  all_goals refine ret _ _ _ _ (by k_asm) (newsHead (by assumption) (by k_extra "m sub")) (oneNew (by k_extra "m lt")) (OkTup.of ?_)
  all_goals exact ⟨rfl, rfl⟩
set_option maxRecDepth 100000 in
set_option maxHeartbeats 8000000 in
theorem does_rest (w : World) (news : Led) (q r x : Int) (tq tr tx : Tok) : Does w 2 129 [.int q tq, .int r tr, .int x tx] news (OkTup (wrC q r) (wrE x r)) := by
  unfold Does
  intro mean mg mb dp un gd cn cs a ccd cl outer A₀ base h₀ L m s Q E B F X N T hk hd hu ret
  k_extra "m enter"
  k_steps
  all_goals refine ret _ _ _ _ (by k_asm) (newsHead (by assumption) (by k_extra "m sub")) (oneNew (by k_extra "m lt")) (OkTup.of ?_)
  all_goals first | exact ⟨(if_pos (by assumption)).symm, (if_pos (by assumption)).symm⟩ | exact ⟨(if_neg (by assumption)).symm, (if_neg (by assumption)).symm⟩
set_option maxRecDepth 100000 in
set_option maxHeartbeats 8000000 in
theorem does_is_whole (w : World) (news : Led) (n : Int) (tn : Tok) : Does w 2 164 [.int n tn] news (OkBool true) := by
  unfold Does
  intro mean mg mb dp un gd cn cs a ccd cl outer A₀ base h₀ L m s Q E B F X N T hk hd hu ret
  k_extra "m enter"
  k_steps
  all_goals refine ret _ [] _ _ (by k_asm) (by k_extra "m drop") noNew (OkBool.of ?_)
  all_goals rfl
set_option maxRecDepth 100000 in
set_option maxHeartbeats 8000000 in
theorem does_is_dec (w : World) (news : Led) (x : Addr) (c e : Int) (tc te : Tok) (hx : (x, tup2 c tc e te) ∈ news) : Does w 2 164 [.ref x] news (OkBool false) := by
  unfold Does
  intro mean mg mb dp un gd cn cs a ccd cl outer A₀ base h₀ L m s Q E B F X N T hk hd hu ret
  k_extra "m enter"
  k_steps
  all_goals refine ret _ [] _ _ (by k_asm) (by k_extra "m drop") noNew (OkBool.of ?_)
  all_goals rfl
inductive OkKept (n bits d : Int) : Value → Led → Prop
  | whole (t : Tok) (h : fitsB n bits = true) : OkKept n bits d (.int n t) []
  | dec (a : Addr) (t u : Tok) (h : fitsB n bits = false) : OkKept n bits d (.ref a) [(a, tup2 (madeC n 0 d) t (madeE n 0 d) u)]
set_option maxRecDepth 100000 in
set_option maxHeartbeats 8000000 in
theorem does_settled (w : World) (news : Led) (n bits d : Int) (tn tb td : Tok) (hb : 1 ≤ bits ∧ bits ≤ 64) (hc : n.natAbs < 10 ^ 45) (hdd : 1 ≤ d ∧ d ≤ 12) : Does w 8 171 [.int n tn, .int bits tb, .int d td] news (OkKept n bits d) := by
  unfold Does
  intro mean mg mb dp un gd cn cs a ccd cl outer A₀ base h₀ L m s Q E B F X N T hk hd hu ret
  k_extra "m enter"
  k_steps
  all_goals first
    | exact ret _ _ _ _ (by k_asm) (newsHead (by assumption) (by k_extra "m sub")) (oneNew (by k_extra "m lt")) (OkKept.dec _ _ _ (by simpa using ‹_›))
    | exact ret _ [] _ _ (by k_asm) (by k_extra "m drop") noNew (OkKept.whole _ (by assumption))
    | trace_state
end
section
theorem words55 : True := by
  k_with_none
  k_with "m k1" => (first | k_asm | ktn_no "m use: Below")
  k_with "m k2" => (first | k_asm | ktn_no "m use: Fr")
  k_with "m k3" => (first | k_asm | ktn_no "m use: In")
  k_with "m k5" => (first | k_asm | ktn_no "m use: Top")
  k_with "m k6" => (first | assumption | exact rfl | ktn_no "m use: kind")
  k_with "m k7" => (first | exact room1 (by with_reducible assumption) (by decide) | exact room2 (by with_reducible assumption) (by decide) | ktr_room | ktn_no "m use: room")
  k_with "m k8" => (first | exact units1 (by with_reducible assumption) (by decide) | exact units2 (by with_reducible assumption) (by decide) | ktr_units | ktn_no "m use: units")
  k_with "m enter" => ((refine wpAny_call ?_; k_dflt cell_enter))
  k_with "m sub" => (first | with_reducible exact fun _ h => h | with_reducible exact fun _ h => List.mem_cons_of_mem _ h | with_reducible exact fun _ h => List.mem_cons_of_mem _ (List.mem_cons_of_mem _ h) | with_reducible exact fun _ h => List.mem_cons_of_mem _ (List.mem_cons_of_mem _ (List.mem_cons_of_mem _ h)) | kcj_all)
  k_with "m drop" => (first | with_reducible assumption | exact cb_drop (by with_reducible assumption) (by k_extra "m sub") | k_asm | (refine' cb_drop (by assumption) (by kcj_all)) | ktn_no "m drop: the ledger")
  k_with "m fact" => (first | assumption | (constructor <;> assumption) | omega | (simp only [decide_eq_true_eq, decide_eq_false_iff_not, Int.not_lt, Int.not_le, gt_iff_lt, ge_iff_le] at *; omega) | ktn_no "m fact")
  k_with "!call ref" => ((k_here; (with_reducible show wpAny _ _ (PySem.call (Value.ref 44) _) _ _ _); k_dflt (refine' Does.use (by k_asm) (does_figs _ _ _ _ (by k_extra "m fact")) (by k_extra "m k1") (by k_extra "m k2") (by k_extra "m k3") (by k_extra "m k5") (by k_extra "m k6") (by k_extra "m k7") (by k_extra "m k8") ?_; intro r9 tl9 h9 tk9 F9 N9 l9 o9; cases o9; (try simp only [List.nil_append] at N9); clear l9; (try dsimp only); (try k_fold))))
  k_with "!call ref" => ((k_here; (with_reducible show wpAny _ _ (PySem.call (Value.ref 51) _) _ _ _); k_dflt (refine' Does.use (by k_asm) (does_rnd _ _ _ _ _ _ (by k_extra "m fact") (by k_extra "m fact") (by k_extra "m fact") (by k_extra "m fact")) (by k_extra "m k1") (by k_extra "m k2") (by k_extra "m k3") (by k_extra "m k5") (by k_extra "m k6") (by k_extra "m k7") (by k_extra "m k8") ?_; intro r9 tl9 h9 tk9 F9 N9 l9 o9; cases o9; (try simp only [List.nil_append] at N9); clear l9; (try dsimp only); (try k_fold))))
  k_with "m lt" => (first | assumption | exact ktn_ltOf (by assumption) | ((with_reducible rename _ ∧ AllLt _ _ => hlt); exact ktn_ltOf hlt.2) | exact ktn_ltOf (And.right (by assumption)) | exact ktn_ltOf (And.right (And.right (by assumption))) | exact ktn_ltOf (And.right (And.right (And.right (by assumption)))) | exact ktn_ltOf (And.right (And.right (And.right (And.right (by assumption))))) | exact ktn_ltOf (And.right (And.right (And.right (And.right (And.right (by assumption)))))) | exact ktn_ltOf (And.right (And.right (And.right (And.right (And.right (And.right (by assumption))))))) | ktn_no "m lt")
  k_with "m back" => ((intro r9 tl9 h9 tk9 F9 N9 l9 o9; cases o9; all_goals ((try simp only [List.nil_append, List.cons_append] at N9); (first | (replace l9 := newLt l9; (try k_lt l9)) | clear l9); (try dsimp only); (try k_fold))))
  k_with "!call ref" => ((k_here; (with_reducible show wpAny _ _ (PySem.call (Value.ref 58) _) _ _ _); k_dflt (refine' Does.use (by k_asm) (does_made _ _ _ _ _ _ _ _ (by k_extra "m fact") (by k_extra "m fact") (by k_extra "m fact")) (by k_extra "m k1") (by k_extra "m k2") (by k_extra "m k3") (by k_extra "m k5") (by k_extra "m k6") (by k_extra "m k7") (by k_extra "m k8") ?_; k_extra "m back")))
  k_with "m sm" => (first | assumption | exact Sm.of45 (by assumption) | exact Sm.p10 (by k_extra "m fact") | exact Sm.lit (by omega) | ktn_no "m sm")
  k_with "!binaryOp Mult int int" => ((k_here; (with_reducible refine PyProof.Rows.mul_int ?_ (IntMulOk.of_bits (Sm.bits (by k_extra "m sm")) (Sm.bits (by k_extra "m sm"))))))
  k_with "!call ref" => ((k_here; (with_reducible show wpAny _ _ (PySem.call (Value.ref 72) _) _ _ _); k_dflt (refine' Does.use (by k_asm) (does_fits _ _ _ _ _ _ (by k_extra "m fact")) (by k_extra "m k1") (by k_extra "m k2") (by k_extra "m k3") (by k_extra "m k5") (by k_extra "m k6") (by k_extra "m k7") (by k_extra "m k8") ?_; k_extra "m back")))
  k_with "!call ref" => ((k_here; (with_reducible show wpAny _ _ (PySem.call (Value.ref 86) _) _ _ _); k_dflt (refine' Does.use (by k_asm) (does_decimal_int _ _ _ _ _ _ (by k_extra "m fact") (by k_extra "m fact")) (by k_extra "m k1") (by k_extra "m k2") (by k_extra "m k3") (by k_extra "m k5") (by k_extra "m k6") (by k_extra "m k7") (by k_extra "m k8") ?_; k_extra "m back")))
  k_with "!call ref" => ((k_here; (with_reducible show wpAny _ _ (PySem.call (Value.ref 86) _) _ _ _); k_dflt (refine' Does.use (by k_asm) (does_decimal_tup _ _ _ _ _ _ _ _ _ (by k_mem) (by k_extra "m fact") (by k_extra "m fact") (by k_extra "m fact")) (by k_extra "m k1") (by k_extra "m k2") (by k_extra "m k3") (by k_extra "m k5") (by k_extra "m k6") (by k_extra "m k7") (by k_extra "m k8") ?_; k_extra "m back")))
  k_with "!call ref" => ((k_here; (with_reducible show wpAny _ _ (PySem.call (Value.ref 94) _) _ _ _); k_dflt (refine' Does.use (by k_asm) (does_negated _ _ _ _ _ _ _ (by k_mem)) (by k_extra "m k1") (by k_extra "m k2") (by k_extra "m k3") (by k_extra "m k5") (by k_extra "m k6") (by k_extra "m k7") (by k_extra "m k8") ?_; k_extra "m back")))
  k_with "!call ref" => ((k_here; (with_reducible show wpAny _ _ (PySem.call (Value.ref 101) _) _ _ _); k_dflt (refine' Does.use (by k_asm) (does_alike _ _ _ _ _ _ _ _ _ _ _ _ (by k_mem) (by k_mem) (by k_extra "m fact") (by k_extra "m fact") (by k_extra "m fact") (by k_extra "m fact")) (by k_extra "m k1") (by k_extra "m k2") (by k_extra "m k3") (by k_extra "m k5") (by k_extra "m k6") (by k_extra "m k7") (by k_extra "m k8") ?_; k_extra "m back")))
  k_with "!call ref" => ((k_here; (with_reducible show wpAny _ _ (PySem.call (Value.ref 108) _) _ _ _); k_dflt (refine' Does.use (by k_asm) (does_add _ _ _ _ _ _ _ _ _ _ _ _ _ _ (by k_mem) (by k_mem) (by k_extra "m fact") (by k_extra "m fact") (by k_extra "m fact") (by k_extra "m fact") (by k_extra "m fact") (by k_extra "m fact")) (by k_extra "m k1") (by k_extra "m k2") (by k_extra "m k3") (by k_extra "m k5") (by k_extra "m k6") (by k_extra "m k7") (by k_extra "m k8") ?_; k_extra "m back")))
  k_with "!call ref" => ((k_here; (with_reducible show wpAny _ _ (PySem.call (Value.ref 122) _) _ _ _); k_dflt (refine' Does.use (by k_asm) (does_mul _ _ _ _ _ _ _ _ _ _ _ _ _ _ (by k_mem) (by k_mem) (by k_extra "m fact") (by k_extra "m fact") (by k_extra "m fact") (by k_extra "m fact") (by k_extra "m fact")) (by k_extra "m k1") (by k_extra "m k2") (by k_extra "m k3") (by k_extra "m k5") (by k_extra "m k6") (by k_extra "m k7") (by k_extra "m k8") ?_; k_extra "m back")))
  k_with "!call ref" => ((k_here; (with_reducible show wpAny _ _ (PySem.call (Value.ref 129) _) _ _ _); k_dflt (refine' Does.use (by k_asm) (does_rest _ _ _ _ _ _ _ _) (by k_extra "m k1") (by k_extra "m k2") (by k_extra "m k3") (by k_extra "m k5") (by k_extra "m k6") (by k_extra "m k7") (by k_extra "m k8") ?_; k_extra "m back")))
  k_with "!call ref" => ((k_here; (with_reducible show wpAny _ _ (PySem.call (Value.ref 164) _) _ _ _); k_dflt (refine' Does.use (by k_asm) (does_is_whole _ _ _ _) (by k_extra "m k1") (by k_extra "m k2") (by k_extra "m k3") (by k_extra "m k5") (by k_extra "m k6") (by k_extra "m k7") (by k_extra "m k8") ?_; k_extra "m back")))
  k_with "!call ref" => ((k_here; (with_reducible show wpAny _ _ (PySem.call (Value.ref 164) _) _ _ _); k_dflt (refine' Does.use (by k_asm) (does_is_dec _ _ _ _ _ _ _ (by k_mem)) (by k_extra "m k1") (by k_extra "m k2") (by k_extra "m k3") (by k_extra "m k5") (by k_extra "m k6") (by k_extra "m k7") (by k_extra "m k8") ?_; k_extra "m back")))
  k_with "!call ref" => ((k_here; (with_reducible show wpAny _ _ (PySem.call (Value.ref 171) _) _ _ _); k_dflt (refine' Does.use (by k_asm) (does_settled _ _ _ _ _ _ _ _ (by k_extra "m fact") (by k_extra "m fact") (by k_extra "m fact")) (by k_extra "m k1") (by k_extra "m k2") (by k_extra "m k3") (by k_extra "m k5") (by k_extra "m k6") (by k_extra "m k7") (by k_extra "m k8") ?_; k_extra "m back")))
  trivial
def cmpI (x y : Int) : Int := b2i (decide (y < x)) - b2i (decide (x < y))
set_option maxRecDepth 100000 in
set_option maxHeartbeats 8000000 in
theorem does_sub (w : World) (news : Led) (x y : Addr) (c e c' e' d : Int) (tc te tc' te' td : Tok) (hx : (x, tup2 c tc e te) ∈ news) (hy : (y, tup2 c' tc' e' te') ∈ news) (hc : c.natAbs < 10 ^ 45) (hc' : (0 - c').natAbs < 10 ^ 45)
    (he : -45 ≤ e ∧ e ≤ 45) (he' : -45 ≤ e' ∧ e' ≤ 45) (hs : (addS c e (0 - c') e').natAbs < 10 ^ 45) (hdd : 1 ≤ d ∧ d ≤ 12) : Does w 10 115 [.ref x, .ref y, .int d td] news (OkTup (madeC (addS c e (0 - c') e') (minI e e') d) (madeE (addS c e (0 - c') e') (minI e e') d)) := by
  unfold Does
  intro mean mg mb dp un gd cn cs a ccd cl outer A₀ base h₀ L m s Q E B F X N T hk hd hu ret
  k_extra "m enter"
  k_steps
  all_goals refine ret _ _ _ _ (by k_asm) (newsHead (by assumption) (by k_extra "m sub")) (oneNew (by k_extra "m lt")) (OkTup.of ?_)
  all_goals exact ⟨rfl, rfl⟩
set_option maxRecDepth 100000 in
set_option maxHeartbeats 8000000 in
theorem does_compare (w : World) (news : Led) (x y : Addr) (c e c' e' : Int) (tc te tc' te' : Tok) (hx : (x, tup2 c tc e te) ∈ news) (hy : (y, tup2 c' tc' e' te') ∈ news) (hc : c.natAbs < 10 ^ 45) (hc' : c'.natAbs < 10 ^ 45)
    (he : -45 ≤ e ∧ e ≤ 45) (he' : -45 ≤ e' ∧ e' ≤ 45) : Does w 6 143 [.ref x, .ref y] news (OkInt (cmpI (c * 10 ^ (e - minI e e').toNat) (c' * 10 ^ (e' - minI e e').toNat))) := by
  unfold Does
  intro mean mg mb dp un gd cn cs a ccd cl outer A₀ base h₀ L m s Q E B F X N T hk hd hu ret
  k_extra "m enter"
  k_steps
  all_goals refine ret _ [] _ _ (by k_asm) (by k_extra "m drop") noNew (OkInt.of _ ?_)
  all_goals rfl
theorem sign_same {c c' : Int} (h1 : 0 < c) (h2 : 0 < c') (h : (decide (c < 0) == decide (c' < 0)) = false) : False := by
  rw [decide_eq_false (by omega), decide_eq_false (by omega)] at h
  cases h
set_option maxRecDepth 100000 in
set_option maxHeartbeats 8000000 in
theorem does_div (w : World) (news : Led) (x y : Addr) (c e c' e' d : Int) (tc te tc' te' td : Tok) (hx : (x, tup2 c tc e te) ∈ news) (hy : (y, tup2 c' tc' e' te') ∈ news) (hc : 0 < c ∧ c ≤ 1000) (hc' : 0 < c' ∧ c' ≤ 1000)
    (he : -10 ≤ e ∧ e ≤ 10) (he' : -10 ≤ e' ∧ e' ≤ 10) (hdd : 1 ≤ d ∧ d ≤ 12) : Does w 8 136 [.ref x, .ref y, .int d td] news (OkTup (madeC (divQ c c' d) (divX c e c' e' d) d) (madeE (divQ c c' d) (divX c e c' e' d) d)) := by
  unfold Does
  intro mean mg mb dp un gd cn cs a ccd cl outer A₀ base h₀ L m s Q E B F X N T hk hd hu ret
  obtain ⟨hc1, hc2⟩ := hc
  obtain ⟨hc1', hc2'⟩ := hc'
  obtain ⟨hf1, hf2, hf3, hf4, hf5⟩ := abs_small hc1 hc2
  obtain ⟨hg1, hg2, hg3, hg4, hg5⟩ := abs_small hc1' hc2'
  have hQ := (divQ_facts hc1 hc2 hc1' hc2' hdd).1
  have hX := divX_facts hc1 hc2 hc1' hc2' he he' hdd
  obtain ⟨hd1, hd2⟩ := hdd
  k_extra "m enter"
  k_steps
  all_goals try (exfalso; first | omega | exact sign_same hc1 hc1' (by assumption))
  all_goals refine ret _ _ _ _ (by k_asm) (newsHead (by assumption) (by k_extra "m sub")) (oneNew (by k_extra "m lt")) (OkTup.of ?_)
  all_goals exact ⟨rfl, rfl⟩
end
section
theorem words60 : True := by
  k_with_none
  k_with "m k1" => (first | k_asm | ktn_no "m use: Below")
  k_with "m k2" => (first | k_asm | ktn_no "m use: Fr")
  k_with "m k3" => (first | k_asm | ktn_no "m use: In")
  k_with "m k5" => (first | k_asm | ktn_no "m use: Top")
  k_with "m k6" => (first | assumption | exact rfl | ktn_no "m use: kind")
  k_with "m k7" => (first | exact room1 (by with_reducible assumption) (by decide) | exact room2 (by with_reducible assumption) (by decide) | ktr_room | ktn_no "m use: room")
  k_with "m k8" => (first | exact units1 (by with_reducible assumption) (by decide) | exact units2 (by with_reducible assumption) (by decide) | ktr_units | ktn_no "m use: units")
  k_with "m enter" => ((refine wpAny_call ?_; k_dflt cell_enter))
  k_with "m sub" => (first | with_reducible exact fun _ h => h | with_reducible exact fun _ h => List.mem_cons_of_mem _ h | with_reducible exact fun _ h => List.mem_cons_of_mem _ (List.mem_cons_of_mem _ h) | with_reducible exact fun _ h => List.mem_cons_of_mem _ (List.mem_cons_of_mem _ (List.mem_cons_of_mem _ h)) | kcj_all)
  k_with "m drop" => (first | with_reducible assumption | exact cb_drop (by with_reducible assumption) (by k_extra "m sub") | k_asm | (refine' cb_drop (by assumption) (by kcj_all)) | ktn_no "m drop: the ledger")
  k_with "m fact" => (first | assumption | (constructor <;> assumption) | omega | (simp only [decide_eq_true_eq, decide_eq_false_iff_not, Int.not_lt, Int.not_le, gt_iff_lt, ge_iff_le] at *; omega) | ktn_no "m fact")
  k_with "!call ref" => ((k_here; (with_reducible show wpAny _ _ (PySem.call (Value.ref 44) _) _ _ _); k_dflt (refine' Does.use (by k_asm) (does_figs _ _ _ _ (by k_extra "m fact")) (by k_extra "m k1") (by k_extra "m k2") (by k_extra "m k3") (by k_extra "m k5") (by k_extra "m k6") (by k_extra "m k7") (by k_extra "m k8") ?_; intro r9 tl9 h9 tk9 F9 N9 l9 o9; cases o9; (try simp only [List.nil_append] at N9); clear l9; (try dsimp only); (try k_fold))))
  k_with "!call ref" => ((k_here; (with_reducible show wpAny _ _ (PySem.call (Value.ref 51) _) _ _ _); k_dflt (refine' Does.use (by k_asm) (does_rnd _ _ _ _ _ _ (by k_extra "m fact") (by k_extra "m fact") (by k_extra "m fact") (by k_extra "m fact")) (by k_extra "m k1") (by k_extra "m k2") (by k_extra "m k3") (by k_extra "m k5") (by k_extra "m k6") (by k_extra "m k7") (by k_extra "m k8") ?_; intro r9 tl9 h9 tk9 F9 N9 l9 o9; cases o9; (try simp only [List.nil_append] at N9); clear l9; (try dsimp only); (try k_fold))))
  k_with "m lt" => (first | assumption | exact ktn_ltOf (by assumption) | ((with_reducible rename _ ∧ AllLt _ _ => hlt); exact ktn_ltOf hlt.2) | exact ktn_ltOf (And.right (by assumption)) | exact ktn_ltOf (And.right (And.right (by assumption))) | exact ktn_ltOf (And.right (And.right (And.right (by assumption)))) | exact ktn_ltOf (And.right (And.right (And.right (And.right (by assumption))))) | exact ktn_ltOf (And.right (And.right (And.right (And.right (And.right (by assumption)))))) | exact ktn_ltOf (And.right (And.right (And.right (And.right (And.right (And.right (by assumption))))))) | ktn_no "m lt")
  k_with "m back" => ((intro r9 tl9 h9 tk9 F9 N9 l9 o9; cases o9; all_goals ((try simp only [List.nil_append, List.cons_append] at N9); (first | (replace l9 := newLt l9; (try k_lt l9)) | clear l9); (try dsimp only); (try k_fold))))
  k_with "!call ref" => ((k_here; (with_reducible show wpAny _ _ (PySem.call (Value.ref 58) _) _ _ _); k_dflt (refine' Does.use (by k_asm) (does_made _ _ _ _ _ _ _ _ (by k_extra "m fact") (by k_extra "m fact") (by k_extra "m fact")) (by k_extra "m k1") (by k_extra "m k2") (by k_extra "m k3") (by k_extra "m k5") (by k_extra "m k6") (by k_extra "m k7") (by k_extra "m k8") ?_; k_extra "m back")))
  k_with "m sm" => (first | assumption | exact Sm.of45 (by assumption) | exact Sm.p10 (by k_extra "m fact") | exact Sm.lit (by omega) | ktn_no "m sm")
  k_with "!binaryOp Mult int int" => ((k_here; (with_reducible refine PyProof.Rows.mul_int ?_ (IntMulOk.of_bits (Sm.bits (by k_extra "m sm")) (Sm.bits (by k_extra "m sm"))))))
  k_with "!call ref" => ((k_here; (with_reducible show wpAny _ _ (PySem.call (Value.ref 72) _) _ _ _); k_dflt (refine' Does.use (by k_asm) (does_fits _ _ _ _ _ _ (by k_extra "m fact")) (by k_extra "m k1") (by k_extra "m k2") (by k_extra "m k3") (by k_extra "m k5") (by k_extra "m k6") (by k_extra "m k7") (by k_extra "m k8") ?_; k_extra "m back")))
  k_with "!call ref" => ((k_here; (with_reducible show wpAny _ _ (PySem.call (Value.ref 86) _) _ _ _); k_dflt (refine' Does.use (by k_asm) (does_decimal_int _ _ _ _ _ _ (by k_extra "m fact") (by k_extra "m fact")) (by k_extra "m k1") (by k_extra "m k2") (by k_extra "m k3") (by k_extra "m k5") (by k_extra "m k6") (by k_extra "m k7") (by k_extra "m k8") ?_; k_extra "m back")))
  k_with "!call ref" => ((k_here; (with_reducible show wpAny _ _ (PySem.call (Value.ref 86) _) _ _ _); k_dflt (refine' Does.use (by k_asm) (does_decimal_tup _ _ _ _ _ _ _ _ _ (by k_mem) (by k_extra "m fact") (by k_extra "m fact") (by k_extra "m fact")) (by k_extra "m k1") (by k_extra "m k2") (by k_extra "m k3") (by k_extra "m k5") (by k_extra "m k6") (by k_extra "m k7") (by k_extra "m k8") ?_; k_extra "m back")))
  k_with "!call ref" => ((k_here; (with_reducible show wpAny _ _ (PySem.call (Value.ref 94) _) _ _ _); k_dflt (refine' Does.use (by k_asm) (does_negated _ _ _ _ _ _ _ (by k_mem)) (by k_extra "m k1") (by k_extra "m k2") (by k_extra "m k3") (by k_extra "m k5") (by k_extra "m k6") (by k_extra "m k7") (by k_extra "m k8") ?_; k_extra "m back")))
  k_with "!call ref" => ((k_here; (with_reducible show wpAny _ _ (PySem.call (Value.ref 101) _) _ _ _); k_dflt (refine' Does.use (by k_asm) (does_alike _ _ _ _ _ _ _ _ _ _ _ _ (by k_mem) (by k_mem) (by k_extra "m fact") (by k_extra "m fact") (by k_extra "m fact") (by k_extra "m fact")) (by k_extra "m k1") (by k_extra "m k2") (by k_extra "m k3") (by k_extra "m k5") (by k_extra "m k6") (by k_extra "m k7") (by k_extra "m k8") ?_; k_extra "m back")))
  k_with "!call ref" => ((k_here; (with_reducible show wpAny _ _ (PySem.call (Value.ref 108) _) _ _ _); k_dflt (refine' Does.use (by k_asm) (does_add _ _ _ _ _ _ _ _ _ _ _ _ _ _ (by k_mem) (by k_mem) (by k_extra "m fact") (by k_extra "m fact") (by k_extra "m fact") (by k_extra "m fact") (by k_extra "m fact") (by k_extra "m fact")) (by k_extra "m k1") (by k_extra "m k2") (by k_extra "m k3") (by k_extra "m k5") (by k_extra "m k6") (by k_extra "m k7") (by k_extra "m k8") ?_; k_extra "m back")))
  k_with "!call ref" => ((k_here; (with_reducible show wpAny _ _ (PySem.call (Value.ref 122) _) _ _ _); k_dflt (refine' Does.use (by k_asm) (does_mul _ _ _ _ _ _ _ _ _ _ _ _ _ _ (by k_mem) (by k_mem) (by k_extra "m fact") (by k_extra "m fact") (by k_extra "m fact") (by k_extra "m fact") (by k_extra "m fact")) (by k_extra "m k1") (by k_extra "m k2") (by k_extra "m k3") (by k_extra "m k5") (by k_extra "m k6") (by k_extra "m k7") (by k_extra "m k8") ?_; k_extra "m back")))
  k_with "!call ref" => ((k_here; (with_reducible show wpAny _ _ (PySem.call (Value.ref 129) _) _ _ _); k_dflt (refine' Does.use (by k_asm) (does_rest _ _ _ _ _ _ _ _) (by k_extra "m k1") (by k_extra "m k2") (by k_extra "m k3") (by k_extra "m k5") (by k_extra "m k6") (by k_extra "m k7") (by k_extra "m k8") ?_; k_extra "m back")))
  k_with "!call ref" => ((k_here; (with_reducible show wpAny _ _ (PySem.call (Value.ref 164) _) _ _ _); k_dflt (refine' Does.use (by k_asm) (does_is_whole _ _ _ _) (by k_extra "m k1") (by k_extra "m k2") (by k_extra "m k3") (by k_extra "m k5") (by k_extra "m k6") (by k_extra "m k7") (by k_extra "m k8") ?_; k_extra "m back")))
  k_with "!call ref" => ((k_here; (with_reducible show wpAny _ _ (PySem.call (Value.ref 164) _) _ _ _); k_dflt (refine' Does.use (by k_asm) (does_is_dec _ _ _ _ _ _ _ (by k_mem)) (by k_extra "m k1") (by k_extra "m k2") (by k_extra "m k3") (by k_extra "m k5") (by k_extra "m k6") (by k_extra "m k7") (by k_extra "m k8") ?_; k_extra "m back")))
  k_with "!call ref" => ((k_here; (with_reducible show wpAny _ _ (PySem.call (Value.ref 171) _) _ _ _); k_dflt (refine' Does.use (by k_asm) (does_settled _ _ _ _ _ _ _ _ (by k_extra "m fact") (by k_extra "m fact") (by k_extra "m fact")) (by k_extra "m k1") (by k_extra "m k2") (by k_extra "m k3") (by k_extra "m k5") (by k_extra "m k6") (by k_extra "m k7") (by k_extra "m k8") ?_; k_extra "m back")))
  k_with "!call ref" => ((k_here; (with_reducible show wpAny _ _ (PySem.call (Value.ref 115) _) _ _ _); k_dflt (refine' Does.use (by k_asm) (does_sub _ _ _ _ _ _ _ _ _ _ _ _ _ _ (by k_mem) (by k_mem) (by k_extra "m fact") (by k_extra "m fact") (by k_extra "m fact") (by k_extra "m fact") (by k_extra "m fact") (by k_extra "m fact")) (by k_extra "m k1") (by k_extra "m k2") (by k_extra "m k3") (by k_extra "m k5") (by k_extra "m k6") (by k_extra "m k7") (by k_extra "m k8") ?_; k_extra "m back")))
  k_with "!call ref" => ((k_here; (with_reducible show wpAny _ _ (PySem.call (Value.ref 143) _) _ _ _); k_dflt (refine' Does.use (by k_asm) (does_compare _ _ _ _ _ _ _ _ _ _ _ _ (by k_mem) (by k_mem) (by k_extra "m fact") (by k_extra "m fact") (by k_extra "m fact") (by k_extra "m fact")) (by k_extra "m k1") (by k_extra "m k2") (by k_extra "m k3") (by k_extra "m k5") (by k_extra "m k6") (by k_extra "m k7") (by k_extra "m k8") ?_; k_extra "m back")))
  k_with "!call ref" => ((k_here; (with_reducible show wpAny _ _ (PySem.call (Value.ref 136) _) _ _ _); k_dflt (refine' Does.use (by k_asm) (does_div _ _ _ _ _ _ _ _ _ _ _ _ _ _ (by k_mem) (by k_mem) (by k_extra "m fact") (by k_extra "m fact") (by k_extra "m fact") (by k_extra "m fact") (by k_extra "m fact")) (by k_extra "m k1") (by k_extra "m k2") (by k_extra "m k3") (by k_extra "m k5") (by k_extra "m k6") (by k_extra "m k7") (by k_extra "m k8") ?_; k_extra "m back")))
  trivial
inductive Op3 (x y : Int) : Str → Int → Prop
  | add : Op3 x y (Str.ofString "+") (x + y)
  | sub : Op3 x y (Str.ofString "-") (x - y)
  | mul : Op3 x y (Str.ofString "*") (x * y)
set_option maxRecDepth 100000 in
set_option maxHeartbeats 8000000 in
theorem does_whole (w : World) (news : Led) (op : Str) (x y z bits d : Int) (to tx ty tb td : Tok) (hop : Op3 x y op z) (hx : x.natAbs < 10 ^ 45) (hy : y.natAbs < 10 ^ 45) (hz : z.natAbs < 10 ^ 45) (hb : 1 ≤ bits ∧ bits ≤ 64) (hdd : 1 ≤ d ∧ d ≤ 12) :
    Does w 10 178 [.str op to, .int x tx, .int y ty, .int bits tb, .int d td] news (OkKept z bits d) := by
  unfold Does
  intro mean mg mb dp un gd cn cs a ccd cl outer A₀ base h₀ L m s Q E B F X N T hk hd hu ret
  cases hop
  all_goals k_extra "m enter"
  all_goals k_steps
  all_goals first
    | exact ret _ _ _ _ (by k_asm) (newsHead (by assumption) (by k_extra "m sub")) (oneNew (by k_extra "m lt")) (OkKept.dec _ _ _ (by assumption))
    | exact ret _ [] _ _ (by k_asm) (by k_extra "m drop") noNew (OkKept.whole _ (by assumption))
end
section
theorem words62 : True := by
  k_with_none
  k_with "m k1" => (first | k_asm | ktn_no "m use: Below")
  k_with "m k2" => (first | k_asm | ktn_no "m use: Fr")
  k_with "m k3" => (first | k_asm | ktn_no "m use: In")
  k_with "m k5" => (first | k_asm | ktn_no "m use: Top")
  k_with "m k6" => (first | assumption | exact rfl | ktn_no "m use: kind")
  k_with "m k7" => (first | exact room1 (by with_reducible assumption) (by decide) | exact room2 (by with_reducible assumption) (by decide) | ktr_room | ktn_no "m use: room")
  k_with "m k8" => (first | exact units1 (by with_reducible assumption) (by decide) | exact units2 (by with_reducible assumption) (by decide) | ktr_units | ktn_no "m use: units")
  k_with "m enter" => ((refine wpAny_call ?_; k_dflt cell_enter))
  k_with "m sub" => (first | with_reducible exact fun _ h => h | with_reducible exact fun _ h => List.mem_cons_of_mem _ h | with_reducible exact fun _ h => List.mem_cons_of_mem _ (List.mem_cons_of_mem _ h) | with_reducible exact fun _ h => List.mem_cons_of_mem _ (List.mem_cons_of_mem _ (List.mem_cons_of_mem _ h)) | kcj_all)
  k_with "m drop" => (first | with_reducible assumption | exact cb_drop (by with_reducible assumption) (by k_extra "m sub") | k_asm | (refine' cb_drop (by assumption) (by kcj_all)) | ktn_no "m drop: the ledger")
  k_with "m fact" => (first | assumption | (constructor <;> assumption) | omega | (simp only [decide_eq_true_eq, decide_eq_false_iff_not, Int.not_lt, Int.not_le, gt_iff_lt, ge_iff_le] at *; omega) | ktn_no "m fact")
  k_with "!call ref" => ((k_here; (with_reducible show wpAny _ _ (PySem.call (Value.ref 44) _) _ _ _); k_dflt (refine' Does.use (by k_asm) (does_figs _ _ _ _ (by k_extra "m fact")) (by k_extra "m k1") (by k_extra "m k2") (by k_extra "m k3") (by k_extra "m k5") (by k_extra "m k6") (by k_extra "m k7") (by k_extra "m k8") ?_; intro r9 tl9 h9 tk9 F9 N9 l9 o9; cases o9; (try simp only [List.nil_append] at N9); clear l9; (try dsimp only); (try k_fold))))
  k_with "!call ref" => ((k_here; (with_reducible show wpAny _ _ (PySem.call (Value.ref 51) _) _ _ _); k_dflt (refine' Does.use (by k_asm) (does_rnd _ _ _ _ _ _ (by k_extra "m fact") (by k_extra "m fact") (by k_extra "m fact") (by k_extra "m fact")) (by k_extra "m k1") (by k_extra "m k2") (by k_extra "m k3") (by k_extra "m k5") (by k_extra "m k6") (by k_extra "m k7") (by k_extra "m k8") ?_; intro r9 tl9 h9 tk9 F9 N9 l9 o9; cases o9; (try simp only [List.nil_append] at N9); clear l9; (try dsimp only); (try k_fold))))
  k_with "m lt" => (first | assumption | exact ktn_ltOf (by assumption) | ((with_reducible rename _ ∧ AllLt _ _ => hlt); exact ktn_ltOf hlt.2) | exact ktn_ltOf (And.right (by assumption)) | exact ktn_ltOf (And.right (And.right (by assumption))) | exact ktn_ltOf (And.right (And.right (And.right (by assumption)))) | exact ktn_ltOf (And.right (And.right (And.right (And.right (by assumption))))) | exact ktn_ltOf (And.right (And.right (And.right (And.right (And.right (by assumption)))))) | exact ktn_ltOf (And.right (And.right (And.right (And.right (And.right (And.right (by assumption))))))) | ktn_no "m lt")
  k_with "m back" => ((intro r9 tl9 h9 tk9 F9 N9 l9 o9; cases o9; all_goals ((try simp only [List.nil_append, List.cons_append] at N9); (first | (replace l9 := newLt l9; (try k_lt l9)) | clear l9); (try dsimp only); (try k_fold))))
  k_with "!call ref" => ((k_here; (with_reducible show wpAny _ _ (PySem.call (Value.ref 58) _) _ _ _); k_dflt (refine' Does.use (by k_asm) (does_made _ _ _ _ _ _ _ _ (by k_extra "m fact") (by k_extra "m fact") (by k_extra "m fact")) (by k_extra "m k1") (by k_extra "m k2") (by k_extra "m k3") (by k_extra "m k5") (by k_extra "m k6") (by k_extra "m k7") (by k_extra "m k8") ?_; k_extra "m back")))
  k_with "m sm" => (first | assumption | exact Sm.of45 (by assumption) | exact Sm.p10 (by k_extra "m fact") | exact Sm.lit (by omega) | ktn_no "m sm")
  k_with "!binaryOp Mult int int" => ((k_here; (with_reducible refine PyProof.Rows.mul_int ?_ (IntMulOk.of_bits (Sm.bits (by k_extra "m sm")) (Sm.bits (by k_extra "m sm"))))))
  k_with "!call ref" => ((k_here; (with_reducible show wpAny _ _ (PySem.call (Value.ref 72) _) _ _ _); k_dflt (refine' Does.use (by k_asm) (does_fits _ _ _ _ _ _ (by k_extra "m fact")) (by k_extra "m k1") (by k_extra "m k2") (by k_extra "m k3") (by k_extra "m k5") (by k_extra "m k6") (by k_extra "m k7") (by k_extra "m k8") ?_; k_extra "m back")))
  k_with "!call ref" => ((k_here; (with_reducible show wpAny _ _ (PySem.call (Value.ref 86) _) _ _ _); k_dflt (refine' Does.use (by k_asm) (does_decimal_int _ _ _ _ _ _ (by k_extra "m fact") (by k_extra "m fact")) (by k_extra "m k1") (by k_extra "m k2") (by k_extra "m k3") (by k_extra "m k5") (by k_extra "m k6") (by k_extra "m k7") (by k_extra "m k8") ?_; k_extra "m back")))
  k_with "!call ref" => ((k_here; (with_reducible show wpAny _ _ (PySem.call (Value.ref 86) _) _ _ _); k_dflt (refine' Does.use (by k_asm) (does_decimal_tup _ _ _ _ _ _ _ _ _ (by k_mem) (by k_extra "m fact") (by k_extra "m fact") (by k_extra "m fact")) (by k_extra "m k1") (by k_extra "m k2") (by k_extra "m k3") (by k_extra "m k5") (by k_extra "m k6") (by k_extra "m k7") (by k_extra "m k8") ?_; k_extra "m back")))
  k_with "!call ref" => ((k_here; (with_reducible show wpAny _ _ (PySem.call (Value.ref 94) _) _ _ _); k_dflt (refine' Does.use (by k_asm) (does_negated _ _ _ _ _ _ _ (by k_mem)) (by k_extra "m k1") (by k_extra "m k2") (by k_extra "m k3") (by k_extra "m k5") (by k_extra "m k6") (by k_extra "m k7") (by k_extra "m k8") ?_; k_extra "m back")))
  k_with "!call ref" => ((k_here; (with_reducible show wpAny _ _ (PySem.call (Value.ref 101) _) _ _ _); k_dflt (refine' Does.use (by k_asm) (does_alike _ _ _ _ _ _ _ _ _ _ _ _ (by k_mem) (by k_mem) (by k_extra "m fact") (by k_extra "m fact") (by k_extra "m fact") (by k_extra "m fact")) (by k_extra "m k1") (by k_extra "m k2") (by k_extra "m k3") (by k_extra "m k5") (by k_extra "m k6") (by k_extra "m k7") (by k_extra "m k8") ?_; k_extra "m back")))
  k_with "!call ref" => ((k_here; (with_reducible show wpAny _ _ (PySem.call (Value.ref 108) _) _ _ _); k_dflt (refine' Does.use (by k_asm) (does_add _ _ _ _ _ _ _ _ _ _ _ _ _ _ (by k_mem) (by k_mem) (by k_extra "m fact") (by k_extra "m fact") (by k_extra "m fact") (by k_extra "m fact") (by k_extra "m fact") (by k_extra "m fact")) (by k_extra "m k1") (by k_extra "m k2") (by k_extra "m k3") (by k_extra "m k5") (by k_extra "m k6") (by k_extra "m k7") (by k_extra "m k8") ?_; k_extra "m back")))
  k_with "!call ref" => ((k_here; (with_reducible show wpAny _ _ (PySem.call (Value.ref 122) _) _ _ _); k_dflt (refine' Does.use (by k_asm) (does_mul _ _ _ _ _ _ _ _ _ _ _ _ _ _ (by k_mem) (by k_mem) (by k_extra "m fact") (by k_extra "m fact") (by k_extra "m fact") (by k_extra "m fact") (by k_extra "m fact")) (by k_extra "m k1") (by k_extra "m k2") (by k_extra "m k3") (by k_extra "m k5") (by k_extra "m k6") (by k_extra "m k7") (by k_extra "m k8") ?_; k_extra "m back")))
  k_with "!call ref" => ((k_here; (with_reducible show wpAny _ _ (PySem.call (Value.ref 129) _) _ _ _); k_dflt (refine' Does.use (by k_asm) (does_rest _ _ _ _ _ _ _ _) (by k_extra "m k1") (by k_extra "m k2") (by k_extra "m k3") (by k_extra "m k5") (by k_extra "m k6") (by k_extra "m k7") (by k_extra "m k8") ?_; k_extra "m back")))
  k_with "!call ref" => ((k_here; (with_reducible show wpAny _ _ (PySem.call (Value.ref 164) _) _ _ _); k_dflt (refine' Does.use (by k_asm) (does_is_whole _ _ _ _) (by k_extra "m k1") (by k_extra "m k2") (by k_extra "m k3") (by k_extra "m k5") (by k_extra "m k6") (by k_extra "m k7") (by k_extra "m k8") ?_; k_extra "m back")))
  k_with "!call ref" => ((k_here; (with_reducible show wpAny _ _ (PySem.call (Value.ref 164) _) _ _ _); k_dflt (refine' Does.use (by k_asm) (does_is_dec _ _ _ _ _ _ _ (by k_mem)) (by k_extra "m k1") (by k_extra "m k2") (by k_extra "m k3") (by k_extra "m k5") (by k_extra "m k6") (by k_extra "m k7") (by k_extra "m k8") ?_; k_extra "m back")))
  k_with "!call ref" => ((k_here; (with_reducible show wpAny _ _ (PySem.call (Value.ref 171) _) _ _ _); k_dflt (refine' Does.use (by k_asm) (does_settled _ _ _ _ _ _ _ _ (by k_extra "m fact") (by k_extra "m fact") (by k_extra "m fact")) (by k_extra "m k1") (by k_extra "m k2") (by k_extra "m k3") (by k_extra "m k5") (by k_extra "m k6") (by k_extra "m k7") (by k_extra "m k8") ?_; k_extra "m back")))
  k_with "!call ref" => ((k_here; (with_reducible show wpAny _ _ (PySem.call (Value.ref 115) _) _ _ _); k_dflt (refine' Does.use (by k_asm) (does_sub _ _ _ _ _ _ _ _ _ _ _ _ _ _ (by k_mem) (by k_mem) (by k_extra "m fact") (by k_extra "m fact") (by k_extra "m fact") (by k_extra "m fact") (by k_extra "m fact") (by k_extra "m fact")) (by k_extra "m k1") (by k_extra "m k2") (by k_extra "m k3") (by k_extra "m k5") (by k_extra "m k6") (by k_extra "m k7") (by k_extra "m k8") ?_; k_extra "m back")))
  k_with "!call ref" => ((k_here; (with_reducible show wpAny _ _ (PySem.call (Value.ref 143) _) _ _ _); k_dflt (refine' Does.use (by k_asm) (does_compare _ _ _ _ _ _ _ _ _ _ _ _ (by k_mem) (by k_mem) (by k_extra "m fact") (by k_extra "m fact") (by k_extra "m fact") (by k_extra "m fact")) (by k_extra "m k1") (by k_extra "m k2") (by k_extra "m k3") (by k_extra "m k5") (by k_extra "m k6") (by k_extra "m k7") (by k_extra "m k8") ?_; k_extra "m back")))
  k_with "!call ref" => ((k_here; (with_reducible show wpAny _ _ (PySem.call (Value.ref 136) _) _ _ _); k_dflt (refine' Does.use (by k_asm) (does_div _ _ _ _ _ _ _ _ _ _ _ _ _ _ (by k_mem) (by k_mem) (by k_extra "m fact") (by k_extra "m fact") (by k_extra "m fact") (by k_extra "m fact") (by k_extra "m fact")) (by k_extra "m k1") (by k_extra "m k2") (by k_extra "m k3") (by k_extra "m k5") (by k_extra "m k6") (by k_extra "m k7") (by k_extra "m k8") ?_; k_extra "m back")))
  k_with "!call ref" => ((k_here; (with_reducible show wpAny _ _ (PySem.call (Value.ref 178) _) _ _ _); k_dflt (refine' Does.use (by k_asm) (does_whole _ _ _ _ _ _ _ _ _ _ _ _ _ (by assumption) (by k_extra "m fact") (by k_extra "m fact") (by k_extra "m fact") (by k_extra "m fact") (by k_extra "m fact")) (by k_extra "m k1") (by k_extra "m k2") (by k_extra "m k3") (by k_extra "m k5") (by k_extra "m k6") (by k_extra "m k7") (by k_extra "m k8") ?_; k_extra "m back")))
  trivial
set_option maxRecDepth 100000 in
set_option maxHeartbeats 8000000 in
theorem does_rk_int (w : World) (news : Led) (op : Str) (x y z bits d : Int) (to tx ty tb td : Tok) (hop : Op3 x y op z) (hx : x.natAbs < 10 ^ 45) (hy : y.natAbs < 10 ^ 45) (hz : z.natAbs < 10 ^ 45) (hb : 1 ≤ bits ∧ bits ≤ 64) (hdd : 1 ≤ d ∧ d ≤ 12) :
    Does w 12 220 [.str op to, .int x tx, .int y ty, .int bits tb, .int d td] news (OkKept z bits d) := by
  unfold Does
  intro mean mg mb dp un gd cn cs a ccd cl outer A₀ base h₀ L m s Q E B F X N T hk hd hu ret
  have hop' := hop
  cases hop
  all_goals k_extra "m enter"
  all_goals k_steps
  all_goals first
    | exact ret _ _ _ _ (by k_asm) (newsHead (by assumption) (by k_extra "m sub")) (oneNew (by k_extra "m lt")) (OkKept.dec _ _ _ (by assumption))
    | exact ret _ [] _ _ (by k_asm) (by k_extra "m drop") noNew (OkKept.whole _ (by assumption))
end
section
theorem words64 : True := by
  k_with_none
  k_with "m k1" => (first | k_asm | ktn_no "m use: Below")
  k_with "m k2" => (first | k_asm | ktn_no "m use: Fr")
  k_with "m k3" => (first | k_asm | ktn_no "m use: In")
  k_with "m k5" => (first | k_asm | ktn_no "m use: Top")
  k_with "m k6" => (first | assumption | exact rfl | ktn_no "m use: kind")
  k_with "m k7" => (first | exact room1 (by with_reducible assumption) (by decide) | exact room2 (by with_reducible assumption) (by decide) | ktr_room | ktn_no "m use: room")
  k_with "m k8" => (first | exact units1 (by with_reducible assumption) (by decide) | exact units2 (by with_reducible assumption) (by decide) | ktr_units | ktn_no "m use: units")
  k_with "m enter" => ((refine wpAny_call ?_; k_dflt cell_enter))
  k_with "m sub" => (first | with_reducible exact fun _ h => h | with_reducible exact fun _ h => List.mem_cons_of_mem _ h | with_reducible exact fun _ h => List.mem_cons_of_mem _ (List.mem_cons_of_mem _ h) | with_reducible exact fun _ h => List.mem_cons_of_mem _ (List.mem_cons_of_mem _ (List.mem_cons_of_mem _ h)) | kcj_all)
  k_with "m drop" => (first | with_reducible assumption | exact cb_drop (by with_reducible assumption) (by k_extra "m sub") | k_asm | (refine' cb_drop (by assumption) (by kcj_all)) | ktn_no "m drop: the ledger")
  k_with "m fact" => (first | assumption | (constructor <;> assumption) | omega | (simp only [decide_eq_true_eq, decide_eq_false_iff_not, Int.not_lt, Int.not_le, gt_iff_lt, ge_iff_le] at *; omega) | ktn_no "m fact")
  k_with "!call ref" => ((k_here; (with_reducible show wpAny _ _ (PySem.call (Value.ref 44) _) _ _ _); k_dflt (refine' Does.use (by k_asm) (does_figs _ _ _ _ (by k_extra "m fact")) (by k_extra "m k1") (by k_extra "m k2") (by k_extra "m k3") (by k_extra "m k5") (by k_extra "m k6") (by k_extra "m k7") (by k_extra "m k8") ?_; intro r9 tl9 h9 tk9 F9 N9 l9 o9; cases o9; (try simp only [List.nil_append] at N9); clear l9; (try dsimp only); (try k_fold))))
  k_with "!call ref" => ((k_here; (with_reducible show wpAny _ _ (PySem.call (Value.ref 51) _) _ _ _); k_dflt (refine' Does.use (by k_asm) (does_rnd _ _ _ _ _ _ (by k_extra "m fact") (by k_extra "m fact") (by k_extra "m fact") (by k_extra "m fact")) (by k_extra "m k1") (by k_extra "m k2") (by k_extra "m k3") (by k_extra "m k5") (by k_extra "m k6") (by k_extra "m k7") (by k_extra "m k8") ?_; intro r9 tl9 h9 tk9 F9 N9 l9 o9; cases o9; (try simp only [List.nil_append] at N9); clear l9; (try dsimp only); (try k_fold))))
  k_with "m lt" => (first | assumption | exact ktn_ltOf (by assumption) | ((with_reducible rename _ ∧ AllLt _ _ => hlt); exact ktn_ltOf hlt.2) | exact ktn_ltOf (And.right (by assumption)) | exact ktn_ltOf (And.right (And.right (by assumption))) | exact ktn_ltOf (And.right (And.right (And.right (by assumption)))) | exact ktn_ltOf (And.right (And.right (And.right (And.right (by assumption))))) | exact ktn_ltOf (And.right (And.right (And.right (And.right (And.right (by assumption)))))) | exact ktn_ltOf (And.right (And.right (And.right (And.right (And.right (And.right (by assumption))))))) | ktn_no "m lt")
  k_with "m back" => ((intro r9 tl9 h9 tk9 F9 N9 l9 o9; cases o9; all_goals ((try simp only [List.nil_append, List.cons_append] at N9); (first | (replace l9 := newLt l9; (try k_lt l9)) | clear l9); (try dsimp only); (try k_fold))))
  k_with "!call ref" => ((k_here; (with_reducible show wpAny _ _ (PySem.call (Value.ref 58) _) _ _ _); k_dflt (refine' Does.use (by k_asm) (does_made _ _ _ _ _ _ _ _ (by k_extra "m fact") (by k_extra "m fact") (by k_extra "m fact")) (by k_extra "m k1") (by k_extra "m k2") (by k_extra "m k3") (by k_extra "m k5") (by k_extra "m k6") (by k_extra "m k7") (by k_extra "m k8") ?_; k_extra "m back")))
  k_with "m sm" => (first | assumption | exact Sm.of45 (by assumption) | exact Sm.p10 (by k_extra "m fact") | exact Sm.lit (by omega) | ktn_no "m sm")
  k_with "!binaryOp Mult int int" => ((k_here; (with_reducible refine PyProof.Rows.mul_int ?_ (IntMulOk.of_bits (Sm.bits (by k_extra "m sm")) (Sm.bits (by k_extra "m sm"))))))
  k_with "!call ref" => ((k_here; (with_reducible show wpAny _ _ (PySem.call (Value.ref 72) _) _ _ _); k_dflt (refine' Does.use (by k_asm) (does_fits _ _ _ _ _ _ (by k_extra "m fact")) (by k_extra "m k1") (by k_extra "m k2") (by k_extra "m k3") (by k_extra "m k5") (by k_extra "m k6") (by k_extra "m k7") (by k_extra "m k8") ?_; k_extra "m back")))
  k_with "!call ref" => ((k_here; (with_reducible show wpAny _ _ (PySem.call (Value.ref 86) _) _ _ _); k_dflt (refine' Does.use (by k_asm) (does_decimal_int _ _ _ _ _ _ (by k_extra "m fact") (by k_extra "m fact")) (by k_extra "m k1") (by k_extra "m k2") (by k_extra "m k3") (by k_extra "m k5") (by k_extra "m k6") (by k_extra "m k7") (by k_extra "m k8") ?_; k_extra "m back")))
  k_with "!call ref" => ((k_here; (with_reducible show wpAny _ _ (PySem.call (Value.ref 86) _) _ _ _); k_dflt (refine' Does.use (by k_asm) (does_decimal_tup _ _ _ _ _ _ _ _ _ (by k_mem) (by k_extra "m fact") (by k_extra "m fact") (by k_extra "m fact")) (by k_extra "m k1") (by k_extra "m k2") (by k_extra "m k3") (by k_extra "m k5") (by k_extra "m k6") (by k_extra "m k7") (by k_extra "m k8") ?_; k_extra "m back")))
  k_with "!call ref" => ((k_here; (with_reducible show wpAny _ _ (PySem.call (Value.ref 94) _) _ _ _); k_dflt (refine' Does.use (by k_asm) (does_negated _ _ _ _ _ _ _ (by k_mem)) (by k_extra "m k1") (by k_extra "m k2") (by k_extra "m k3") (by k_extra "m k5") (by k_extra "m k6") (by k_extra "m k7") (by k_extra "m k8") ?_; k_extra "m back")))
  k_with "!call ref" => ((k_here; (with_reducible show wpAny _ _ (PySem.call (Value.ref 101) _) _ _ _); k_dflt (refine' Does.use (by k_asm) (does_alike _ _ _ _ _ _ _ _ _ _ _ _ (by k_mem) (by k_mem) (by k_extra "m fact") (by k_extra "m fact") (by k_extra "m fact") (by k_extra "m fact")) (by k_extra "m k1") (by k_extra "m k2") (by k_extra "m k3") (by k_extra "m k5") (by k_extra "m k6") (by k_extra "m k7") (by k_extra "m k8") ?_; k_extra "m back")))
  k_with "!call ref" => ((k_here; (with_reducible show wpAny _ _ (PySem.call (Value.ref 108) _) _ _ _); k_dflt (refine' Does.use (by k_asm) (does_add _ _ _ _ _ _ _ _ _ _ _ _ _ _ (by k_mem) (by k_mem) (by k_extra "m fact") (by k_extra "m fact") (by k_extra "m fact") (by k_extra "m fact") (by k_extra "m fact") (by k_extra "m fact")) (by k_extra "m k1") (by k_extra "m k2") (by k_extra "m k3") (by k_extra "m k5") (by k_extra "m k6") (by k_extra "m k7") (by k_extra "m k8") ?_; k_extra "m back")))
  k_with "!call ref" => ((k_here; (with_reducible show wpAny _ _ (PySem.call (Value.ref 122) _) _ _ _); k_dflt (refine' Does.use (by k_asm) (does_mul _ _ _ _ _ _ _ _ _ _ _ _ _ _ (by k_mem) (by k_mem) (by k_extra "m fact") (by k_extra "m fact") (by k_extra "m fact") (by k_extra "m fact") (by k_extra "m fact")) (by k_extra "m k1") (by k_extra "m k2") (by k_extra "m k3") (by k_extra "m k5") (by k_extra "m k6") (by k_extra "m k7") (by k_extra "m k8") ?_; k_extra "m back")))
  k_with "!call ref" => ((k_here; (with_reducible show wpAny _ _ (PySem.call (Value.ref 129) _) _ _ _); k_dflt (refine' Does.use (by k_asm) (does_rest _ _ _ _ _ _ _ _) (by k_extra "m k1") (by k_extra "m k2") (by k_extra "m k3") (by k_extra "m k5") (by k_extra "m k6") (by k_extra "m k7") (by k_extra "m k8") ?_; k_extra "m back")))
  k_with "!call ref" => ((k_here; (with_reducible show wpAny _ _ (PySem.call (Value.ref 164) _) _ _ _); k_dflt (refine' Does.use (by k_asm) (does_is_whole _ _ _ _) (by k_extra "m k1") (by k_extra "m k2") (by k_extra "m k3") (by k_extra "m k5") (by k_extra "m k6") (by k_extra "m k7") (by k_extra "m k8") ?_; k_extra "m back")))
  k_with "!call ref" => ((k_here; (with_reducible show wpAny _ _ (PySem.call (Value.ref 164) _) _ _ _); k_dflt (refine' Does.use (by k_asm) (does_is_dec _ _ _ _ _ _ _ (by k_mem)) (by k_extra "m k1") (by k_extra "m k2") (by k_extra "m k3") (by k_extra "m k5") (by k_extra "m k6") (by k_extra "m k7") (by k_extra "m k8") ?_; k_extra "m back")))
  k_with "!call ref" => ((k_here; (with_reducible show wpAny _ _ (PySem.call (Value.ref 171) _) _ _ _); k_dflt (refine' Does.use (by k_asm) (does_settled _ _ _ _ _ _ _ _ (by k_extra "m fact") (by k_extra "m fact") (by k_extra "m fact")) (by k_extra "m k1") (by k_extra "m k2") (by k_extra "m k3") (by k_extra "m k5") (by k_extra "m k6") (by k_extra "m k7") (by k_extra "m k8") ?_; k_extra "m back")))
  k_with "!call ref" => ((k_here; (with_reducible show wpAny _ _ (PySem.call (Value.ref 115) _) _ _ _); k_dflt (refine' Does.use (by k_asm) (does_sub _ _ _ _ _ _ _ _ _ _ _ _ _ _ (by k_mem) (by k_mem) (by k_extra "m fact") (by k_extra "m fact") (by k_extra "m fact") (by k_extra "m fact") (by k_extra "m fact") (by k_extra "m fact")) (by k_extra "m k1") (by k_extra "m k2") (by k_extra "m k3") (by k_extra "m k5") (by k_extra "m k6") (by k_extra "m k7") (by k_extra "m k8") ?_; k_extra "m back")))
  k_with "!call ref" => ((k_here; (with_reducible show wpAny _ _ (PySem.call (Value.ref 143) _) _ _ _); k_dflt (refine' Does.use (by k_asm) (does_compare _ _ _ _ _ _ _ _ _ _ _ _ (by k_mem) (by k_mem) (by k_extra "m fact") (by k_extra "m fact") (by k_extra "m fact") (by k_extra "m fact")) (by k_extra "m k1") (by k_extra "m k2") (by k_extra "m k3") (by k_extra "m k5") (by k_extra "m k6") (by k_extra "m k7") (by k_extra "m k8") ?_; k_extra "m back")))
  k_with "!call ref" => ((k_here; (with_reducible show wpAny _ _ (PySem.call (Value.ref 136) _) _ _ _); k_dflt (refine' Does.use (by k_asm) (does_div _ _ _ _ _ _ _ _ _ _ _ _ _ _ (by k_mem) (by k_mem) (by k_extra "m fact") (by k_extra "m fact") (by k_extra "m fact") (by k_extra "m fact") (by k_extra "m fact")) (by k_extra "m k1") (by k_extra "m k2") (by k_extra "m k3") (by k_extra "m k5") (by k_extra "m k6") (by k_extra "m k7") (by k_extra "m k8") ?_; k_extra "m back")))
  k_with "!call ref" => ((k_here; (with_reducible show wpAny _ _ (PySem.call (Value.ref 178) _) _ _ _); k_dflt (refine' Does.use (by k_asm) (does_whole _ _ _ _ _ _ _ _ _ _ _ _ _ (by assumption) (by k_extra "m fact") (by k_extra "m fact") (by k_extra "m fact") (by k_extra "m fact") (by k_extra "m fact")) (by k_extra "m k1") (by k_extra "m k2") (by k_extra "m k3") (by k_extra "m k5") (by k_extra "m k6") (by k_extra "m k7") (by k_extra "m k8") ?_; k_extra "m back")))
  k_with "!call ref" => ((k_here; (with_reducible show wpAny _ _ (PySem.call (Value.ref 220) _) _ _ _); k_dflt (refine' Does.use (by k_asm) (does_rk_int _ _ _ _ _ _ _ _ _ _ _ _ _ (by assumption) (by k_extra "m fact") (by k_extra "m fact") (by k_extra "m fact") (by k_extra "m fact") (by k_extra "m fact")) (by k_extra "m k1") (by k_extra "m k2") (by k_extra "m k3") (by k_extra "m k5") (by k_extra "m k6") (by k_extra "m k7") (by k_extra "m k8") ?_; k_extra "m back")))
  trivial
/-- a number as reckoned takes it, and the decimal that decimal_of makes of it -/
inductive Kind (news : Led) (d : Int) : Value → Int → Int → Bool → Prop
  | int (n : Int) (t : Tok) (hb : n.natAbs < 10 ^ 45) : Kind news d (.int n t) (madeC n 0 d) (madeE n 0 d) true
  | dec (a : Addr) (c e : Int) (t u : Tok) (hm : (a, tup2 c t e u) ∈ news) (hb : c.natAbs < 10 ^ 45) (he : -45 ≤ e ∧ e ≤ 45) : Kind news d (.ref a) (madeC c e d) (madeE c e d) false
theorem Kind.mono {news news' : Led} {d : Int} {v : Value} {c e : Int} {b : Bool} (h : Kind news d v c e b) (hs : ∀ p ∈ news, p ∈ news') : Kind news' d v c e b := by
  cases h with
  | int n t hb => exact .int n t hb
  | dec a c e t u hm hb he => exact .dec a c e t u (hs _ hm) hb he
theorem does_kind_dec (w : World) (news news₀ : Led) (v : Value) (c e d : Int) (b : Bool) (td : Tok) (hv : Kind news₀ d v c e b) (hs : ∀ p ∈ news₀, p ∈ news) (hdd : 1 ≤ d ∧ d ≤ 12) : Does w 8 86 [v, .int d td] news (OkTup c e) := by
  cases hv.mono hs with
  | int n t hb => exact does_decimal_int w news n d t td hb hdd
  | dec a c e t u hm hb he => exact does_decimal_tup w news a c e d t u td hm hb he hdd
theorem does_kind_is (w : World) (news news₀ : Led) (v : Value) (c e d : Int) (b : Bool) (hv : Kind news₀ d v c e b) (hs : ∀ p ∈ news₀, p ∈ news) : Does w 2 164 [v] news (OkBool b) := by
  cases hv.mono hs with
  | int n t hb => exact does_is_whole w news n t
  | dec a c e t u hm hb he => exact does_is_dec w news a c e t u hm
inductive OpD (c e c' e' : Int) : Str → Int → Int → Prop
  | add : OpD c e c' e' (Str.ofString "+") (addS c e c' e') (minI e e')
  | sub : OpD c e c' e' (Str.ofString "-") (addS c e (0 - c') e') (minI e e')
  | mul : OpD c e c' e' (Str.ofString "*") (c * c') (e + e')
theorem words64_b : True := by
  k_with "m sub" => ((intro _ hsub; (repeat (with_reducible refine List.mem_cons_of_mem _ ?_)); exact hsub))
  k_with "!call ref" => ((k_here; (with_reducible show wpAny _ _ (PySem.call (Value.ref 86) _) _ _ _); k_dflt (refine' Does.use (by k_asm) (does_kind_dec _ _ _ _ _ _ _ _ _ (by assumption) (by k_extra "m sub") (by k_extra "m fact")) (by k_extra "m k1") (by k_extra "m k2") (by k_extra "m k3") (by k_extra "m k5") (by k_extra "m k6") (by k_extra "m k7") (by k_extra "m k8") ?_; k_extra "m back")))
  k_with "!call ref" => ((k_here; (with_reducible show wpAny _ _ (PySem.call (Value.ref 164) _) _ _ _); k_dflt (refine' Does.use (by k_asm) (does_kind_is _ _ _ _ _ _ _ _ (by assumption) (by k_extra "m sub")) (by k_extra "m k1") (by k_extra "m k2") (by k_extra "m k3") (by k_extra "m k5") (by k_extra "m k6") (by k_extra "m k7") (by k_extra "m k8") ?_; k_extra "m back")))
  trivial
set_option maxRecDepth 100000 in
set_option maxHeartbeats 8000000 in
theorem rk_add1 (w : World) (news : Led) (v v' : Value) (c e c' e' bits d : Int) (b' : Bool) (to tb td : Tok) (hv : Kind news d v c e false) (hv' : Kind news d v' c' e' b')
    (hc : c.natAbs < 10 ^ 45) (hc' : c'.natAbs < 10 ^ 45) (hn' : (0 - c').natAbs < 10 ^ 45) (he : -45 ≤ e ∧ e ≤ 45) (he' : -45 ≤ e' ∧ e' ≤ 45) (hX : -45 ≤ minI e e' ∧ minI e e' ≤ 45) (hz : (addS c e c' e').natAbs < 10 ^ 45) (hdd : 1 ≤ d ∧ d ≤ 12) :
    Does w 14 220 [.str (Str.ofString "+") to, v, v', .int bits tb, .int d td] news (OkTup (madeC (addS c e c' e') (minI e e') d) (madeE (addS c e c' e') (minI e e') d)) := by
  unfold Does
  intro mean mg mb dp un gd cn cs a ccd cl outer A₀ base h₀ L m s Q E B F X N T hk hd hu ret
  k_extra "m enter"
  k_steps
  all_goals refine ret _ _ _ _ (by k_asm) (newsHead (by assumption) (by k_extra "m sub")) (oneNew (by k_extra "m lt")) (OkTup.of ?_)
  all_goals exact ⟨rfl, rfl⟩
set_option maxRecDepth 100000 in
set_option maxHeartbeats 8000000 in
theorem rk_add2 (w : World) (news : Led) (v v' : Value) (c e c' e' bits d : Int) (to tb td : Tok) (hv : Kind news d v c e true) (hv' : Kind news d v' c' e' false)
    (hc : c.natAbs < 10 ^ 45) (hc' : c'.natAbs < 10 ^ 45) (hn' : (0 - c').natAbs < 10 ^ 45) (he : -45 ≤ e ∧ e ≤ 45) (he' : -45 ≤ e' ∧ e' ≤ 45) (hX : -45 ≤ minI e e' ∧ minI e e' ≤ 45) (hz : (addS c e c' e').natAbs < 10 ^ 45) (hdd : 1 ≤ d ∧ d ≤ 12) :
    Does w 14 220 [.str (Str.ofString "+") to, v, v', .int bits tb, .int d td] news (OkTup (madeC (addS c e c' e') (minI e e') d) (madeE (addS c e c' e') (minI e e') d)) := by
  unfold Does
  intro mean mg mb dp un gd cn cs a ccd cl outer A₀ base h₀ L m s Q E B F X N T hk hd hu ret
  k_extra "m enter"
  k_steps
  all_goals refine ret _ _ _ _ (by k_asm) (newsHead (by assumption) (by k_extra "m sub")) (oneNew (by k_extra "m lt")) (OkTup.of ?_)
  all_goals exact ⟨rfl, rfl⟩
set_option maxRecDepth 100000 in
set_option maxHeartbeats 8000000 in
theorem rk_sub1 (w : World) (news : Led) (v v' : Value) (c e c' e' bits d : Int) (b' : Bool) (to tb td : Tok) (hv : Kind news d v c e false) (hv' : Kind news d v' c' e' b')
    (hc : c.natAbs < 10 ^ 45) (hc' : c'.natAbs < 10 ^ 45) (hn' : (0 - c').natAbs < 10 ^ 45) (he : -45 ≤ e ∧ e ≤ 45) (he' : -45 ≤ e' ∧ e' ≤ 45) (hX : -45 ≤ minI e e' ∧ minI e e' ≤ 45) (hz : (addS c e (0 - c') e').natAbs < 10 ^ 45) (hdd : 1 ≤ d ∧ d ≤ 12) :
    Does w 14 220 [.str (Str.ofString "-") to, v, v', .int bits tb, .int d td] news (OkTup (madeC (addS c e (0 - c') e') (minI e e') d) (madeE (addS c e (0 - c') e') (minI e e') d)) := by
  unfold Does
  intro mean mg mb dp un gd cn cs a ccd cl outer A₀ base h₀ L m s Q E B F X N T hk hd hu ret
  k_extra "m enter"
  k_steps
  all_goals refine ret _ _ _ _ (by k_asm) (newsHead (by assumption) (by k_extra "m sub")) (oneNew (by k_extra "m lt")) (OkTup.of ?_)
  all_goals exact ⟨rfl, rfl⟩
set_option maxRecDepth 100000 in
set_option maxHeartbeats 8000000 in
theorem rk_sub2 (w : World) (news : Led) (v v' : Value) (c e c' e' bits d : Int) (to tb td : Tok) (hv : Kind news d v c e true) (hv' : Kind news d v' c' e' false)
    (hc : c.natAbs < 10 ^ 45) (hc' : c'.natAbs < 10 ^ 45) (hn' : (0 - c').natAbs < 10 ^ 45) (he : -45 ≤ e ∧ e ≤ 45) (he' : -45 ≤ e' ∧ e' ≤ 45) (hX : -45 ≤ minI e e' ∧ minI e e' ≤ 45) (hz : (addS c e (0 - c') e').natAbs < 10 ^ 45) (hdd : 1 ≤ d ∧ d ≤ 12) :
    Does w 14 220 [.str (Str.ofString "-") to, v, v', .int bits tb, .int d td] news (OkTup (madeC (addS c e (0 - c') e') (minI e e') d) (madeE (addS c e (0 - c') e') (minI e e') d)) := by
  unfold Does
  intro mean mg mb dp un gd cn cs a ccd cl outer A₀ base h₀ L m s Q E B F X N T hk hd hu ret
  k_extra "m enter"
  k_steps
  all_goals refine ret _ _ _ _ (by k_asm) (newsHead (by assumption) (by k_extra "m sub")) (oneNew (by k_extra "m lt")) (OkTup.of ?_)
  all_goals exact ⟨rfl, rfl⟩
set_option maxRecDepth 100000 in
set_option maxHeartbeats 8000000 in
theorem rk_mul1 (w : World) (news : Led) (v v' : Value) (c e c' e' bits d : Int) (b' : Bool) (to tb td : Tok) (hv : Kind news d v c e false) (hv' : Kind news d v' c' e' b')
    (hc : c.natAbs < 10 ^ 45) (hc' : c'.natAbs < 10 ^ 45) (hn' : (0 - c').natAbs < 10 ^ 45) (he : -45 ≤ e ∧ e ≤ 45) (he' : -45 ≤ e' ∧ e' ≤ 45) (hX : -45 ≤ e + e' ∧ e + e' ≤ 45) (hz : (c * c').natAbs < 10 ^ 45) (hdd : 1 ≤ d ∧ d ≤ 12) :
    Does w 14 220 [.str (Str.ofString "*") to, v, v', .int bits tb, .int d td] news (OkTup (madeC (c * c') (e + e') d) (madeE (c * c') (e + e') d)) := by
  unfold Does
  intro mean mg mb dp un gd cn cs a ccd cl outer A₀ base h₀ L m s Q E B F X N T hk hd hu ret
  k_extra "m enter"
  k_steps
  all_goals refine ret _ _ _ _ (by k_asm) (newsHead (by assumption) (by k_extra "m sub")) (oneNew (by k_extra "m lt")) (OkTup.of ?_)
  all_goals exact ⟨rfl, rfl⟩
set_option maxRecDepth 100000 in
set_option maxHeartbeats 8000000 in
theorem rk_mul2 (w : World) (news : Led) (v v' : Value) (c e c' e' bits d : Int) (to tb td : Tok) (hv : Kind news d v c e true) (hv' : Kind news d v' c' e' false)
    (hc : c.natAbs < 10 ^ 45) (hc' : c'.natAbs < 10 ^ 45) (hn' : (0 - c').natAbs < 10 ^ 45) (he : -45 ≤ e ∧ e ≤ 45) (he' : -45 ≤ e' ∧ e' ≤ 45) (hX : -45 ≤ e + e' ∧ e + e' ≤ 45) (hz : (c * c').natAbs < 10 ^ 45) (hdd : 1 ≤ d ∧ d ≤ 12) :
    Does w 14 220 [.str (Str.ofString "*") to, v, v', .int bits tb, .int d td] news (OkTup (madeC (c * c') (e + e') d) (madeE (c * c') (e + e') d)) := by
  unfold Does
  intro mean mg mb dp un gd cn cs a ccd cl outer A₀ base h₀ L m s Q E B F X N T hk hd hu ret
  k_extra "m enter"
  k_steps
  all_goals refine ret _ _ _ _ (by k_asm) (newsHead (by assumption) (by k_extra "m sub")) (oneNew (by k_extra "m lt")) (OkTup.of ?_)
  all_goals exact ⟨rfl, rfl⟩
theorem does_rk_dec (w : World) (news : Led) (op : Str) (v v' : Value) (c e c' e' S X' bits d : Int) (b b' : Bool) (to tb td : Tok) (hv : Kind news d v c e b) (hv' : Kind news d v' c' e' b') (hbb : (b && b') = false) (hop : OpD c e c' e' op S X')
    (hc : c.natAbs < 10 ^ 45) (hc' : c'.natAbs < 10 ^ 45) (he : -45 ≤ e ∧ e ≤ 45) (he' : -45 ≤ e' ∧ e' ≤ 45) (hX : -45 ≤ X' ∧ X' ≤ 45) (hz : S.natAbs < 10 ^ 45) (hdd : 1 ≤ d ∧ d ≤ 12) :
    Does w 14 220 [.str op to, v, v', .int bits tb, .int d td] news (OkTup (madeC S X' d) (madeE S X' d)) := by
  have hn' : (0 - c').natAbs < 10 ^ 45 := by omega
  cases b with
  | false => cases hop with
    | add => exact rk_add1 w news v v' c e c' e' bits d b' to tb td hv hv' hc hc' hn' he he' hX hz hdd
    | sub => exact rk_sub1 w news v v' c e c' e' bits d b' to tb td hv hv' hc hc' hn' he he' hX hz hdd
    | mul => exact rk_mul1 w news v v' c e c' e' bits d b' to tb td hv hv' hc hc' hn' he he' hX hz hdd
  | true =>
    cases b' with
    | true => cases hbb
    | false => cases hop with
      | add => exact rk_add2 w news v v' c e c' e' bits d to tb td hv hv' hc hc' hn' he he' hX hz hdd
      | sub => exact rk_sub2 w news v v' c e c' e' bits d to tb td hv hv' hc hc' hn' he he' hX hz hdd
      | mul => exact rk_mul2 w news v v' c e c' e' bits d to tb td hv hv' hc hc' hn' he he' hX hz hdd
end
section
theorem words66 : True := by
  k_with_none
  k_with "m k1" => (first | k_asm | ktn_no "m use: Below")
  k_with "m k2" => (first | k_asm | ktn_no "m use: Fr")
  k_with "m k3" => (first | k_asm | ktn_no "m use: In")
  k_with "m k5" => (first | k_asm | ktn_no "m use: Top")
  k_with "m k6" => (first | assumption | exact rfl | ktn_no "m use: kind")
  k_with "m k7" => (first | exact room1 (by with_reducible assumption) (by decide) | exact room2 (by with_reducible assumption) (by decide) | ktr_room | ktn_no "m use: room")
  k_with "m k8" => (first | exact units1 (by with_reducible assumption) (by decide) | exact units2 (by with_reducible assumption) (by decide) | ktr_units | ktn_no "m use: units")
  k_with "m enter" => ((refine wpAny_call ?_; k_dflt cell_enter))
  k_with "m sub" => (first | with_reducible exact fun _ h => h | with_reducible exact fun _ h => List.mem_cons_of_mem _ h | with_reducible exact fun _ h => List.mem_cons_of_mem _ (List.mem_cons_of_mem _ h) | with_reducible exact fun _ h => List.mem_cons_of_mem _ (List.mem_cons_of_mem _ (List.mem_cons_of_mem _ h)) | kcj_all)
  k_with "m drop" => (first | with_reducible assumption | exact cb_drop (by with_reducible assumption) (by k_extra "m sub") | k_asm | (refine' cb_drop (by assumption) (by kcj_all)) | ktn_no "m drop: the ledger")
  k_with "m fact" => (first | assumption | (constructor <;> assumption) | omega | (simp only [decide_eq_true_eq, decide_eq_false_iff_not, Int.not_lt, Int.not_le, gt_iff_lt, ge_iff_le] at *; omega) | ktn_no "m fact")
  k_with "!call ref" => ((k_here; (with_reducible show wpAny _ _ (PySem.call (Value.ref 44) _) _ _ _); k_dflt (refine' Does.use (by k_asm) (does_figs _ _ _ _ (by k_extra "m fact")) (by k_extra "m k1") (by k_extra "m k2") (by k_extra "m k3") (by k_extra "m k5") (by k_extra "m k6") (by k_extra "m k7") (by k_extra "m k8") ?_; intro r9 tl9 h9 tk9 F9 N9 l9 o9; cases o9; (try simp only [List.nil_append] at N9); clear l9; (try dsimp only); (try k_fold))))
  k_with "!call ref" => ((k_here; (with_reducible show wpAny _ _ (PySem.call (Value.ref 51) _) _ _ _); k_dflt (refine' Does.use (by k_asm) (does_rnd _ _ _ _ _ _ (by k_extra "m fact") (by k_extra "m fact") (by k_extra "m fact") (by k_extra "m fact")) (by k_extra "m k1") (by k_extra "m k2") (by k_extra "m k3") (by k_extra "m k5") (by k_extra "m k6") (by k_extra "m k7") (by k_extra "m k8") ?_; intro r9 tl9 h9 tk9 F9 N9 l9 o9; cases o9; (try simp only [List.nil_append] at N9); clear l9; (try dsimp only); (try k_fold))))
  k_with "m lt" => (first | assumption | exact ktn_ltOf (by assumption) | ((with_reducible rename _ ∧ AllLt _ _ => hlt); exact ktn_ltOf hlt.2) | exact ktn_ltOf (And.right (by assumption)) | exact ktn_ltOf (And.right (And.right (by assumption))) | exact ktn_ltOf (And.right (And.right (And.right (by assumption)))) | exact ktn_ltOf (And.right (And.right (And.right (And.right (by assumption))))) | exact ktn_ltOf (And.right (And.right (And.right (And.right (And.right (by assumption)))))) | exact ktn_ltOf (And.right (And.right (And.right (And.right (And.right (And.right (by assumption))))))) | ktn_no "m lt")
  k_with "m back" => ((intro r9 tl9 h9 tk9 F9 N9 l9 o9; cases o9; all_goals ((try simp only [List.nil_append, List.cons_append] at N9); (first | (replace l9 := newLt l9; (try k_lt l9)) | clear l9); (try dsimp only); (try k_fold))))
  k_with "!call ref" => ((k_here; (with_reducible show wpAny _ _ (PySem.call (Value.ref 58) _) _ _ _); k_dflt (refine' Does.use (by k_asm) (does_made _ _ _ _ _ _ _ _ (by k_extra "m fact") (by k_extra "m fact") (by k_extra "m fact")) (by k_extra "m k1") (by k_extra "m k2") (by k_extra "m k3") (by k_extra "m k5") (by k_extra "m k6") (by k_extra "m k7") (by k_extra "m k8") ?_; k_extra "m back")))
  k_with "m sm" => (first | assumption | exact Sm.of45 (by assumption) | exact Sm.p10 (by k_extra "m fact") | exact Sm.lit (by omega) | ktn_no "m sm")
  k_with "!binaryOp Mult int int" => ((k_here; (with_reducible refine PyProof.Rows.mul_int ?_ (IntMulOk.of_bits (Sm.bits (by k_extra "m sm")) (Sm.bits (by k_extra "m sm"))))))
  k_with "!call ref" => ((k_here; (with_reducible show wpAny _ _ (PySem.call (Value.ref 72) _) _ _ _); k_dflt (refine' Does.use (by k_asm) (does_fits _ _ _ _ _ _ (by k_extra "m fact")) (by k_extra "m k1") (by k_extra "m k2") (by k_extra "m k3") (by k_extra "m k5") (by k_extra "m k6") (by k_extra "m k7") (by k_extra "m k8") ?_; k_extra "m back")))
  k_with "!call ref" => ((k_here; (with_reducible show wpAny _ _ (PySem.call (Value.ref 86) _) _ _ _); k_dflt (refine' Does.use (by k_asm) (does_decimal_int _ _ _ _ _ _ (by k_extra "m fact") (by k_extra "m fact")) (by k_extra "m k1") (by k_extra "m k2") (by k_extra "m k3") (by k_extra "m k5") (by k_extra "m k6") (by k_extra "m k7") (by k_extra "m k8") ?_; k_extra "m back")))
  k_with "!call ref" => ((k_here; (with_reducible show wpAny _ _ (PySem.call (Value.ref 86) _) _ _ _); k_dflt (refine' Does.use (by k_asm) (does_decimal_tup _ _ _ _ _ _ _ _ _ (by k_mem) (by k_extra "m fact") (by k_extra "m fact") (by k_extra "m fact")) (by k_extra "m k1") (by k_extra "m k2") (by k_extra "m k3") (by k_extra "m k5") (by k_extra "m k6") (by k_extra "m k7") (by k_extra "m k8") ?_; k_extra "m back")))
  k_with "!call ref" => ((k_here; (with_reducible show wpAny _ _ (PySem.call (Value.ref 94) _) _ _ _); k_dflt (refine' Does.use (by k_asm) (does_negated _ _ _ _ _ _ _ (by k_mem)) (by k_extra "m k1") (by k_extra "m k2") (by k_extra "m k3") (by k_extra "m k5") (by k_extra "m k6") (by k_extra "m k7") (by k_extra "m k8") ?_; k_extra "m back")))
  k_with "!call ref" => ((k_here; (with_reducible show wpAny _ _ (PySem.call (Value.ref 101) _) _ _ _); k_dflt (refine' Does.use (by k_asm) (does_alike _ _ _ _ _ _ _ _ _ _ _ _ (by k_mem) (by k_mem) (by k_extra "m fact") (by k_extra "m fact") (by k_extra "m fact") (by k_extra "m fact")) (by k_extra "m k1") (by k_extra "m k2") (by k_extra "m k3") (by k_extra "m k5") (by k_extra "m k6") (by k_extra "m k7") (by k_extra "m k8") ?_; k_extra "m back")))
  k_with "!call ref" => ((k_here; (with_reducible show wpAny _ _ (PySem.call (Value.ref 108) _) _ _ _); k_dflt (refine' Does.use (by k_asm) (does_add _ _ _ _ _ _ _ _ _ _ _ _ _ _ (by k_mem) (by k_mem) (by k_extra "m fact") (by k_extra "m fact") (by k_extra "m fact") (by k_extra "m fact") (by k_extra "m fact") (by k_extra "m fact")) (by k_extra "m k1") (by k_extra "m k2") (by k_extra "m k3") (by k_extra "m k5") (by k_extra "m k6") (by k_extra "m k7") (by k_extra "m k8") ?_; k_extra "m back")))
  k_with "!call ref" => ((k_here; (with_reducible show wpAny _ _ (PySem.call (Value.ref 122) _) _ _ _); k_dflt (refine' Does.use (by k_asm) (does_mul _ _ _ _ _ _ _ _ _ _ _ _ _ _ (by k_mem) (by k_mem) (by k_extra "m fact") (by k_extra "m fact") (by k_extra "m fact") (by k_extra "m fact") (by k_extra "m fact")) (by k_extra "m k1") (by k_extra "m k2") (by k_extra "m k3") (by k_extra "m k5") (by k_extra "m k6") (by k_extra "m k7") (by k_extra "m k8") ?_; k_extra "m back")))
  k_with "!call ref" => ((k_here; (with_reducible show wpAny _ _ (PySem.call (Value.ref 129) _) _ _ _); k_dflt (refine' Does.use (by k_asm) (does_rest _ _ _ _ _ _ _ _) (by k_extra "m k1") (by k_extra "m k2") (by k_extra "m k3") (by k_extra "m k5") (by k_extra "m k6") (by k_extra "m k7") (by k_extra "m k8") ?_; k_extra "m back")))
  k_with "!call ref" => ((k_here; (with_reducible show wpAny _ _ (PySem.call (Value.ref 164) _) _ _ _); k_dflt (refine' Does.use (by k_asm) (does_is_whole _ _ _ _) (by k_extra "m k1") (by k_extra "m k2") (by k_extra "m k3") (by k_extra "m k5") (by k_extra "m k6") (by k_extra "m k7") (by k_extra "m k8") ?_; k_extra "m back")))
  k_with "!call ref" => ((k_here; (with_reducible show wpAny _ _ (PySem.call (Value.ref 164) _) _ _ _); k_dflt (refine' Does.use (by k_asm) (does_is_dec _ _ _ _ _ _ _ (by k_mem)) (by k_extra "m k1") (by k_extra "m k2") (by k_extra "m k3") (by k_extra "m k5") (by k_extra "m k6") (by k_extra "m k7") (by k_extra "m k8") ?_; k_extra "m back")))
  k_with "!call ref" => ((k_here; (with_reducible show wpAny _ _ (PySem.call (Value.ref 171) _) _ _ _); k_dflt (refine' Does.use (by k_asm) (does_settled _ _ _ _ _ _ _ _ (by k_extra "m fact") (by k_extra "m fact") (by k_extra "m fact")) (by k_extra "m k1") (by k_extra "m k2") (by k_extra "m k3") (by k_extra "m k5") (by k_extra "m k6") (by k_extra "m k7") (by k_extra "m k8") ?_; k_extra "m back")))
  k_with "!call ref" => ((k_here; (with_reducible show wpAny _ _ (PySem.call (Value.ref 115) _) _ _ _); k_dflt (refine' Does.use (by k_asm) (does_sub _ _ _ _ _ _ _ _ _ _ _ _ _ _ (by k_mem) (by k_mem) (by k_extra "m fact") (by k_extra "m fact") (by k_extra "m fact") (by k_extra "m fact") (by k_extra "m fact") (by k_extra "m fact")) (by k_extra "m k1") (by k_extra "m k2") (by k_extra "m k3") (by k_extra "m k5") (by k_extra "m k6") (by k_extra "m k7") (by k_extra "m k8") ?_; k_extra "m back")))
  k_with "!call ref" => ((k_here; (with_reducible show wpAny _ _ (PySem.call (Value.ref 143) _) _ _ _); k_dflt (refine' Does.use (by k_asm) (does_compare _ _ _ _ _ _ _ _ _ _ _ _ (by k_mem) (by k_mem) (by k_extra "m fact") (by k_extra "m fact") (by k_extra "m fact") (by k_extra "m fact")) (by k_extra "m k1") (by k_extra "m k2") (by k_extra "m k3") (by k_extra "m k5") (by k_extra "m k6") (by k_extra "m k7") (by k_extra "m k8") ?_; k_extra "m back")))
  k_with "!call ref" => ((k_here; (with_reducible show wpAny _ _ (PySem.call (Value.ref 136) _) _ _ _); k_dflt (refine' Does.use (by k_asm) (does_div _ _ _ _ _ _ _ _ _ _ _ _ _ _ (by k_mem) (by k_mem) (by k_extra "m fact") (by k_extra "m fact") (by k_extra "m fact") (by k_extra "m fact") (by k_extra "m fact")) (by k_extra "m k1") (by k_extra "m k2") (by k_extra "m k3") (by k_extra "m k5") (by k_extra "m k6") (by k_extra "m k7") (by k_extra "m k8") ?_; k_extra "m back")))
  k_with "!call ref" => ((k_here; (with_reducible show wpAny _ _ (PySem.call (Value.ref 178) _) _ _ _); k_dflt (refine' Does.use (by k_asm) (does_whole _ _ _ _ _ _ _ _ _ _ _ _ _ (by assumption) (by k_extra "m fact") (by k_extra "m fact") (by k_extra "m fact") (by k_extra "m fact") (by k_extra "m fact")) (by k_extra "m k1") (by k_extra "m k2") (by k_extra "m k3") (by k_extra "m k5") (by k_extra "m k6") (by k_extra "m k7") (by k_extra "m k8") ?_; k_extra "m back")))
  k_with "!call ref" => ((k_here; (with_reducible show wpAny _ _ (PySem.call (Value.ref 220) _) _ _ _); k_dflt (refine' Does.use (by k_asm) (does_rk_int _ _ _ _ _ _ _ _ _ _ _ _ _ (by assumption) (by k_extra "m fact") (by k_extra "m fact") (by k_extra "m fact") (by k_extra "m fact") (by k_extra "m fact")) (by k_extra "m k1") (by k_extra "m k2") (by k_extra "m k3") (by k_extra "m k5") (by k_extra "m k6") (by k_extra "m k7") (by k_extra "m k8") ?_; k_extra "m back")))
  trivial
set_option maxRecDepth 100000 in
set_option maxHeartbeats 8000000 in
theorem does_rk_div (w : World) (news : Led) (x y : Addr) (c e c' e' bits d : Int) (to tb td tc te tc' te' : Tok) (hx : (x, tup2 c tc e te) ∈ news) (hy : (y, tup2 c' tc' e' te') ∈ news)
    (hi : madeC c e d = c ∧ madeE c e d = e) (hi' : madeC c' e' d = c' ∧ madeE c' e' d = e')
    (hc : 0 < c ∧ c ≤ 1000) (hc' : 0 < c' ∧ c' ≤ 1000) (he : -10 ≤ e ∧ e ≤ 10) (he' : -10 ≤ e' ∧ e' ≤ 10) (hdd : 1 ≤ d ∧ d ≤ 12) :
    Does w 14 220 [.str (Str.ofString "/") to, .ref x, .ref y, .int bits tb, .int d td] news (OkTup (madeC (divQ c c' d) (divX c e c' e' d) d) (madeE (divQ c c' d) (divX c e c' e' d) d)) := by
  unfold Does
  intro mean mg mb dp un gd cn cs a ccd cl outer A₀ base h₀ L m s Q E B F X N T hk hd hu ret
  have hb1 : c.natAbs < 10 ^ 45 := by omega
  have hb2 : c'.natAbs < 10 ^ 45 := by omega
  have hb3 : -45 ≤ e ∧ e ≤ 45 := by omega
  have hb4 : -45 ≤ e' ∧ e' ≤ 45 := by omega
  have g1 : 0 < madeC c e d ∧ madeC c e d ≤ 1000 := by rw [hi.1]; exact hc
  have g2 : 0 < madeC c' e' d ∧ madeC c' e' d ≤ 1000 := by rw [hi'.1]; exact hc'
  have g3 : -10 ≤ madeE c e d ∧ madeE c e d ≤ 10 := by rw [hi.2]; exact he
  have g4 : -10 ≤ madeE c' e' d ∧ madeE c' e' d ≤ 10 := by rw [hi'.2]; exact he'
  k_extra "m enter"
  k_steps
  all_goals refine ret _ _ _ _ (by k_asm) (newsHead (by assumption) (by k_extra "m sub")) (oneNew (by k_extra "m lt")) (OkTup.of ?_)
  all_goals (rw [hi.1, hi.2, hi'.1, hi'.2]; exact ⟨rfl, rfl⟩)
end
section
theorem words68 : True := by
  k_with_none
  k_with "m k1" => (first | k_asm | ktn_no "m use: Below")
  k_with "m k2" => (first | k_asm | ktn_no "m use: Fr")
  k_with "m k3" => (first | k_asm | ktn_no "m use: In")
  k_with "m k5" => (first | k_asm | ktn_no "m use: Top")
  k_with "m k6" => (first | assumption | exact rfl | ktn_no "m use: kind")
  k_with "m k7" => (first | exact room1 (by with_reducible assumption) (by decide) | exact room2 (by with_reducible assumption) (by decide) | ktr_room | ktn_no "m use: room")
  k_with "m k8" => (first | exact units1 (by with_reducible assumption) (by decide) | exact units2 (by with_reducible assumption) (by decide) | ktr_units | ktn_no "m use: units")
  k_with "m enter" => ((refine wpAny_call ?_; k_dflt cell_enter))
  k_with "m sub" => (first | with_reducible exact fun _ h => h | with_reducible exact fun _ h => List.mem_cons_of_mem _ h | with_reducible exact fun _ h => List.mem_cons_of_mem _ (List.mem_cons_of_mem _ h) | with_reducible exact fun _ h => List.mem_cons_of_mem _ (List.mem_cons_of_mem _ (List.mem_cons_of_mem _ h)) | kcj_all)
  k_with "m drop" => (first | with_reducible assumption | exact cb_drop (by with_reducible assumption) (by k_extra "m sub") | k_asm | (refine' cb_drop (by assumption) (by kcj_all)) | ktn_no "m drop: the ledger")
  k_with "m fact" => (first | assumption | (constructor <;> assumption) | omega | (simp only [decide_eq_true_eq, decide_eq_false_iff_not, Int.not_lt, Int.not_le, gt_iff_lt, ge_iff_le] at *; omega) | ktn_no "m fact")
  k_with "!call ref" => ((k_here; (with_reducible show wpAny _ _ (PySem.call (Value.ref 44) _) _ _ _); k_dflt (refine' Does.use (by k_asm) (does_figs _ _ _ _ (by k_extra "m fact")) (by k_extra "m k1") (by k_extra "m k2") (by k_extra "m k3") (by k_extra "m k5") (by k_extra "m k6") (by k_extra "m k7") (by k_extra "m k8") ?_; intro r9 tl9 h9 tk9 F9 N9 l9 o9; cases o9; (try simp only [List.nil_append] at N9); clear l9; (try dsimp only); (try k_fold))))
  k_with "!call ref" => ((k_here; (with_reducible show wpAny _ _ (PySem.call (Value.ref 51) _) _ _ _); k_dflt (refine' Does.use (by k_asm) (does_rnd _ _ _ _ _ _ (by k_extra "m fact") (by k_extra "m fact") (by k_extra "m fact") (by k_extra "m fact")) (by k_extra "m k1") (by k_extra "m k2") (by k_extra "m k3") (by k_extra "m k5") (by k_extra "m k6") (by k_extra "m k7") (by k_extra "m k8") ?_; intro r9 tl9 h9 tk9 F9 N9 l9 o9; cases o9; (try simp only [List.nil_append] at N9); clear l9; (try dsimp only); (try k_fold))))
  k_with "m lt" => (first | assumption | exact ktn_ltOf (by assumption) | ((with_reducible rename _ ∧ AllLt _ _ => hlt); exact ktn_ltOf hlt.2) | exact ktn_ltOf (And.right (by assumption)) | exact ktn_ltOf (And.right (And.right (by assumption))) | exact ktn_ltOf (And.right (And.right (And.right (by assumption)))) | exact ktn_ltOf (And.right (And.right (And.right (And.right (by assumption))))) | exact ktn_ltOf (And.right (And.right (And.right (And.right (And.right (by assumption)))))) | exact ktn_ltOf (And.right (And.right (And.right (And.right (And.right (And.right (by assumption))))))) | ktn_no "m lt")
  k_with "m back" => ((intro r9 tl9 h9 tk9 F9 N9 l9 o9; cases o9; all_goals ((try simp only [List.nil_append, List.cons_append] at N9); (first | (replace l9 := newLt l9; (try k_lt l9)) | clear l9); (try dsimp only); (try k_fold))))
  k_with "!call ref" => ((k_here; (with_reducible show wpAny _ _ (PySem.call (Value.ref 58) _) _ _ _); k_dflt (refine' Does.use (by k_asm) (does_made _ _ _ _ _ _ _ _ (by k_extra "m fact") (by k_extra "m fact") (by k_extra "m fact")) (by k_extra "m k1") (by k_extra "m k2") (by k_extra "m k3") (by k_extra "m k5") (by k_extra "m k6") (by k_extra "m k7") (by k_extra "m k8") ?_; k_extra "m back")))
  k_with "m sm" => (first | assumption | exact Sm.of45 (by assumption) | exact Sm.p10 (by k_extra "m fact") | exact Sm.lit (by omega) | ktn_no "m sm")
  k_with "!binaryOp Mult int int" => ((k_here; (with_reducible refine PyProof.Rows.mul_int ?_ (IntMulOk.of_bits (Sm.bits (by k_extra "m sm")) (Sm.bits (by k_extra "m sm"))))))
  k_with "!call ref" => ((k_here; (with_reducible show wpAny _ _ (PySem.call (Value.ref 72) _) _ _ _); k_dflt (refine' Does.use (by k_asm) (does_fits _ _ _ _ _ _ (by k_extra "m fact")) (by k_extra "m k1") (by k_extra "m k2") (by k_extra "m k3") (by k_extra "m k5") (by k_extra "m k6") (by k_extra "m k7") (by k_extra "m k8") ?_; k_extra "m back")))
  k_with "!call ref" => ((k_here; (with_reducible show wpAny _ _ (PySem.call (Value.ref 86) _) _ _ _); k_dflt (refine' Does.use (by k_asm) (does_decimal_int _ _ _ _ _ _ (by k_extra "m fact") (by k_extra "m fact")) (by k_extra "m k1") (by k_extra "m k2") (by k_extra "m k3") (by k_extra "m k5") (by k_extra "m k6") (by k_extra "m k7") (by k_extra "m k8") ?_; k_extra "m back")))
  k_with "!call ref" => ((k_here; (with_reducible show wpAny _ _ (PySem.call (Value.ref 86) _) _ _ _); k_dflt (refine' Does.use (by k_asm) (does_decimal_tup _ _ _ _ _ _ _ _ _ (by k_mem) (by k_extra "m fact") (by k_extra "m fact") (by k_extra "m fact")) (by k_extra "m k1") (by k_extra "m k2") (by k_extra "m k3") (by k_extra "m k5") (by k_extra "m k6") (by k_extra "m k7") (by k_extra "m k8") ?_; k_extra "m back")))
  k_with "!call ref" => ((k_here; (with_reducible show wpAny _ _ (PySem.call (Value.ref 94) _) _ _ _); k_dflt (refine' Does.use (by k_asm) (does_negated _ _ _ _ _ _ _ (by k_mem)) (by k_extra "m k1") (by k_extra "m k2") (by k_extra "m k3") (by k_extra "m k5") (by k_extra "m k6") (by k_extra "m k7") (by k_extra "m k8") ?_; k_extra "m back")))
  k_with "!call ref" => ((k_here; (with_reducible show wpAny _ _ (PySem.call (Value.ref 101) _) _ _ _); k_dflt (refine' Does.use (by k_asm) (does_alike _ _ _ _ _ _ _ _ _ _ _ _ (by k_mem) (by k_mem) (by k_extra "m fact") (by k_extra "m fact") (by k_extra "m fact") (by k_extra "m fact")) (by k_extra "m k1") (by k_extra "m k2") (by k_extra "m k3") (by k_extra "m k5") (by k_extra "m k6") (by k_extra "m k7") (by k_extra "m k8") ?_; k_extra "m back")))
  k_with "!call ref" => ((k_here; (with_reducible show wpAny _ _ (PySem.call (Value.ref 108) _) _ _ _); k_dflt (refine' Does.use (by k_asm) (does_add _ _ _ _ _ _ _ _ _ _ _ _ _ _ (by k_mem) (by k_mem) (by k_extra "m fact") (by k_extra "m fact") (by k_extra "m fact") (by k_extra "m fact") (by k_extra "m fact") (by k_extra "m fact")) (by k_extra "m k1") (by k_extra "m k2") (by k_extra "m k3") (by k_extra "m k5") (by k_extra "m k6") (by k_extra "m k7") (by k_extra "m k8") ?_; k_extra "m back")))
  k_with "!call ref" => ((k_here; (with_reducible show wpAny _ _ (PySem.call (Value.ref 122) _) _ _ _); k_dflt (refine' Does.use (by k_asm) (does_mul _ _ _ _ _ _ _ _ _ _ _ _ _ _ (by k_mem) (by k_mem) (by k_extra "m fact") (by k_extra "m fact") (by k_extra "m fact") (by k_extra "m fact") (by k_extra "m fact")) (by k_extra "m k1") (by k_extra "m k2") (by k_extra "m k3") (by k_extra "m k5") (by k_extra "m k6") (by k_extra "m k7") (by k_extra "m k8") ?_; k_extra "m back")))
  k_with "!call ref" => ((k_here; (with_reducible show wpAny _ _ (PySem.call (Value.ref 129) _) _ _ _); k_dflt (refine' Does.use (by k_asm) (does_rest _ _ _ _ _ _ _ _) (by k_extra "m k1") (by k_extra "m k2") (by k_extra "m k3") (by k_extra "m k5") (by k_extra "m k6") (by k_extra "m k7") (by k_extra "m k8") ?_; k_extra "m back")))
  k_with "!call ref" => ((k_here; (with_reducible show wpAny _ _ (PySem.call (Value.ref 164) _) _ _ _); k_dflt (refine' Does.use (by k_asm) (does_is_whole _ _ _ _) (by k_extra "m k1") (by k_extra "m k2") (by k_extra "m k3") (by k_extra "m k5") (by k_extra "m k6") (by k_extra "m k7") (by k_extra "m k8") ?_; k_extra "m back")))
  k_with "!call ref" => ((k_here; (with_reducible show wpAny _ _ (PySem.call (Value.ref 164) _) _ _ _); k_dflt (refine' Does.use (by k_asm) (does_is_dec _ _ _ _ _ _ _ (by k_mem)) (by k_extra "m k1") (by k_extra "m k2") (by k_extra "m k3") (by k_extra "m k5") (by k_extra "m k6") (by k_extra "m k7") (by k_extra "m k8") ?_; k_extra "m back")))
  k_with "!call ref" => ((k_here; (with_reducible show wpAny _ _ (PySem.call (Value.ref 171) _) _ _ _); k_dflt (refine' Does.use (by k_asm) (does_settled _ _ _ _ _ _ _ _ (by k_extra "m fact") (by k_extra "m fact") (by k_extra "m fact")) (by k_extra "m k1") (by k_extra "m k2") (by k_extra "m k3") (by k_extra "m k5") (by k_extra "m k6") (by k_extra "m k7") (by k_extra "m k8") ?_; k_extra "m back")))
  k_with "!call ref" => ((k_here; (with_reducible show wpAny _ _ (PySem.call (Value.ref 115) _) _ _ _); k_dflt (refine' Does.use (by k_asm) (does_sub _ _ _ _ _ _ _ _ _ _ _ _ _ _ (by k_mem) (by k_mem) (by k_extra "m fact") (by k_extra "m fact") (by k_extra "m fact") (by k_extra "m fact") (by k_extra "m fact") (by k_extra "m fact")) (by k_extra "m k1") (by k_extra "m k2") (by k_extra "m k3") (by k_extra "m k5") (by k_extra "m k6") (by k_extra "m k7") (by k_extra "m k8") ?_; k_extra "m back")))
  k_with "!call ref" => ((k_here; (with_reducible show wpAny _ _ (PySem.call (Value.ref 143) _) _ _ _); k_dflt (refine' Does.use (by k_asm) (does_compare _ _ _ _ _ _ _ _ _ _ _ _ (by k_mem) (by k_mem) (by k_extra "m fact") (by k_extra "m fact") (by k_extra "m fact") (by k_extra "m fact")) (by k_extra "m k1") (by k_extra "m k2") (by k_extra "m k3") (by k_extra "m k5") (by k_extra "m k6") (by k_extra "m k7") (by k_extra "m k8") ?_; k_extra "m back")))
  k_with "!call ref" => ((k_here; (with_reducible show wpAny _ _ (PySem.call (Value.ref 136) _) _ _ _); k_dflt (refine' Does.use (by k_asm) (does_div _ _ _ _ _ _ _ _ _ _ _ _ _ _ (by k_mem) (by k_mem) (by k_extra "m fact") (by k_extra "m fact") (by k_extra "m fact") (by k_extra "m fact") (by k_extra "m fact")) (by k_extra "m k1") (by k_extra "m k2") (by k_extra "m k3") (by k_extra "m k5") (by k_extra "m k6") (by k_extra "m k7") (by k_extra "m k8") ?_; k_extra "m back")))
  k_with "!call ref" => ((k_here; (with_reducible show wpAny _ _ (PySem.call (Value.ref 178) _) _ _ _); k_dflt (refine' Does.use (by k_asm) (does_whole _ _ _ _ _ _ _ _ _ _ _ _ _ (by assumption) (by k_extra "m fact") (by k_extra "m fact") (by k_extra "m fact") (by k_extra "m fact") (by k_extra "m fact")) (by k_extra "m k1") (by k_extra "m k2") (by k_extra "m k3") (by k_extra "m k5") (by k_extra "m k6") (by k_extra "m k7") (by k_extra "m k8") ?_; k_extra "m back")))
  k_with "!call ref" => ((k_here; (with_reducible show wpAny _ _ (PySem.call (Value.ref 220) _) _ _ _); k_dflt (refine' Does.use (by k_asm) (does_rk_int _ _ _ _ _ _ _ _ _ _ _ _ _ (by assumption) (by k_extra "m fact") (by k_extra "m fact") (by k_extra "m fact") (by k_extra "m fact") (by k_extra "m fact")) (by k_extra "m k1") (by k_extra "m k2") (by k_extra "m k3") (by k_extra "m k5") (by k_extra "m k6") (by k_extra "m k7") (by k_extra "m k8") ?_; k_extra "m back")))
  trivial
/-- a cell's value: the whole number itself, or its decimal -/
inductive CellRep (news : Led) (n : Int) : Value → Prop
  | int (t : Tok) : CellRep news n (.int n t)
  | dec (a : Addr) (t u : Tok) (hm : (a, tup2 (madeC n 0 12) t (madeE n 0 12) u) ∈ news) : CellRep news n (.ref a)
theorem CellRep.mono {news news' : Led} {n : Int} {v : Value} (h : CellRep news n v) (hs : ∀ p ∈ news, p ∈ news') : CellRep news' n v := by
  cases h with
  | int t => exact .int t
  | dec a t u hm => exact .dec a t u (hs _ hm)
inductive CellOk (n bits : Int) : Value → Led → Prop
  | whole (t : Tok) (h : fitsB n bits = true) : CellOk n bits (.int n t) []
  | dec (a : Addr) (t u : Tok) : CellOk n bits (.ref a) [(a, tup2 (madeC n 0 12) t (madeE n 0 12) u)]
theorem CellOk.rep {n bits : Int} {v : Value} {tl news : Led} (h : CellOk n bits v tl) : CellRep (tl ++ news) n v := by
  cases h with
  | whole t h => exact .int t
  | dec a t u => exact .dec a t u (.head _)
theorem opD_of {n₁ n₂ z : Int} {op : Str} (h : Op3 n₁ n₂ op z) (g₁ : Good n₁) (g₂ : Good n₂) (b₁ : n₁.natAbs ≤ 10 ^ 16) (b₂ : n₂.natAbs ≤ 10 ^ 16) :
    ∃ S X, OpD (madeC n₁ 0 12) (madeE n₁ 0 12) (madeC n₂ 0 12) (madeE n₂ 0 12) op S X ∧ S * 10 ^ X.toNat = z ∧ 0 ≤ X ∧ X ≤ 45 := by
  have v₁ := made_value n₁
  have v₂ := made_value n₂
  rw [g₁] at v₁; rw [g₂] at v₂
  have e₁ := madeE_nn n₁
  have e₂ := madeE_nn n₂
  have l₁ := madeE_le b₁
  have l₂ := madeE_le b₂
  obtain ⟨m1, m2, m3⟩ := minI_le (madeE n₁ 0 12) (madeE n₂ 0 12)
  cases h with
  | add => exact ⟨_, _, .add, by rw [addS_value e₁ e₂, v₁, v₂], by omega, by omega⟩
  | sub => exact ⟨_, _, .sub, by rw [addS_value e₁ e₂, v₁, Int.sub_mul, v₂, Int.zero_mul]; omega, by omega, by omega⟩
  | mul =>
    refine ⟨_, _, .mul, ?_, by omega, by omega⟩
    rw [show (madeE n₁ 0 12 + madeE n₂ 0 12).toNat = (madeE n₁ 0 12).toNat + (madeE n₂ 0 12).toNat by omega, Int.pow_add]
    calc madeC n₁ 0 12 * madeC n₂ 0 12 * (10 ^ (madeE n₁ 0 12).toNat * 10 ^ (madeE n₂ 0 12).toNat)
        = (madeC n₁ 0 12 * 10 ^ (madeE n₁ 0 12).toNat) * (madeC n₂ 0 12 * 10 ^ (madeE n₂ 0 12).toNat) := by ac_rfl
      _ = n₁ * n₂ := by rw [v₁, v₂]
theorem CellRep.kind {news : Led} {n : Int} {v : Value} (h : CellRep news n v) (b : n.natAbs ≤ 10 ^ 16) : ∃ q, Kind news 12 v (madeC n 0 12) (madeE n 0 12) q ∧ (q = true → ∃ t, v = .int n t) := by
  have h1 := madeC_lt n 0
  have h2 := madeE_nn n
  have h3 := madeE_le b
  cases h with
  | int t => exact ⟨true, .int n t (Nat.lt_of_le_of_lt b (by decide)), fun _ => ⟨t, rfl⟩⟩
  | dec a t u hm =>
    have hi := madeC_idem n 0 12 (by decide)
    have k := Kind.dec (news := news) (d := 12) a (madeC n 0 12) (madeE n 0 12) t u hm (Nat.lt_trans h1 (by decide)) (by omega)
    rw [hi.1, hi.2] at k
    exact ⟨false, k, fun h => nomatch h⟩
theorem does_cell (w : World) (news news₀ : Led) (op : Str) (v v' : Value) (n₁ n₂ z bits : Int) (to tb td : Tok) (r₁ : CellRep news₀ n₁ v) (r₂ : CellRep news₀ n₂ v') (hs : ∀ p ∈ news₀, p ∈ news) (h : Op3 n₁ n₂ op z) (g₁ : Good n₁) (g₂ : Good n₂)
    (b₁ : n₁.natAbs ≤ 10 ^ 16) (b₂ : n₂.natAbs ≤ 10 ^ 16) (bz : z.natAbs ≤ 10 ^ 32) (hb : 1 ≤ bits ∧ bits ≤ 32) : Does w 14 220 [.str op to, v, v', .int bits tb, .int 12 td] news (CellOk (cutI z) bits) := by
  have r₁ := r₁.mono hs
  have r₂ := r₂.mono hs
  obtain ⟨q₁, k₁, i₁⟩ := r₁.kind b₁
  obtain ⟨q₂, k₂, i₂⟩ := r₂.kind b₂
  cases hq : (q₁ && q₂) with
  | true =>
    rw [Bool.and_eq_true] at hq
    obtain ⟨t₁, rfl⟩ := i₁ hq.1
    obtain ⟨t₂, rfl⟩ := i₂ hq.2
    refine (does_rk_int w news op n₁ n₂ z bits 12 to t₁ t₂ tb td h (Nat.lt_of_le_of_lt b₁ (by decide)) (Nat.lt_of_le_of_lt b₂ (by decide)) (Nat.lt_of_le_of_lt bz (by decide)) (by omega) (by decide)).mono (by decide) ?_
    intro r tl o
    cases o with
    | whole t hf =>
      have hg : cutI z = z := good_small (fits_small hb.2 hf)
      rw [hg]
      exact .whole t hf
    | dec a t u hf =>
      rw [← madeC_cut z, ← madeE_cut z]
      exact .dec a t u
  | false =>
    obtain ⟨S, X, hop, hv, hX0, hX1⟩ := opD_of h g₁ g₂ b₁ b₂
    have c₁ := madeC_lt n₁ 0
    have c₂ := madeC_lt n₂ 0
    have e₁ := madeE_nn n₁
    have e₂ := madeE_nn n₂
    have l₁ := madeE_le b₁
    have l₂ := madeE_le b₂
    have hS : S.natAbs < 10 ^ 45 := Nat.lt_of_le_of_lt (Nat.le_trans (abs_shift_le hv) bz) (by decide)
    refine (does_rk_dec w news op v v' _ _ _ _ S X bits 12 q₁ q₂ to tb td k₁ k₂ hq hop (Nat.lt_trans c₁ (by decide)) (Nat.lt_trans c₂ (by decide)) (by omega) (by omega) (by omega) hS (by decide)).mono (Nat.le_refl _) ?_
    intro r tl o
    cases o with
    | mk a t u =>
      obtain ⟨m1, m2⟩ := made_whole hX0 hv
      rw [m1, m2, ← madeC_cut z, ← madeE_cut z]
      exact .dec a t u
theorem cmpI_self (x : Int) : cmpI x x = 0 := by unfold cmpI; simp
theorem order_dec {n : Int} (g : Good n) : cmpI (n * 10 ^ ((0 : Int) - minI 0 (madeE n 0 12)).toNat) (madeC n 0 12 * 10 ^ (madeE n 0 12 - minI 0 (madeE n 0 12)).toNat) = 0 := by
  have e := madeE_nn n
  have v := made_value n
  rw [g] at v
  have hm : minI 0 (madeE n 0 12) = 0 := by unfold minI; split <;> omega
  rw [hm, show (madeE n 0 12 - 0).toNat = (madeE n 0 12).toNat by omega, v]
  simp [cmpI]
theorem order_ced {n : Int} (g : Good n) : cmpI (madeC n 0 12 * 10 ^ (madeE n 0 12 - minI (madeE n 0 12) 0).toNat) (n * 10 ^ ((0 : Int) - minI (madeE n 0 12) 0).toNat) = 0 := by
  have e := madeE_nn n
  have v := made_value n
  rw [g] at v
  have hm : minI (madeE n 0 12) 0 = 0 := by unfold minI; split <;> omega
  rw [hm, show (madeE n 0 12 - 0).toNat = (madeE n 0 12).toNat by omega, v]
  simp [cmpI]
set_option maxRecDepth 100000 in
set_option maxHeartbeats 8000000 in
theorem order_ii (w : World) (news : Led) (n : Int) (t t' : Tok) : Does w 10 227 [.int n t, .int n t'] news (OkInt 0) := by
  unfold Does
  intro mean mg mb dp un gd cn cs a ccd cl outer A₀ base h₀ L m s Q E B F X N T hk hd hu ret
  k_extra "m enter"
  k_steps
  all_goals refine ret _ [] _ _ (by k_asm) (by k_extra "m drop") noNew (OkInt.of _ ?_)
  all_goals exact cmpI_self n
set_option maxRecDepth 100000 in
set_option maxHeartbeats 8000000 in
theorem order_id (w : World) (news : Led) (n c e : Int) (x : Addr) (t tc te : Tok) (hx : (x, tup2 c tc e te) ∈ news) (hn : n.natAbs < 10 ^ 45) (hc : c.natAbs < 10 ^ 45) (he : -45 ≤ e ∧ e ≤ 45) : Does w 10 227 [.int n t, .ref x] news (OkInt (cmpI (n * 10 ^ ((0 : Int) - minI 0 e).toNat) (c * 10 ^ (e - minI 0 e).toNat))) := by
  unfold Does
  intro mean mg mb dp un gd cn cs a ccd cl outer A₀ base h₀ L m s Q E B F X N T hk hd hu ret
  k_extra "m enter"
  k_steps
  all_goals refine ret _ [] _ _ (by k_asm) (by k_extra "m drop") noNew (OkInt.of _ ?_)
  all_goals rfl
set_option maxRecDepth 100000 in
set_option maxHeartbeats 8000000 in
theorem order_di (w : World) (news : Led) (n c e : Int) (x : Addr) (t tc te : Tok) (hx : (x, tup2 c tc e te) ∈ news) (hn : n.natAbs < 10 ^ 45) (hc : c.natAbs < 10 ^ 45) (he : -45 ≤ e ∧ e ≤ 45) : Does w 10 227 [.ref x, .int n t] news (OkInt (cmpI (c * 10 ^ (e - minI e 0).toNat) (n * 10 ^ ((0 : Int) - minI e 0).toNat))) := by
  unfold Does
  intro mean mg mb dp un gd cn cs a ccd cl outer A₀ base h₀ L m s Q E B F X N T hk hd hu ret
  k_extra "m enter"
  k_steps
  all_goals refine ret _ [] _ _ (by k_asm) (by k_extra "m drop") noNew (OkInt.of _ ?_)
  all_goals rfl
set_option maxRecDepth 100000 in
set_option maxHeartbeats 8000000 in
theorem order_dd (w : World) (news : Led) (c e : Int) (x y : Addr) (tc te tc' te' : Tok) (hx : (x, tup2 c tc e te) ∈ news) (hy : (y, tup2 c tc' e te') ∈ news) (hc : c.natAbs < 10 ^ 45) (he : -45 ≤ e ∧ e ≤ 45) : Does w 10 227 [.ref x, .ref y] news (OkInt (cmpI (c * 10 ^ (e - minI e e).toNat) (c * 10 ^ (e - minI e e).toNat))) := by
  unfold Does
  intro mean mg mb dp un gd cn cs a ccd cl outer A₀ base h₀ L m s Q E B F X N T hk hd hu ret
  k_extra "m enter"
  k_steps
  all_goals refine ret _ [] _ _ (by k_asm) (by k_extra "m drop") noNew (OkInt.of _ ?_)
  all_goals rfl
theorem does_order (w : World) (news news₀ : Led) (v v' : Value) (n : Int) (r₁ : CellRep news₀ n v) (r₂ : CellRep news₀ n v') (hs : ∀ p ∈ news₀, p ∈ news) (g : Good n) (b : n.natAbs ≤ 10 ^ 32) : Does w 10 227 [v, v'] news (OkInt 0) := by
  have r₁ := r₁.mono hs
  have r₂ := r₂.mono hs
  have hn : n.natAbs < 10 ^ 45 := Nat.lt_of_le_of_lt b (by decide)
  have hc : (madeC n 0 12).natAbs < 10 ^ 45 := Nat.lt_trans (madeC_lt n 0) (by decide)
  have e1 := madeE_nn n
  have e2 := madeE_le b
  have he : -45 ≤ madeE n 0 12 ∧ madeE n 0 12 ≤ 45 := by omega
  cases r₁ with
  | int t => cases r₂ with
    | int t' => exact order_ii w news n t t'
    | dec x tc te hx => have D := order_id w news n _ _ x t tc te hx hn hc he; rw [order_dec g] at D; exact D
  | dec x tc te hx => cases r₂ with
    | int t => have D := order_di w news n _ _ x t tc te hx hn hc he; rw [order_ced g] at D; exact D
    | dec y tc' te' hy => have D := order_dd w news _ _ x y tc te tc' te' hx hy hc he; rw [cmpI_self] at D; exact D
end
section
theorem words72 : True := by
  k_with_none
  k_with "m k1" => (first | k_asm | ktn_no "m use: Below")
  k_with "m k2" => (first | k_asm | ktn_no "m use: Fr")
  k_with "m k3" => (first | k_asm | ktn_no "m use: In")
  k_with "m k5" => (first | k_asm | ktn_no "m use: Top")
  k_with "m k6" => (first | assumption | exact rfl | ktn_no "m use: kind")
  k_with "m k7" => (first | exact room1 (by with_reducible assumption) (by decide) | exact room2 (by with_reducible assumption) (by decide) | ktr_room | ktn_no "m use: room")
  k_with "m k8" => (first | exact units1 (by with_reducible assumption) (by decide) | exact units2 (by with_reducible assumption) (by decide) | ktr_units | ktn_no "m use: units")
  k_with "m enter" => ((refine wpAny_call ?_; k_dflt cell_enter))
  k_with "m sub" => (first | with_reducible exact fun _ h => h | with_reducible exact fun _ h => List.mem_cons_of_mem _ h | with_reducible exact fun _ h => List.mem_cons_of_mem _ (List.mem_cons_of_mem _ h) | with_reducible exact fun _ h => List.mem_cons_of_mem _ (List.mem_cons_of_mem _ (List.mem_cons_of_mem _ h)) | kcj_all)
  k_with "m drop" => (first | with_reducible assumption | exact cb_drop (by with_reducible assumption) (by k_extra "m sub") | k_asm | (refine' cb_drop (by assumption) (by kcj_all)) | ktn_no "m drop: the ledger")
  k_with "m fact" => (first | assumption | (constructor <;> assumption) | omega | (simp only [decide_eq_true_eq, decide_eq_false_iff_not, Int.not_lt, Int.not_le, gt_iff_lt, ge_iff_le] at *; omega) | ktn_no "m fact")
  trivial
/-- what a call of the def at f does that changes what stands: it gives back a value and leaves the ledger that «ok» says -/
def DoesTo (w : World) (need : Nat) (f : Addr) (vs : List Value) (news : Led) (ok : Value → Led → Prop) : Prop :=
  ∀ (mean : ExcName → Option Value) (mg mb : Str → Option Value) (dp un : Nat) (gd : Option (List Code)) (cn : Str) (cs : Scope) (a : Addr) (ccd : Value) (cl : List (Str × Addr)) (outer : List Env) (A₀ : Around) (base h₀ : Heap) (L : Addr) (m : Str → Option Value) (s : Shared) (Q E : Value → Shared → Prop),
    Below A₀ base outer h₀ → Fr h₀ L s.heap m → (hd.heap_1 w.params).In h₀ → News h₀ L s.heap news → Top hdView loose mean mg mb h₀ → cs.kind = .function →
    dp + need < recursionLimit → un + 8 * need < cLine →
    (∀ r news' h' tk', Fr h₀ L h' m → News h₀ L h' news' → ok r news' → Q r { s with heap := h', toks := tk' }) →
    wpAny (model PySem.Challenge.rw_xm0050_01.row.prog w) (ktrTop dp un gd cn cs L a ccd cl outer) (call (.ref f) vs) Q E s
abbrev lst2 (l : Addr) (k : Int) (t : Tok) (n : Nat) : Obj := W.listOf #[.ref l, .int k t] n
local macro_rules | `(tactic| k_all) => `(tactic| assumption)
theorem len_led {prog : Program} {w : World} {A : Around} {E : Value → Shared → Prop} {s : Shared} {h₀ : Heap} {L l : Addr} {news : Led} {vs : List Value} {ns : List Int} {n : Nat} {Q : Value → Shared → Prop}
    (N : News h₀ L s.heap news) (hm : (l, W.listOf vs.toArray n) ∈ news) (hi : IntsAre vs ns) (hlen : ns.length ≤ 63) (h : Q (.int ns.length (s.toks + 1)) { s with toks := s.toks + 1 + 1 }) : wpAny (model prog w) A (call (.builtin "len") [.ref l]) Q E s := by
  have hl := News.isList N hm
  have e : vs.toArray.size = ns.length := by rw [List.size_toArray]; exact hi.length
  exact Calls.call_len_list hl (by rw [e]; omega) (by rw [e]; exact h)
theorem item_led {prog : Program} {w : World} {A : Around} {E : Value → Shared → Prop} {s : Shared} {h₀ : Heap} {L l : Addr} {news : Led} {vs : List Value} {ns : List Int} {n : Nat} {Q : Value → Shared → Prop} {value slice : Expr} {k : Int} {u : Tok}
    (N : News h₀ L s.heap news) (hm : (l, W.listOf vs.toArray n) ∈ news) (hi : IntsAre vs ns) (hlen : ns.length ≤ 63) (h0 : 0 ≤ k) (h1 : k < (ns.length : Int)) (h : ∀ x t, Q (.int x t) s)
    (hs : subscripted slice false (.ref l) (.int k u) = operate [.ref l, .int k u] (getItem (.ref l) (.int k u)) := by with_unfolding_all rfl) :
    wpAny (model prog w) A (subscriptTail value slice (.ref l) (.int k u)) Q E s := by
  have hl := News.isList N hm
  have hx : ns[k.toNat]? = some (ns[k.toNat]'(by omega)) := by simp
  obtain ⟨t, ht⟩ := hi.get _ _ hx
  exact tail_any hl.typeIs slot_list_getitem.lookup (wpAny_getItem_list hl h0 (by omega) (by simpa using ht) (h _ t)) hs
theorem words72_b : True := by
  k_with "!call builtin:len" => ((k_here; (with_reducible show wpAny _ _ (PySem.call (Value.builtin "len") [Value.ref _]) _ _ _); k_dflt (refine len_led (by k_asm) (by k_mem) (by assumption) (by assumption) ?_)))
  k_with "!subscriptTail" => ((k_here; (with_reducible show wpAny _ _ (subscriptTail _ _ (Value.ref _) (Value.int _ _)) _ _ _); k_dflt (refine item_led (by k_asm) (by k_mem) (by assumption) (by assumption) (by k_extra "m fact") (by k_extra "m fact") ?_; intro x9 t9)))
  trivial
inductive OkDraw (bag l : Addr) (spot below : Int) (n : Nat) (rest : Led) : Value → Led → Prop
  | mk (x : Int) (t t' : Tok) (h0 : 0 ≤ x) (h1 : x < below) : OkDraw bag l spot below n rest (.int x t) ((bag, lst2 l (spot + 1) t' n) :: rest)
set_option maxRecDepth 100000 in
set_option maxHeartbeats 8000000 in
theorem does_draw (w : World) (rest : Led) (ns : List Int) (vs : List Value) (bag l : Addr) (spot below : Int) (ts tb : Tok) (n n' : Nat) (hl : (l, W.listOf vs.toArray n') ∈ rest) (hoff : ∀ p ∈ rest, p.1 ≠ bag) (hi : IntsAre vs ns) (hlen : ns.length ≤ 63) (h0 : 0 ≤ spot) (h2 : spot ≤ 1000) (h1 : 0 < below) :
   DoesTo w 4 234 [.ref bag, .int below tb] ((bag, lst2 l spot ts n) :: rest) (OkDraw bag l spot below n rest) := by
  unfold DoesTo
  intro mean mg mb dp un gd cn cs a ccd cl outer A₀ base h₀ L m s Q E B F X N T hk hd hu ret
  k_extra "m enter"
  k_steps
  all_goals refine ret _ _ _ _ (by k_asm) (by k_asm) (OkDraw.mk _ _ _ ?_ ?_)
  all_goals first | exact Int.fmod_nonneg_of_pos _ h1 | exact Int.fmod_lt_of_pos _ h1
end
section
theorem draw_use {w : World} {news : Led} {gg : Obj → Led} {ns : List Int} {vs : List Value} {bag l : Addr} {spot below : Int} {ts tb : Tok} {n n' : Nat}
    {mean : ExcName → Option Value} {mg mb : Str → Option Value} {dp un : Nat} {gd : Option (List Code)} {cn : Str} {cs : Scope} {a : Addr} {ccd : Value} {cl : List (Str × Addr)} {outer : List Env} {A₀ : Around} {base h₀ : Heap} {L : Addr} {m : Str → Option Value} {s : Shared} {Q E : Value → Shared → Prop}
    (N : News h₀ L s.heap news) (U : UpdF bag (lst2 l spot ts n) news gg) (hl : (l, W.listOf vs.toArray n') ∈ news) (hlb : l ≠ bag) (hi : IntsAre vs ns) (hlen : ns.length ≤ 63) (h0 : 0 ≤ spot) (h2 : spot ≤ 1000) (h1 : 0 < below)
    (B : Below A₀ base outer h₀) (F : Fr h₀ L s.heap m) (X : (hd.heap_1 w.params).In h₀) (T : Top hdView loose mean mg mb h₀) (hk : cs.kind = .function)
    (hd : dp + 4 < recursionLimit) (hu : un + 8 * 4 < cLine)
    (ret : ∀ x t t' h' tk', 0 ≤ x → x < below → Fr h₀ L h' m → News h₀ L h' (gg (lst2 l (spot + 1) t' n)) → Q (.int x t) { s with heap := h', toks := tk' }) :
    wpAny (model PySem.Challenge.rw_xm0050_01.row.prog w) (ktrTop dp un gd cn cs L a ccd cl outer) (call (.ref 234) [.ref bag, .int below tb]) Q E s := by
  obtain ⟨pre, post, rfl, hg, n1, n2⟩ := U.split
  have hl' : (l, W.listOf vs.toArray n') ∈ pre ++ post := by
    rcases List.mem_append.mp hl with h | h
    · exact List.mem_append_left _ h
    · rcases List.mem_cons.mp h with h | h
      · exact absurd (Prod.mk.inj h).1 hlb
      · exact List.mem_append_right _ h
  have sw : ∀ {o : Obj} (p : Addr × Obj), p ∈ (bag, o) :: (pre ++ post) ↔ p ∈ pre ++ (bag, o) :: post := fun p => by
    simp only [List.mem_append, List.mem_cons]
    constructor
    · rintro (h | h | h)
      · exact .inr (.inl h)
      · exact .inl h
      · exact .inr (.inr h)
    · rintro (h | h | h)
      · exact .inr (.inl h)
      · exact .inl h
      · exact .inr (.inr h)
  refine does_draw w (pre ++ post) ns vs bag l spot below ts tb n n' hl' (fun p hp => (List.mem_append.mp hp).elim (n1 p) (n2 p)) hi hlen h0 h2 h1 mean mg mb dp un gd cn cs a ccd cl outer A₀ base h₀ L m s Q E B F X (fun p hp => N p ((sw p).mp hp)) T hk hd hu fun r news' h' tk' F' N' o => ?_
  cases o with
  | mk x t t' g0 g1 => exact ret x t t' h' tk' g0 g1 F' (by rw [hg]; exact fun p hp => N' p ((sw p).mpr hp))
/-- a law's helper came to its end well: True, and the bag's place is told -/
inductive OkBag (bag l : Addr) (spot : Int) (n n' : Nat) (vs : List Value) : Value → Led → Prop
  | mk (t : Tok) : OkBag bag l spot n n' vs (.bool true) [(bag, lst2 l spot t n), (l, W.listOf vs.toArray n')]
theorem OkBag.of {bag l : Addr} {spot : Int} {n n' : Nat} {vs : List Value} {b : Bool} (t : Tok) (h : b = true) : OkBag bag l spot n n' vs (.bool b) [(bag, lst2 l spot t n), (l, W.listOf vs.toArray n')] := by
  subst h; exact .mk t
theorem bag_ret {h₀ h : Heap} {L bag l : Addr} {all : Led} {o o' : Obj} (N : News h₀ L h all) (hb : (bag, o) ∈ all) (hl : (l, o') ∈ all) : News h₀ L h [(bag, o), (l, o')] := fun p hp => by
  rcases List.mem_cons.mp hp with rfl | hp
  · exact N _ hb
  · rw [List.mem_singleton.mp hp]; exact N _ hl
def JoinMark (_ : Flow → Shared → Prop) : Prop := True
theorem join_next {M : Model} {A : Around} {E : Value → Shared → Prop} {s : Shared} {h₀ : Heap} {L : Addr} {m : Str → Option Value} {news : Led} {c : Sem Flow} {Q : Flow → Shared → Prop}
    (F : Fr h₀ L s.heap m) (N : News h₀ L s.heap news) (K : ∀ h' tk, Fr h₀ L h' m → News h₀ L h' news → Q .next { s with heap := h', toks := tk })
    (W : ∀ Q' : Flow → Shared → Prop, JoinMark Q' → (∀ h' tk, Fr h₀ L h' m → News h₀ L h' news → Q' .next { s with heap := h', toks := tk }) → wpAny M A c Q' E s) : wpAny M A c Q E s := W Q trivial K
end
section
/-- an exception's object that bears its own dict -/
def Cd (C dx : Addr) (o : Obj) : Prop := o.cls = .ref C ∧ o.dict = some dx
theorem Cd.map {C dx : Addr} {o : Obj} (h : Cd C dx o) (f : Array Value → Array Value) : Cd C dx (o.mapFields f) := by
  obtain ⟨c, d, dt, sl⟩ := o
  cases dt <;> exact h
/-- an exception under way (its traceback's head told) over what stood at first -/
structure Hot (base : Heap) (l : List Env) (e C dx : Addr) (fl : Value) (h : Heap) : Prop where
  stays : base.StaysIn h
  new : base.get? e = none
  frames : h.FunFrames base l
  tr : ∃ oe vs T oT ts, h.get? e = some oe ∧ Cd C dx oe ∧ oe.data = .fields vs ∧ vs[1]? = some (.ref T) ∧ base.get? T = none ∧ T ≠ e ∧ h.get? T = some oT ∧ oT.data = .fields ts ∧ ts[3]? = some fl
theorem Hot.less {base h : Heap} {env : Env} {l : List Env} {e C dx : Addr} {fl : Value} (x : Hot base (env :: l) e C dx fl h) : Hot base l e C dx fl h :=
  ⟨x.stays, x.new, x.frames.2.2, x.tr⟩
theorem Hot.there {base h : Heap} {l : List Env} {e C dx : Addr} {fl : Value} (x : Hot base l e C dx fl h) : ∃ o vs, h.get? e = some o ∧ Cd C dx o ∧ o.data = .fields vs := by
  obtain ⟨oe, vs, _, _, _, he, hc, hd, _⟩ := x.tr
  exact ⟨oe, vs, he, hc, hd⟩
section
variable {M : Model} {A : Around} {E : Value → Shared → Prop} {s : Shared} {base : Heap} {env : Env} {outer l : List Env} {L e C dx : Addr} {fl : Value} {Q : Unit → Shared → Prop}
theorem hot_entry {oe : Obj} {vs : Array Value} {head : Value} {hadNext : Bool} (hfr : A.frames = some (env :: outer)) (hl : s.heap.FunFrames base (env :: outer)) (hf : env.frame = some L)
    (he : s.heap.get? e = some oe) (hcd : Cd C dx oe) (hkb : base.StaysIn s.heap) (hen : base.get? e = none) (hd : oe.data = .fields vs) (hsz : 1 < vs.size)
    (h : ∀ h', Hot base (env :: outer) e C dx (rawInt L) h' → s.heap.UpToSlots h' → Q () { s with heap := h' }) :
    wpAny M A (do let a ← frameOf env; let pl ← entryPlaceOf L hadNext; let b ← EntryCells.newEntry head a .none (rawInt L) .none pl; setField (.ref e) 1 b) Q E s := by
  have off : ∀ b o, s.heap.get? b = some o → (∀ vs, o.data ≠ .fields vs) → b ≠ e := fun b o hb hn q => by
    subst q; rw [he] at hb; cases hb; exact hn vs hd
  have hene : e ∉ (env :: outer).filterMap (·.frame) := fun hm => by
    obtain ⟨_, o, ho, hn⟩ := hl.mem hm
    exact off e o ho hn rfl
  refine wpAny_bind (wpAny_frameOf_fun hfr hl hf fun h₁ hs₁ => wpAny_bind (wpAny_entryPlaceOf fun pl hpl => ?_))
  unfold EntryCells.newEntry newFields
  refine wpAny_bind (wpAny_newObj_type ?_ (hpl.sizeOk5 _ _ _ _ _))
  generalize hT : ({ cls := .type "traceback", dict := none, data := .fields ([head, .ref L, .none, rawInt L, .none] ++ (if pl.isEmpty then List.replicate 6 Value.none else pl)).toArray } : Obj) = tb
  have hTd : tb.data = .fields ([head, .ref L, .none, rawInt L, .none] ++ (if pl.isEmpty then List.replicate 6 Value.none else pl)).toArray := by rw [← hT]
  have he₁ : h₁.get? e = some oe := (hs₁.2.1 e hene).trans he
  have kb₁ : base.StaysIn h₁ := fun b o hb => (hs₁.2.1 b fun hm => by rw [(hl.mem hm).1] at hb; cases hb).trans (hkb b o hb)
  have he₂ := Heap.get?_push_of_some (h := h₁) tb he₁
  refine wpAny_setField he₂ hd hsz (h _ ?_ ?_)
  · have hne : h₁.objs.size ≠ e := Nat.ne_of_gt (Heap.lt_size he₁)
    have hd₃ := Obj.data_mapFields hd (·.setIfInBounds 1 (Value.ref h₁.objs.size))
    have he₃ := Heap.get?_update_self (Obj.mapFields (·.setIfInBounds 1 (Value.ref h₁.objs.size))) he₂ (Obj.isFreed_of_fields hd₃)
    have hT₃ := (Heap.get?_update_other (h₁.push tb) (Obj.mapFields (·.setIfInBounds 1 (Value.ref h₁.objs.size))) (Ne.symm hne)).trans (Heap.get?_push_size h₁ (Obj.isFreed_of_fields hTd))
    have keep : ∀ b o, b ≠ e → h₁.get? b = some o → ((h₁.push tb).update e (Obj.mapFields (·.setIfInBounds 1 (Value.ref h₁.objs.size)))).get? b = some o := fun b o hb q => by
      rw [Heap.get?_update_other _ _ (Ne.symm hb)]; exact Heap.get?_push_of_some _ q
    refine ⟨fun b o hb => keep b o (fun q => by rw [q, hen] at hb; cases hb) (kb₁ b o hb), hen, hl.of_keeps fun b o hb hn => ?_, ?_⟩
    · obtain ⟨sl, hsl⟩ := hs₁.2.2 b o hb
      exact ⟨_, keep b _ (off b o hb hn) hsl, rfl⟩
    · exact ⟨_, _, h₁.objs.size, _, _, he₃, hcd.map _, hd₃, by simp [hsz], kb₁.fresh, hne, hT₃, hTd, by first | (simp; done) | (rcases hpl with rfl | ⟨_, _, _, _, _, _, _, rfl⟩ <;> simp)⟩
  · intro b o hb hn
    obtain ⟨sl, hsl⟩ := hs₁.2.2 b o hb
    refine ⟨sl, ?_⟩
    rw [Heap.get?_update_other _ _ (Ne.symm (off b o hb hn))]
    exact Heap.get?_push_of_some _ hsl
theorem hot_first {oe : Obj} {vs : Array Value} (hfr : A.frames = some (env :: outer)) (hl : s.heap.FunFrames base (env :: outer)) (hf : env.frame = some L)
    (he : s.heap.get? e = some oe) (hcd : Cd C dx oe) (hkb : base.StaysIn s.heap) (hen : base.get? e = none) (hd : oe.data = .fields vs) (h1 : vs[1]? = some .none)
    (h : ∀ h', Hot base (env :: outer) e C dx (rawInt L) h' → s.heap.UpToSlots h' → Q () { s with heap := h' }) : wpAny M A (noteFrame (.ref e) env) Q E s := by
  unfold noteFrame
  simp only [hf]
  refine wpAny_bind (wpAny_field he hd h1 ?_)
  rw [if_neg (by decide)]
  exact hot_entry hfr hl hf he hcd hkb hen hd (Array.getElem?_eq_some_iff.mp h1).1 h
theorem hot_next (hfr : A.frames = some (env :: outer)) (hf : env.frame = some L) (x : Hot base (env :: outer) e C dx .none s.heap)
    (h : ∀ h', Hot base (env :: outer) e C dx (rawInt L) h' → s.heap.UpToSlots h' → Q () { s with heap := h' }) : wpAny M A (noteFrame (.ref e) env) Q E s := by
  obtain ⟨oe, vs, T, oT, ts, he, hcd, hd, h1, hnT, hTe, hT, hdT, h3⟩ := x.tr
  unfold noteFrame
  simp only [hf]
  refine wpAny_bind (wpAny_field he hd h1 ?_)
  rw [if_pos (show (Value.ref T != Value.none) = true from by simp)]
  refine wpAny_bind (wpAny_field hT hdT h3 ?_)
  rw [if_neg (show ¬ ((Value.none == rawInt L) = true) from by simp [rawInt])]
  refine wpAny_bind (wpAny_setField hT hdT (Array.getElem?_eq_some_iff.mp h3).1 ?_)
  have oth : ∀ b, b ≠ T → (s.heap.update T (Obj.mapFields (·.setIfInBounds 3 Value.none))).get? b = s.heap.get? b := fun b hb => Heap.get?_update_other _ _ (Ne.symm hb)
  have off : ∀ b o, s.heap.get? b = some o → (∀ vs, o.data ≠ .fields vs) → b ≠ T := fun b o hb hn q => by
    subst q; rw [hT] at hb; cases hb; exact hn ts hdT
  refine hot_entry hfr (x.frames.of_keeps fun b o hb hn => ⟨o, (oth b (off b o hb hn)).trans hb, rfl⟩) hf ((oth e (Ne.symm hTe)).trans he) hcd
    (fun b o hb => (oth b fun q => by rw [q, hnT] at hb; cases hb).trans (x.stays b o hb)) x.new hd (Array.getElem?_eq_some_iff.mp h1).1 fun h' y k => h h' y fun b o hb hn => k b o ((oth b (off b o hb hn)).trans hb) hn
theorem hot_again (hf : env.frame = some L) (x : Hot base l e C dx (rawInt L) s.heap) (h : Q () s) : wpAny M A (noteFrame (.ref e) env) Q E s := by
  obtain ⟨oe, vs, T, oT, ts, he, hcd, hd, h1, hnT, hTe, hT, hdT, h3⟩ := x.tr
  unfold noteFrame
  simp only [hf]
  refine wpAny_bind (wpAny_field he hd h1 ?_)
  rw [if_pos (show (Value.ref T != Value.none) = true from by simp)]
  refine wpAny_bind (wpAny_field hT hdT h3 ?_)
  rw [if_pos (show (rawInt L == rawInt L) = true from by simp)]
  exact wpAny_pure h
theorem hot_off (x : Hot base l e C dx fl s.heap) (h : ∀ h', Hot base l e C dx .none h' → s.heap.UpToSlots h' → Q () { s with heap := h' }) : wpAny M A (setFlight (.ref e) none) Q E s := by
  obtain ⟨oe, vs, T, oT, ts, he, hcd, hd, h1, hnT, hTe, hT, hdT, h3⟩ := x.tr
  have hsz : 3 < ts.size := (Array.getElem?_eq_some_iff.mp h3).1
  unfold setFlight
  refine wpAny_bind (wpAny_field he hd h1 ?_)
  rw [if_pos (show (Value.ref T != Value.none) = true from by simp)]
  have oth : ∀ b, b ≠ T → (s.heap.update T (Obj.mapFields (·.setIfInBounds 3 ((none : Option Addr).elim Value.none fun f => rawInt f)))).get? b = s.heap.get? b := fun b hb => Heap.get?_update_other _ _ (Ne.symm hb)
  have off : ∀ b o, s.heap.get? b = some o → (∀ vs, o.data ≠ .fields vs) → b ≠ T := fun b o hb hn q => by
    subst q; rw [hT] at hb; cases hb; exact hn ts hdT
  refine wpAny_setField hT hdT hsz (h _ ⟨fun b o hb => (oth b fun q => by rw [q, hnT] at hb; cases hb).trans (x.stays b o hb), x.new, x.frames.of_keeps fun b o hb hn => ⟨o, (oth b (off b o hb hn)).trans hb, rfl⟩, ?_⟩ fun b o hb hn => ⟨o.slots, (oth b (off b o hb hn)).trans hb⟩)
  exact ⟨oe, vs, T, _, _, (oth e (Ne.symm hTe)).trans he, hcd, hd, h1, hnT, hTe, Heap.get?_update_self _ hT (Obj.isFreed_of_fields (Obj.data_mapFields hdT _)), Obj.data_mapFields hdT _, by simp [hsz]⟩
theorem hot_leave_first {oe : Obj} {vs : Array Value} (hfr : A.frames = some (env :: outer)) (hl : s.heap.FunFrames base (env :: outer)) (hf : env.frame = some L)
    (he : s.heap.get? e = some oe) (hcd : Cd C dx oe) (hkb : base.StaysIn s.heap) (hen : base.get? e = none) (hd : oe.data = .fields vs) (h1 : vs[1]? = some .none)
    (h : ∀ h', Hot base outer e C dx .none h' → s.heap.UpToSlots h' → Q () { s with heap := h' }) : wpAny M A (leaving env (.ref e)) Q E s := by
  unfold leaving
  refine wpAny_bind (hot_first hfr hl hf he hcd hkb hen hd h1 fun h₁ x₁ k₁ => ?_)
  exact hot_off (s := { s with heap := h₁ }) x₁ fun h₂ x₂ k₂ => h h₂ x₂.less (k₁.trans k₂)
theorem hot_leave_next (hfr : A.frames = some (env :: outer)) (hf : env.frame = some L) (x : Hot base (env :: outer) e C dx .none s.heap)
    (h : ∀ h', Hot base outer e C dx .none h' → s.heap.UpToSlots h' → Q () { s with heap := h' }) : wpAny M A (leaving env (.ref e)) Q E s := by
  unfold leaving
  refine wpAny_bind (hot_next hfr hf x fun h₁ x₁ k₁ => ?_)
  exact hot_off (s := { s with heap := h₁ }) x₁ fun h₂ x₂ k₂ => h h₂ x₂.less (k₁.trans k₂)
end
end
section
theorem wd_slot : Slot "wrapper_descriptor" "__get__" "wrapper_descriptor.__get__" := .of (owner := "wrapper_descriptor") (n := "__get__") (by rw [typeLookup_type, builtinLookup_eq_fast]; kernel_rfl) (by decide +kernel) (by decide +kernel) (by decide +kernel)
  (by first | exact .inl (by decide +kernel) | exact .inr (by decide +kernel)) (by rw [isSubtype_type]; kernel_rfl)
theorem wd_entry : entryFor table "wrapper_descriptor.__get__" = some Builtin.«wrapper_descriptor.__get__» := entryFor_of_tree (by kernel_rfl)
theorem wd_args (a b c : Value) : argsOk "wrapper_descriptor.__get__" ⟨[a, b, c], []⟩ := by unfold argsOk; kernel_rfl
theorem wd_type : typeOf (.builtin "Exception.__init__") = pure (.type "wrapper_descriptor") := by kernel_rfl
section
variable {prog : Program} {w : World} {A : Around} {E : Value → Shared → Prop} {h : Heap} {g : Array GenState} {d : Drawn} {t : Nat} {os : OsState}
theorem wd_get {x C : Addr} {ox : Obj} {Q : Fin → Shared → Prop} (hx : h.get? x = some ox) (hc : ox.cls = .ref C) (hsub : Looks (model prog w) h (isSubtype (.ref C) (.type "Exception")) true)
    (hq : Q (.done (.ret (.ref h.objs.size))) ⟨h.push { cls := .type "method-wrapper", data := .fields #[.builtin "Exception.__init__", .ref x] }, g, d, t, os⟩) :
    wpAny (model prog w) A (Builtin.«wrapper_descriptor.__get__» ⟨[.builtin "Exception.__init__", .ref x, .ref C], []⟩) Q E ⟨h, g, d, t, os⟩ := by
  have hcut : ".".intercalate ("Exception.__init__".cutAt '.').dropLast = "Exception" := by kernel_rfl
  unfold Builtin.«wrapper_descriptor.__get__»
  repeat (first
    | (with_reducible refine wpAny_loadPart_at hx ?_; rw [hc])
    | (rw [hcut])
    | (with_reducible refine Looks.at hsub ?_)
    | wp_step
    | dsimp only)
  exact hq
theorem wd_super_ga {so D x C : Addr} {ox : Obj} {l₀ l : List Value} {K : Frag} {name : Str} {tk : Tok} {Q : Fin → Shared → Prop}
    (hso : h.get? so = some { cls := .type "super", dict := none, data := .fields #[.ref D, .ref x, .ref C], slots := #[] }) (hno : Looks (model prog w) h (opaqueClassAbove (.ref C)) none)
    (hC : Looks (model prog w) h (mroOf (.ref C)) l₀) (hl : (l₀.dropWhile (· != .ref D)).drop 1 = l) (X : K.In h)
    (hf : alongIn K name l = some (some (.builtin "Exception.__init__"))) (hx : h.get? x = some ox) (hc : ox.cls = .ref C) (hsub : Looks (model prog w) h (isSubtype (.ref C) (.type "Exception")) true) (hxC : x ≠ C) (hn : (name == ("__class__" : Str)) = false)
    (hq : Q (.done (.ret (.ref h.objs.size))) ⟨h.push { cls := .type "method-wrapper", data := .fields #[.builtin "Exception.__init__", .ref x] }, g, d, t, os⟩) :
    wpAny (model prog w) A (Builtin.«super.__getattribute__» ⟨[.ref so, .str name tk], []⟩) Q E ⟨h, g, d, t, os⟩ := by
  have hlk := wd_slot.lookup
  have hne : (Value.ref x == Value.ref C) = false := by simp [hxC]
  have hTf : (⟨h, g, d, t, os⟩ : Shared).TypeIs (.builtin "Exception.__init__") "wrapper_descriptor" := wd_type
  have hdt : ({ cls := .type "super", dict := none, data := .fields #[.ref D, .ref x, .ref C], slots := #[] } : Obj).data = .fields #[.ref D, .ref x, .ref C] := rfl
  have f0 : (#[.ref D, .ref x, .ref C] : Array Value)[0]? = some (.ref D) := rfl
  have f1 : (#[.ref D, .ref x, .ref C] : Array Value)[1]? = some (.ref x) := rfl
  have f2 : (#[.ref D, .ref x, .ref C] : Array Value)[2]? = some (.ref C) := rfl
  unfold Builtin.«super.__getattribute__»
  repeat (first
    | (with_reducible refine wpAny_field hso hdt f0 ?_) | (with_reducible refine wpAny_field hso hdt f1 ?_) | (with_reducible refine wpAny_field hso hdt f2 ?_)
    | (with_reducible refine ks_wpAny_notOpaque hno ?_)
    | (with_reducible refine Looks.at hC ?_; rw [hl])
    | (refine ks_forIn_along X (fun _ _ => rfl) rfl ?_ hf)
    | (with_reducible refine wpAny_typeOf hTf ?_)
    | (with_reducible refine wpAny_call_entry wd_slot hTf wd_entry ?_ (wd_args _ _ _))
    | (with_reducible refine wd_get hx hc hsub ?_)
    | (with_reducible refine ⟨_, rfl, ?_⟩)
    | (simp only [hn, hne, Bool.or_false, Bool.false_eq_true, if_false])
    | wp_step
    | dsimp only)
  all_goals exact hq
theorem wd_getMethod_super {so D x C : Addr} {ox : Obj} {l₀ l : List Value} {K : Frag} {name : Str} {pl : Sem Bool} {Q : Value × List Value → Shared → Prop}
    (hso : h.get? so = some { cls := .type "super", dict := none, data := .fields #[.ref D, .ref x, .ref C], slots := #[] }) (hno : Looks (model prog w) h (opaqueClassAbove (.ref C)) none)
    (hC : Looks (model prog w) h (mroOf (.ref C)) l₀) (hl : (l₀.dropWhile (· != .ref D)).drop 1 = l) (X : K.In h)
    (hf : alongIn K name l = some (some (.builtin "Exception.__init__"))) (hx : h.get? x = some ox) (hc : ox.cls = .ref C) (hsub : Looks (model prog w) h (isSubtype (.ref C) (.type "Exception")) true) (hxC : x ≠ C) (hn : (name == ("__class__" : Str)) = false)
    (hq : Q (.ref h.objs.size, []) ⟨h.push { cls := .type "method-wrapper", data := .fields #[.builtin "Exception.__init__", .ref x] }, g, d, t + 1, os⟩) :
    wpAny (model prog w) A (getMethod (.ref so) name pl) Q E ⟨h, g, d, t, os⟩ := by
  have hlk := F.ks_slot_super_ga.lookup
  have hcan := F.ks_canon_super_ga
  have hT : ∀ t', (⟨h, g, d, t', os⟩ : Shared).TypeIs (.ref so) "super" := fun _ => ⟨_, hso, rfl⟩
  unfold getMethod
  refine wpAny_bind (wpAny_specialOf (hT _) hlk ?_)
  show wpAny _ _ (if (Manifest.canonical "super.__getattribute__" != "object.__getattribute__") = true then _ else _) _ _ _
  rw [if_pos hcan]
  unfold getAttr getAttrBy
  refine wpAny_bind (wpAny_bind (wpAny_mkText (wpAny_holding (wpAny_bind (wpAny_typeOf (hT _) (wpAny_bind (wpAny_of_eq hlk ?_)))))))
  show wpAny _ _ (getAttrByItsOwn (.ref so) (.str name t) (.type "super") (.builtin "super.__getattribute__") true false) _ _ _
  unfold getAttrByItsOwn hookBefore callGetattribute boundAndCalled
  refine wpAny_bind (wpAny_of_eq (show (if onTheHeap (.type "super") then typeLookup (.type "super") "__getattr__" else pure none) = pure none from rfl) ?_)
  refine wpAny_bind (wpAny_attempt (wpAny_holding ?_))
  show wpAny _ _ (bindSpecial (.builtin "super.__getattribute__") (.ref so) >>= _) _ _ _
  refine wpAny_bind (wpAny_of_eq (F.ks_slot_super_ga.bind _) ?_)
  refine wpAny_mono (Q := fun v s' => v = .ref h.objs.size ∧ s' = ⟨h.push { cls := .type "method-wrapper", data := .fields #[.builtin "Exception.__init__", .ref x] }, g, d, t + 1, os⟩) (E := fun _ _ => False)
    (wpAny_call_entry F.ks_slot_super_ga (hT _) F.ks_entry_super_ga (wd_super_ga hso hno hC hl X hf hx hc hsub hxC hn ⟨_, rfl, rfl, rfl⟩) (F.ks_gaArgs_super _ _)) (fun v s' hv => ?_) fun _ _ z => z.elim
  obtain ⟨rfl, rfl⟩ := hv
  exact wpAny_pure (wpAny_pure hq)
end
section
variable {prog : Program} {w : World} {A : Around} {E : Value → Shared → Prop} {h : Heap} {g : Array GenState} {d : Drawn} {t : Nat} {os : OsState}
variable {nm q : Str} {C N : Addr} {bs bm : List Value} {hdct : Bool} {sn : List Str} {sub : List Value} {ab : Bool} {col : Option Bool} {dd : Option Addr} {k0 k1 k2 k3 k5 : Option Value} {newId : String}
theorem wd_call_init {mw x : Addr} {ox : Obj} {fs : Array Value} {t0 : Addr} {v : Value} {newId' : String} (F : ExcBaseFacts "Exception" newId' "Exception.__init__" bm) {Q : Value → Shared → Prop}
    (hm : h.get? mw = some { cls := .type "method-wrapper", dict := none, data := .fields #[.builtin "Exception.__init__", .ref x], slots := #[] })
    (hC : h.get? C = some (excClassObj nm q C N bs bm hdct sn sub ab col dd k0 k1 k2 k3 k5 newId)) (hx : h.get? x = some ox) (hc : ox.cls = .ref C) (hd : ox.data = .fields fs) (h0 : fs[0]? = some (.ref t0))
    (hq : Q .none ⟨(h.push { cls := .type "tuple", data := .seq #[v] }).update x (Obj.mapFields (·.setIfInBounds 0 (.ref h.objs.size))), g, d, t, os⟩) :
    wpAny (model prog w) A (PySem.call (.ref mw) [v]) Q E ⟨h, g, d, t, os⟩ := by
  refine wpAny_call (codeAny_of_tree ?_)
  show wpAny _ _ (callAny (.ref mw) _) _ _ _
  unfold callAny
  refine wpAny_bind (wpAny_load hm ?_)
  have h1 := F.initKind
  have h2 := F.initSplit
  have h3 := F.initRow
  have hcB : (Value.ref C :: bm).contains (.type "Exception") = true := by rw [List.contains_cons, F.hasB, Bool.or_true]
  unfold checkBoundCall
  repeat (first
    | (with_reducible refine wpAny_loadPart_at hx ?_; rw [hc])
    | (with_reducible refine wpAny_loadPart_at hC ?_)
    | (with_reducible refine wpAny_isSubtype_exc hC ?_; rw [hcB])
    | simp only [h1, h2, h3]
    | wp_step
    | dsimp only)
  show (Code.builtin "Exception.__init__" { pos := [Value.ref x, v] }).quiet = true ∧ codeAny (model prog w) A (Code.builtin "Exception.__init__" { pos := [Value.ref x, v] }) _ _
  refine ⟨plainId_quiet F.init.plain _, codeAny_builtin F.initEntry ?_⟩
  rw [Around.under_plainId F.init.plain _]
  unfold Builtin.«BaseException.__init__»
  dsimp only
  rw [if_neg (by simp)]
  unfold newTuple Builtin.BaseException.bexcPut
  have hsz : 0 < fs.size := (Array.getElem?_eq_some_iff.mp h0).1
  have he₁ := Heap.get?_push_of_some (h := h) { cls := .type "tuple", data := .seq #[v] } hx
  refine wpAny_bind (wpAny_newObj_type (wpAny_bind (wpAny_bind (wpAny_field he₁ hd h0 (wpAny_bind (wpAny_setField he₁ hd hsz ?_))))) (by show (1 : Nat) ≤ sizeLine; decide))
  exact wpAny_letGo (wpAny_pure hq)
end

def mwObj (x : Addr) : Obj := { cls := .type "method-wrapper", dict := none, data := .fields #[.builtin "Exception.__init__", .ref x], slots := #[] }
abbrev excObj (C t : Addr) (dx : Option Addr) : Obj := { cls := .ref C, dict := dx, data := .fields #[.ref t, .none, .none, .none, .bool false, .none], slots := #[] }
/-- the bound initialiser stands -/
def MwAt (u x : Addr) (h : Heap) : Prop := h.get? u = some (mwObj x)
/-- what the object says as a namespace, in any heap -/
def DN (mA : Str → Option Value) (od : Obj) : Prop := ∀ (h : Heap) (d : Addr), h.get? d = some od → h.Ns1 d mA
theorem DN.of {h : Heap} {d : Addr} {mA : Str → Option Value} (n : h.Ns1 d mA) : ∃ od, h.get? d = some od ∧ DN mA od := by
  obtain ⟨o, es, ep, e, r⟩ := n
  exact ⟨o, e, fun h' d' e' => ⟨o, es, ep, e', r⟩⟩
section
variable {prog : Program} {w : World} {A : Around} {E : Value → Shared → Prop} {s : Shared} {h₀ : Heap} {L : Addr} {m : Str → Option Value} {news : Led} {K : Frag}
/-- one object of the ledger is another now, and a new one may stand -/
theorem led_put {h h' : Heap} {x : Addr} {o o' : Obj} (F : Fr h₀ L h m) (N : News h₀ L h ((x, o) :: news)) (hx : h'.get? x = some o') (k : ∀ b o, b ≠ x → h.get? b = some o → h'.get? b = some o) (hl : ∀ p ∈ news, p.1 ≠ x) :
    Fr h₀ L h' m ∧ News h₀ L h' ((x, o') :: news) := by
  obtain ⟨oL, es, ep, hL, r⟩ := F.ns
  have hx0 := N _ (.head _)
  refine ⟨⟨⟨oL, es, ep, k _ _ (Ne.symm hx0.2.1) hL, r⟩, fun b o e => k b o (fun q => by subst q; have := hx0.2.2; rw [e] at this; cases this) (F.keep b o e), F.above⟩, fun p hp => ?_⟩
  rcases List.mem_cons.mp hp with rfl | hp
  · exact ⟨hx, hx0.2⟩
  · exact ⟨k _ _ (hl p hp) (N p (.tail _ hp)).1, (N p (.tail _ hp)).2⟩
theorem led_fresh {h h' : Heap} {x : Addr} {o : Obj} (F : Fr h₀ L h m) (N : News h₀ L h' news) (hx : h'.get? x = some o) (hn : h.get? x = none) : News h₀ L h' ((x, o) :: news) := by
  obtain ⟨oL, es, ep, hL, r⟩ := F.ns
  intro p hp
  rcases List.mem_cons.mp hp with rfl | hp
  · refine ⟨hx, fun q => ?_, ?_⟩
    · rw [show x = L from q, hL] at hn; cases hn
    · cases q : h₀.get? x with
      | none => rfl
      | some o => have := F.keep _ _ q; rw [hn] at this; cases this
  · exact N p hp
theorem m_super {D x C so : Addr} {ox : Obj} {name : Str} {pl : Sem Bool} {Q : Value × List Value → Shared → Prop} (F : Fr h₀ L s.heap m) (X₀ : K.In h₀) (N : News h₀ L s.heap news) (hso : (so, ks_superObj D x C) ∈ news) (hx : (x, ox) ∈ news) (hc : ox.cls = .ref C) (ho : nsIn K cStatics "thirdparty.any" = some none)
    (hm : ks_superIn K C D name = some (some (.builtin "Exception.__init__"))) (hsub : mroIn K C (.type "Exception") = some true) (hn : (name == ("__class__" : Str)) = false)
    (h : ∀ q h', Fr h₀ L h' m → News h₀ L h' ((q, mwObj x) :: news) → (∀ p ∈ news, p.1 < q) → Q (.ref q, []) { s with heap := h', toks := s.toks + 1 }) : wpAny (model prog w) A (getMethod (.ref so) name pl) Q E s := by
  have X : K.In s.heap := X₀.keeps F.keep
  obtain ⟨hh, g, d, t, os⟩ := s
  cases hc' : clsIn K C with
  | none => unfold ks_superIn at hm; rw [hc'] at hm; cases hm
  | some cd =>
    unfold ks_superIn at hm
    rw [hc'] at hm
    have hxC : x ≠ C := by
      rintro rfl
      unfold clsIn at hc'
      split at hc'
      · rename_i c d cd' sl hoc
        have e := X _ _ hoc
        have h0 : h₀.get? x = some ⟨c, d, .cls cd', sl⟩ := X₀ _ _ hoc
        rw [(N _ hx).2.2] at h0
        cases h0
      · cases hc'
    refine wd_getMethod_super (N _ hso).1 (looks_opaque X ho) (l₀ := cd.mro) ?_ rfl X hm (N _ hx).1 hc (looks_mroIn X hsub) hxC hn ?_
    · exact fun A Q E s k q => wpAny_bind ((looks_clsIn X hc') A _ E s k (wpAny_pure q))
    · obtain ⟨F', N', l'⟩ := ks_newsPush (s := ⟨hh, g, d, t, os⟩) (o := mwObj x) F N rfl (Heap.get?_push_at rfl rfl) (fun b o e => Heap.get?_push_of_some _ e)
      exact h _ _ F' N' l'
theorem m_callWith {pos : Pos} {u x : Addr} {env : Env} {e : Expr} {rest : List Expr} {Q : Value → Shared → Prop} (N : News h₀ L s.heap news) (hm : (u, mwObj x) ∈ news)
    (h : wpAny (model prog w) A (spliced (backTo pos (starEach (e :: rest) env))) (fun vs s₁ => MwAt u x s₁.heap ∧ wpAny (model prog w) A (call (.ref u) vs) Q E s₁) E s)
    (he : starEach (e :: rest) env = (false, eval e env) :: starEach rest env := by rfl) (hplain : (backTo pos (starEach rest env)).any (·.1) = false := by rfl) :
    wpAny (model prog w) A (callWith pos (.ref u) [] (backTo pos (starEach (e :: rest) env)) []) Q E s := by
  rw [he] at h ⊢
  have hp : (backTo pos ((false, eval e env) :: starEach rest env)).any (·.1) = false := by show (false || (backTo pos (starEach rest env)).any (·.1)) = false; rw [hplain]; rfl
  unfold callWith
  refine wpAny_bind (wpAny_holding (wpAny_mono (PySem.Calls.evalArgs_plain (f := .ref u) (Q := fun a s₁ => MwAt u x s₁.heap ∧ wpAny (model prog w) A (call (.ref u) a.pos a.kw) Q E s₁) h) (fun x s₁ h₁ => wpAny_bind (wpAny_standAt ?_)) fun _ _ x => x))
  obtain ⟨ho, hcall⟩ := h₁
  unfold MwAt at ho
  simp only [hp, List.any_nil, Bool.or_false]
  refine wpAny_bind (m := keeperOf (.ref u)) ?_
  unfold keeperOf
  refine wpAny_bind (wpAny_load ho ?_)
  simp only [mwObj, show (Value.type "method-wrapper" != Value.type "method") = true by decide, show (Value.type "method-wrapper" == Value.type "builtin_function_or_method" || Value.type "method-wrapper" == Value.type "method-wrapper") = true by decide, if_true]
  refine wpAny_pure ?_
  exact wpAny_bind (wpAny_mono hcall (fun r s₂ hr => wpAny_bind (wpAny_holding (wpAny_point (wpAny_pure hr)))) fun _ _ x => x)
variable {nm q : Str} {C Nn : Addr} {bs bm : List Value} {hdct : Bool} {sn : List Str} {sub : List Value} {ab : Bool} {col : Option Bool} {dd : Option Addr} {k0 k1 k2 k3 k5 : Option Value} {newId newId' : String}
theorem m_mw {u x t : Addr} {v : Value} {p1 : Addr × Obj} {Q : Value → Shared → Prop} (X : K.In h₀) (FB : ExcBaseFacts "Exception" newId' "Exception.__init__" bm) (F : Fr h₀ L s.heap m) (N : News h₀ L s.heap ((u, mwObj x) :: p1 :: (x, excObj C t none) :: news))
    (hC : K.lookup C = some (excClassObj nm q C Nn bs bm hdct sn sub ab col dd k0 k1 k2 k3 k5 newId)) (hl : ∀ p ∈ news, p.1 ≠ x)
    (h : ∀ t' h', Fr h₀ L h' m → News h₀ L h' ((x, excObj C t' none) :: news) → Q .none { s with heap := h' }) :
    wpAny (model prog w) A (PySem.call (.ref u) [v]) Q E s := by
  obtain ⟨hh, g, d, tk, os⟩ := s
  have hx : hh.get? x = some (excObj C t none) := (N (x, excObj C t none) (.tail _ (.tail _ (.head _)))).1
  refine wd_call_init FB (N _ (.head _)).1 (F.keep _ _ (X _ _ hC)) hx rfl rfl rfl ?_
  have N1 : News h₀ L hh ((x, excObj C t none) :: news) := fun p hp => N p (.tail _ (.tail _ hp))
  have hx2 := Heap.get?_push_of_some (h := hh) { cls := .type "tuple", data := .seq #[v] } hx
  have hx3 : ((hh.push { cls := .type "tuple", data := .seq #[v] }).update x (Obj.mapFields (·.setIfInBounds 0 (.ref hh.objs.size)))).get? x = some (excObj C hh.objs.size none) :=
    (Heap.get?_update_self (Obj.mapFields (·.setIfInBounds 0 (.ref hh.objs.size))) hx2 rfl).trans (by simp [Obj.mapFields, excObj])
  obtain ⟨F', N'⟩ := led_put (o' := excObj C hh.objs.size none) F N1 hx3 (fun b o hb e => (Heap.get?_update_other _ _ (Ne.symm hb)).trans (Heap.get?_push_of_some _ e)) hl
  exact h _ _ F' N'
end
theorem ns_of_dict {h : Heap} {N : Addr} {o : Obj} {es : Array DictEntry} {ep : Nat} (ho : h.get? N = some o) (hd : o.data = .dict es ep) (hk : StrKeys es) : h.Ns N (nsFind es) := ⟨o, es, ep, ho, hd, hk, fun _ => rfl⟩
theorem ns33 {w : World} {h : Heap} (X : (hd.heap_1 w.params).In h) : ∃ mN, h.Ns 33 mN ∧ mN "__init__" = some (.ref 31) ∧ mN "__setattr__" = none ∧ mN "code" = none ∧ mN "told" = none ∧ mN "__getattribute__" = none ∧ mN "__getattr__" = none := by
  refine ⟨nsFind _, ns_of_dict (X 33 _ (by k_is)) rfl ?_, ?_⟩
  · intro y hy
    simp only [List.mem_toArray, List.mem_cons, List.not_mem_nil, or_false] at hy
    rcases hy with rfl | rfl | rfl | rfl | rfl | rfl <;> exact ⟨_, _, rfl⟩
  · exact ⟨rfl, rfl, rfl, rfl, rfl, rfl⟩
section
variable {prog : Program} {w : World} {A : Around} {E : Value → Shared → Prop} {h : Heap} {g : Array GenState} {d : Drawn} {tk : Nat} {os : OsState}
variable {nm q : Str} {C N x : Addr} {bs bm : List Value} {sn : List Str} {sub : List Value} {ab : Bool} {col : Option Bool} {dd : Option Addr} {k0 k1 k2 k3 k5 : Option Value} {B newId sa owner : String}
  {mN : Str → Option Value} {name : Str} {v : Value}
/-- the first attribute of an object without a dict: where the dict stands is told -/
theorem put_first {tn : Tok} {o : Obj} {Q : Fin → Shared → Prop} (SF : StoreFacts B bm sa owner)
    (hC : h.get? C = some (excClassObj nm q C N bs bm true sn sub ab col dd k0 k1 k2 k3 k5 newId)) (hn : h.Ns N mN) (hna : mN name = none)
    (hB : typeLookup (.type B) name = pure none) (hx : h.get? x = some o) (hc : o.cls = .ref C) (hnc : ∀ c, o.data ≠ .cls c) (hdn : o.dict = none)
    (hq : ∀ h' tk', h'.get? x = some { cls := o.cls, dict := some h.objs.size, data := o.data, slots := o.slots } → h'.Ns1 h.objs.size (fun y => if y = name then some v else none) →
      (∀ b ob, b ≠ x → h.get? b = some ob → h'.get? b = some ob) → Q (.done (.ret .none)) ⟨h', g, d, tk', os⟩) :
    wpAny (model prog w) A (Builtin.«object.__setattr__» ⟨[.ref x, .str name tn, v], []⟩) Q E ⟨h, g, d, tk, os⟩ := by
  have hpass := SF.passes (.ref x)
  unfold Builtin.«object.__setattr__»
  repeat (first | rw [refuse_eq] | (rw [refuseLoop_ref, hpass]) | (with_reducible refine wpAny_loadPart_at hx ?_; rw [hc]) | with_reducible refine wpAny_mroOf_exc hC ?_ | (with_reducible refine wpAny_typeLookup_exc hC hn SF.mro hB ?_; rw [hna]) | wp_step)
  rw [hdn, if_neg (by simp [typeHasDict])]
  split
  · rename_i hcd
    cases hcd
  split
  · rename_i c hcd
    exact absurd hcd (hnc c)
  have hx₁ : (h.push { cls := .type "dict", data := .dict #[] }).get? x = some o := Heap.get?_push_of_some _ hx
  have hxs : x ≠ h.objs.size := Nat.ne_of_lt (Heap.lt_size hx)
  refine wpAny_bind (wpAny_alloc' (wpAny_bind (wpAny_update' hx₁ (wpAny_pure ?_))))
  have hgd : ((h.push { cls := .type "dict", data := .dict #[] }).update x fun o => { cls := o.cls, dict := some h.objs.size, data := o.data, slots := o.slots }).get? h.objs.size
      = some { cls := .type "dict", data := .dict #[] } :=
    (Heap.get?_update_ne _ _ _ _ hxs.symm).trans (Heap.get?_push_at rfl rfl)
  have hnd : ((h.push { cls := .type "dict", data := .dict #[] }).update x fun o => { cls := o.cls, dict := some h.objs.size, data := o.data, slots := o.slots }).Ns h.objs.size (fun _ => none) :=
    ⟨_, #[], _, hgd, rfl, fun e he => absurd he (by simp), fun _ => rfl⟩
  show wpAny _ _ (Builtin.ObjectAttr.storeInDict h.objs.size (.str name tn) name v) _ _ _
  unfold Builtin.ObjectAttr.storeInDict Builtin.ObjectAttr.newKeyGuard
  refine wpAny_bind (wpAny_pure (wpAny_bind (wpAny_nsSet1 (Heap.Ns1.of_empty hnd) fun h' hn' hs => ?_)))
  obtain ⟨oD, esD, epD, hoD, hdD, hcD⟩ := hn'.count (PySem.Within.cons name v PySem.Within.nil)
  refine wpAny_bind (wpAny_lookBehind hoD (by rw [hdD]; exact pastItsLine_dict (Nat.le_trans hcD (by rw [List.length_cons, List.length_nil, sizeLine_eq]; omega))) ?_)
  refine wpAny_pure (hq h' _ ?_ hn' fun b ob hb e => ?_)
  · refine (hs.2 x hxs).trans (Heap.get?_update_self _ hx₁ ?_)
    have hfr := (Heap.get?_some_iff.mp hx).2
    obtain ⟨oc, od, odt, osl⟩ := o
    cases odt <;> first | rfl | exact hfr
  · exact (hs.2 b (Nat.ne_of_lt (Heap.lt_size e))).trans ((Heap.get?_update_ne _ _ _ _ hb).trans (Heap.get?_push_of_some _ e))
theorem put_first_attr {o : Obj} {Q : Unit → Shared → Prop} (SF : StoreFacts B bm sa owner)
    (hC : h.get? C = some (excClassObj nm q C N bs bm true sn sub ab col dd k0 k1 k2 k3 k5 newId)) (hn : h.Ns N mN) (hns : mN "__setattr__" = none) (hna : mN name = none)
    (hB : typeLookup (.type B) name = pure none) (hx : h.get? x = some o) (hc : o.cls = .ref C) (hnc : ∀ c, o.data ≠ .cls c) (hdn : o.dict = none)
    (hq : ∀ h' tk', h'.get? x = some { cls := o.cls, dict := some h.objs.size, data := o.data, slots := o.slots } → h'.Ns1 h.objs.size (fun y => if y = name then some v else none) →
      (∀ b ob, b ≠ x → h.get? b = some ob → h'.get? b = some ob) → Q () ⟨h', g, d, tk', os⟩) :
    wpAny (model prog w) A (setAttr (.ref x) name v) Q E ⟨h, g, d, tk, os⟩ := by
  have f3 := SF.slot.bind (.ref x)
  unfold setAttr callSpecial? specialOf
  repeat (any_goals (first | assumption | (with_reducible refine wpAny_loadPart_at hx ?_; rw [hc]) | (with_reducible refine wpAny_typeLookup_exc hC hn SF.mro SF.slot.lookup ?_; rw [hns]) | wp_step))
  refine codeAny_call_builtin SF.slot.plain SF.entry (wpAny_check_sa SF hC hx hc (put_first SF hC hn hna hB hx hc hnc hdn fun h' tk' a b c => ?_))
  repeat (any_goals (first | assumption | wp_step))
  exact hq h' tk' a b c
end
theorem no_code : typeLookup (.type "Exception") "code" = pure none := by rw [typeLookup_type, builtinLookup_eq_fast]; kernel_rfl
theorem no_told : typeLookup (.type "Exception") "told" = pure none := by rw [typeLookup_type, builtinLookup_eq_fast]; kernel_rfl
section
variable {prog : Program} {w : World} {A : Around} {E : Value → Shared → Prop} {s : Shared} {h₀ : Heap} {L : Addr} {m : Str → Option Value} {news : Led}
theorem x_set0 {x t : Addr} {v : Value} {Q : Unit → Shared → Prop} (X : (hd.heap_1 w.params).In h₀) (F : Fr h₀ L s.heap m) (N : News h₀ L s.heap ((x, excObj 34 t none) :: news)) (hl : ∀ p ∈ news, p.1 ≠ x)
    (h : ∀ dx od h' tk', Fr h₀ L h' m → News h₀ L h' ((x, excObj 34 t (some dx)) :: (dx, od) :: news) → DN (fun y => if y = "code" then some v else none) od → dx ≠ x → (∀ p ∈ news, p.1 ≠ dx) → Q () { s with heap := h', toks := tk' }) :
    wpAny (model prog w) A (setAttr (.ref x) "code" v) Q E s := by
  have XS := X.keeps F.keep
  obtain ⟨mN, n1, _, n2, n3, _⟩ := ns33 XS
  obtain ⟨hh, g, d, tk, os⟩ := s
  have hx : hh.get? x = some (excObj 34 t none) := (N _ (.head _)).1
  refine put_first_attr PySem.F.store_Exception (XS 34 _ (by k_is)) n1 n2 n3 no_code hx rfl (fun c e => by cases e) rfl fun h' tk' a b c => ?_
  obtain ⟨od, e1, e2⟩ := DN.of b
  obtain ⟨F', N'⟩ := led_put (o' := excObj 34 t (some hh.objs.size)) F N a c hl
  have hdx : hh.objs.size ≠ x := Nat.ne_of_gt (Heap.lt_size hx)
  have N2 := led_fresh F N' e1 (Heap.get?_none_of_le (Nat.le_refl _))
  refine h hh.objs.size od h' tk' F' (fun p hp => N2 p ?_) e2 hdx fun p hp => Nat.ne_of_lt (Heap.lt_size (N p (.tail _ hp)).1)
  rcases List.mem_cons.mp hp with rfl | hp
  · exact .tail _ (.head _)
  · rcases List.mem_cons.mp hp with rfl | hp
    · exact .head _
    · exact .tail _ (.tail _ hp)
theorem x_set1 {x t dx : Addr} {od : Obj} {v c : Value} {Q : Unit → Shared → Prop} (X : (hd.heap_1 w.params).In h₀) (F : Fr h₀ L s.heap m) (N : News h₀ L s.heap ((x, excObj 34 t (some dx)) :: (dx, od) :: news))
    (D : DN (fun y => if y = "code" then some c else none) od) (hdx : dx ≠ x) (hld : ∀ p ∈ news, p.1 ≠ dx) (hl : ∀ p ∈ news, p.1 ≠ x)
    (h : ∀ od' h' tk', Fr h₀ L h' m → News h₀ L h' ((x, excObj 34 t (some dx)) :: (dx, od') :: news) → DN (fun y => if y = "told" then some v else if y = "code" then some c else none) od' → Q () { s with heap := h', toks := tk' }) :
    wpAny (model prog w) A (setAttr (.ref x) "told" v) Q E s := by
  have XS := X.keeps F.keep
  obtain ⟨mN, n1, _, n2, _, n3, _⟩ := ns33 XS
  obtain ⟨hh, g, d, tk, os⟩ := s
  have hx : hh.get? x = some (excObj 34 t (some dx)) := (N _ (.head _)).1
  have hd0 : hh.get? dx = some od := (N (dx, od) (.tail _ (.head _))).1
  have hxC : x ≠ 34 := by
    rintro rfl
    have := X 34 _ (by k_is)
    rw [(N _ (.head _)).2.2] at this
    cases this
  refine store_attr PySem.F.store_Exception (XS 34 _ (by k_is)) n1 n2 n3 no_told hxC ⟨_, hx, rfl, (fun c e => by cases e), .inr ⟨dx, rfl, hdx, D _ _ hd0⟩⟩ (fun h' tk' I k same => ?_) (PySem.Within.cons "code" c PySem.Within.nil)
  obtain ⟨o₁, a1, a2, a3, a4, a5⟩ := same _ hx
  have a5' := a5 dx rfl
  obtain ⟨oc, odi, oda, osl⟩ := o₁
  obtain rfl : oc = .ref 34 := a2
  obtain rfl : odi = some dx := a5'
  obtain rfl : oda = _ := a3
  obtain rfl : osl = #[] := a4
  obtain ⟨o₂, b1, _, _, b4⟩ := I
  obtain rfl := Option.some.inj (a1.symm.trans b1)
  rcases b4 with ⟨b5, _⟩ | ⟨d', b5, b6, b7⟩
  · cases b5
  cases b5
  obtain ⟨od', e1, e2⟩ := DN.of b7
  have kk : ∀ b o, b ≠ dx → hh.get? b = some o → h'.get? b = some o := fun b o hb e => by
    by_cases q : b = x
    · subst q; rw [hx] at e; cases e; exact a1
    · exact k b o q (fun o₀ d0 q1 q2 => by rw [hx] at q1; cases q1; cases q2; exact hb) e
  have N1 : News h₀ L hh ((dx, od) :: (x, excObj 34 t (some dx)) :: news) := fun p hp => N p (by
    rcases List.mem_cons.mp hp with rfl | hp
    · exact .tail _ (.head _)
    · rcases List.mem_cons.mp hp with rfl | hp
      · exact .head _
      · exact .tail _ (.tail _ hp))
  obtain ⟨F', N'⟩ := led_put (o' := od') F N1 e1 kk fun p hp => by
    rcases List.mem_cons.mp hp with rfl | hp
    · exact Ne.symm hdx
    · exact hld p hp
  refine h od' h' tk' F' (fun p hp => N' p ?_) e2
  rcases List.mem_cons.mp hp with rfl | hp
  · exact .tail _ (.head _)
  · rcases List.mem_cons.mp hp with rfl | hp
    · exact .head _
    · exact .tail _ (.tail _ hp)
end
end
section
theorem words78 : True := by
  k_with_none
  k_with "m k1" => (first | k_asm | ktn_no "m use: Below")
  k_with "m k2" => (first | k_asm | ktn_no "m use: Fr")
  k_with "m k3" => (first | k_asm | ktn_no "m use: In")
  k_with "m k5" => (first | k_asm | ktn_no "m use: Top")
  k_with "m k6" => (first | assumption | exact rfl | ktn_no "m use: kind")
  k_with "m k7" => (first | exact room1 (by with_reducible assumption) (by decide) | exact room2 (by with_reducible assumption) (by decide) | ktr_room | ktn_no "m use: room")
  k_with "m k8" => (first | exact units1 (by with_reducible assumption) (by decide) | exact units2 (by with_reducible assumption) (by decide) | ktr_units | ktn_no "m use: units")
  k_with "m enter" => ((refine wpAny_call ?_; k_dflt cell_enter))
  k_with "m sub" => (first | with_reducible exact fun _ h => h | with_reducible exact fun _ h => List.mem_cons_of_mem _ h | with_reducible exact fun _ h => List.mem_cons_of_mem _ (List.mem_cons_of_mem _ h) | with_reducible exact fun _ h => List.mem_cons_of_mem _ (List.mem_cons_of_mem _ (List.mem_cons_of_mem _ h)) | kcj_all)
  k_with "m drop" => (first | with_reducible assumption | exact cb_drop (by with_reducible assumption) (by k_extra "m sub") | k_asm | (refine' cb_drop (by assumption) (by kcj_all)) | ktn_no "m drop: the ledger")
  k_with "m fact" => (first | assumption | (constructor <;> assumption) | omega | (simp only [decide_eq_true_eq, decide_eq_false_iff_not, Int.not_lt, Int.not_le, gt_iff_lt, ge_iff_le] at *; omega) | ktn_no "m fact")
  trivial
/-- the namespace says this under «code» -/
def CodeIs (c : Value) (od : Obj) : Prop := ∃ mA, DN mA od ∧ mA "code" = some c
theorem made_news {h h' h₀ : Heap} {L e : Addr} {m : Str → Option Value} {news : Led} {C : Addr} {args : List Value} (F : Fr h₀ L h m) (N : News h₀ L h news) (x : Heap.MadeExcOf h h' e (.ref C) args) :
    ∃ t, Fr h₀ L h' m ∧ News h₀ L h' ((e, ({ cls := .ref C, data := .fields #[.ref t, .none, .none, .none, .bool false, .none] } : Obj)) :: news) := by
  obtain ⟨t, he, _, _⟩ := x.there
  have F' := F.keeps x.keeps
  refine ⟨t, F', fun p hp => ?_⟩
  rcases List.mem_cons.mp hp with rfl | hp
  · refine ⟨he, fun q => ?_, ?_⟩
    · obtain ⟨o, _, _, ho, _⟩ := F.ns
      have := x.new
      rw [show e = L from q, ho] at this
      cases this
    · cases q : h₀.get? e with
      | none => rfl
      | some o => have := F.keep _ _ q; rw [x.new] at this; cases this
  · exact ⟨x.keeps _ _ (N p hp).1, (N p hp).2⟩
theorem inst_bare {h₀ h : Heap} {L e C : Addr} {o : Obj} {news : Led} (N : News h₀ L h news) (hm : (e, o) ∈ news) (hc : o.cls = .ref C) (hn : notCls o = true) (hd : o.dict = none) : InstAt h e o C none :=
  ⟨N.get hm, hc, hn, by rw [hd]; trivial⟩
local macro_rules | `(tactic| k_inst) => `(tactic| exact inst_bare (by k_asm) (by k_mem) rfl rfl rfl)
theorem words78_b : True := by
  k_with "!getMethod ref" => ((refine' m_super (by k_asm) (by k_asm) (by k_asm) (by k_mem) (by k_mem) (by exact rfl) (by k_is) (by first | k_is | exact rfl) (by first | k_is | exact rfl) (by decide) ?_; intro q' h' F' N' l1; (try k_lt l1)))
  k_with "!callWith ref" => ((refine' m_callWith (by k_asm) (by k_mem) ?_))
  k_with "!And" => (((with_reducible show MwAt _ _ _ ∧ _); k_dflt (refine ⟨News.get (by k_asm) (by k_mem), ?_⟩)))
  k_with "!call ref" => ((refine' m_mw (by k_asm) PySem.F.excBase_Exception (by k_asm) (by k_asm) (by k_is) (by assumption) ?_; intro t' h' F' N'))
  k_with "!setAttr ref" => ((first | (refine' x_set0 (by k_asm) (by k_asm) (by k_asm) (by assumption) ?_; intro dx od h' tk' F' N' D' n1 n2) | (refine' x_set1 (by k_asm) (by k_asm) (by k_asm) (by assumption) (by assumption) (by assumption) (by assumption) ?_; intro od' h' tk' F' N' D')))
  trivial
set_option maxRecDepth 100000 in
set_option maxHeartbeats 8000000 in
theorem exc_made (w : World) (news : Led) (code : Str) (tc : Tok) (mean : ExcName → Option Value) (mg mb : Str → Option Value) (dp un : Nat) (gd : Option (List Code)) (cn : Str) (cs : Scope) (a : Addr) (ccd : Value) (cl : List (Str × Addr)) (outer : List Env) (A₀ : Around) (base h₀ : Heap) (L : Addr) (m : Str → Option Value) (s : Shared) (Q E : Value → Shared → Prop)
    (B : Below A₀ base outer h₀) (F : Fr h₀ L s.heap m) (X : (hd.heap_1 w.params).In h₀) (N : News h₀ L s.heap news) (T : Top hdView loose mean mg mb h₀) (hk : cs.kind = .function)
    (hd : dp + 5 < recursionLimit) (hu : un + 8 * 5 < cLine)
    (ret : ∀ e t dx od h' tk', Fr h₀ L h' m → News h₀ L h' ((e, excObj 34 t (some dx)) :: (dx, od) :: news) → CodeIs (.str code tc) od → (∀ p ∈ news, p.1 ≠ e) → dx ≠ e → (∀ p ∈ news, p.1 ≠ dx) → Q (.ref e) { s with heap := h', toks := tk' }) :
    wpAny (model PySem.Challenge.rw_xm0050_01.row.prog w) (ktrTop dp un gd cn cs L a ccd cl outer) (PySem.call (.ref 34) [.str code tc]) Q E s := by
  have XS := X.keeps F.keep
  obtain ⟨hh, g, d, t, os⟩ := s
  refine wpAny_call_exc_init PySem.F.excBase_Exception (C := 34) (N := 33) (fI := 31) (mN := nsFind _) (XS _ _ (by k_is)) (ns_of_dict (XS 33 _ (by k_is)) rfl ?_) ?_ (XS _ _ (by k_is)) rfl (fun h' e hm => ?_) (by size_fits)
  · intro y hy
    simp only [List.mem_toArray, List.mem_cons, List.not_mem_nil, or_false] at hy
    rcases hy with rfl | rfl | rfl | rfl | rfl | rfl <;> exact ⟨_, _, rfl⟩
  · rfl
  obtain ⟨ta, F1, N1⟩ := made_news F N hm
  have hle : ∀ p ∈ news, p.1 ≠ e := fun p hp q => by have := (N p hp).1; rw [q, hm.new] at this; cases this
  refine wpAny_call ?_
  k_dflt (refine' ks_code_super ?k1 ?k2 ?k3 ?k4 ?k5 ?kA ?kF ?kK ?k6 ?k7 ?k8 ?k9 ?kB ?_ ?c1 ?c2 ?c3 ?c4; (case kA => exact rfl); (case kF => exact rfl); (case kK => assumption); (case k1 => k_asm); (case k2 => k_asm); (case k3 => k_asm); (case k4 => k_asm); (case k5 => k_asm); (case k6 => k_is); (case k7 => k_is); (case k8 => ktr_room); (case k9 => exact binds_K (X.keeps F1.keep) rfl (by k_is) rfl rfl rfl); (case kB => exact locs rfl); (case c1 => decide); (case c2 => exact rfl); (case c3 => exact rfl); (case c4 => exact rfl))
  intro g' L' h1 FG' F' N' B' X' T' l1
  k_steps
  exact ret _ _ _ _ _ _ (by assumption) (by assumption) ⟨_, by assumption, rfl⟩ (by assumption) (by assumption) (by assumption)
end
section
section
variable {prog : Program} {w : World} {A₀ A : Around} {s : Shared} {base h₀ g₀ : Heap} {outer : List Env} {L : Addr} {m : Str → Option Value} {env : Env} {news : Led} {K : Frag} {p : Program} {loose : List Str} {mean : ExcName → Option Value} {mg mb : Str → Option Value}
  {R : Result → Shared → Prop}
/-- the ground of a def called from a frame, and what the way back from it asks: a turned ground will do -/
theorem groundS (B : Below A₀ base outer h₀) (F : Fr h₀ L s.heap m) (N : News h₀ L s.heap news) (X₀ : K.In h₀) (T : Top p loose mean mg mb h₀) (XB : K.In base) (TB : Top p loose mean mg mb base) (D : KtsDicts (outer.filterMap (·.frame)) h₀)
    (T0 : KtsTurn (outer.filterMap (·.frame)) g₀ h₀) (hA : A.frames = some (env :: outer)) (hf : env.frame = some L) (hke : env.scope.kind = .function) :
    Fr h₀ L (hideAll s.heap (news.map (·.1))) m ∧ Below A base (env :: outer) (hideAll s.heap (news.map (·.1))) ∧ K.In (hideAll s.heap (news.map (·.1))) ∧ Top p loose mean mg mb (hideAll s.heap (news.map (·.1))) ∧
      KtsDicts ((env :: outer).filterMap (·.frame)) (hideAll s.heap (news.map (·.1))) ∧
      ∀ v s', LeaveS ((env :: outer).filterMap (·.frame)) A₀ base outer K p loose mean mg mb g₀ h₀ L m (hideAll s.heap (news.map (·.1))) R v s' → R (.ok (.ret v)) s' := by
  obtain ⟨FG, BG, st, lv⟩ := groundX (R := R) B F N hA hf hke
  have hL0 : ∀ b ∈ (env :: outer).filterMap (·.frame), b = L ∨ b ∈ outer.filterMap (·.frame) := fun b hm => by
    obtain ⟨e, he, hf'⟩ := List.mem_filterMap.mp hm
    rcases List.mem_cons.mp he with rfl | he
    · exact .inl (Option.some.inj (hf'.symm.trans hf))
    · exact .inr (List.mem_filterMap.mpr ⟨e, he, hf'⟩)
  obtain ⟨oL, es, ep, hLg, hLd, hLk, hLf⟩ := FG.ns
  have nL₀ : h₀.get? L = none := kts_self F
  refine ⟨⟨⟨oL, es, ep, hLg, hLd, hLk, hLf⟩, FG.keep, FG.above⟩, BG, X₀.keeps st, T.keeps st, fun b hb => ?_, fun v s' hl => ?_⟩
  · rcases hL0 b hb with rfl | hb
    · exact ⟨oL, es, ep, hLg, hLd⟩
    · obtain ⟨o, es', n', ho', hd'⟩ := D b hb
      exact ⟨o, es', n', st b o ho', hd'⟩
  rcases hl with ⟨L', m', news', F', N', k⟩ | ⟨g', L', m', news', T', F', N', k⟩
  · exact lv v s' ⟨L', m', news', F', N', k⟩
  obtain ⟨sl, hs⟩ := T'.up hLg
  obtain ⟨T₁, S₁⟩ := kts_turn_at (h := s'.heap) (fs := outer.filterMap (·.frame)) (g := h₀)
    (fun b hb => by
      obtain ⟨_, o, ho', _⟩ := B.frames.mem hb
      exact ⟨o, ho'⟩)
    (fun b o e nmem => F'.keep b o (T'.other b o (st b o e) (fun q => by
      rcases hL0 b q with z | z
      · rw [z, nL₀] at e
        cases e
      · exact nmem z)))
    (fun b o e hm => by
      obtain ⟨sl', hs'⟩ := T'.up (st b o e)
      exact ⟨sl', F'.keep _ _ hs'⟩)
  have B₃ : Below A₀ base outer (ktsHeap s'.heap (outer.filterMap (·.frame)) h₀) := ⟨B.stack, fun b o e => T₁.other b o (B.stays b o e) (fun hm => by
    rw [(B.frames.mem hm).1] at e
    cases e), B.frames.of_keeps fun b o e _ => by
    obtain ⟨sl', hs'⟩ := T₁.up e
    exact ⟨_, hs', rfl⟩⟩
  refine k _ (T0.trans T₁) ⟨⟨_, es, ep, F'.keep _ _ hs, hLd, hLk, hLf⟩, S₁, by rw [T₁.size]; exact F.above⟩ (fun p hp => ⟨(N' p hp).1, fun q => ?_, ?_⟩) B₃ (XB.keeps B₃.stays) (TB.keeps B₃.stays) (D.turn T₁)
  · have := (N' p hp).2.2; rw [q, hs] at this; cases this
  · refine T₁.none_ _ ?_
    cases q : h₀.get? p.1 with
    | none => rfl
    | some o =>
      obtain ⟨sl', hs'⟩ := T'.up (st _ _ q)
      have := (N' p hp).2.2
      rw [hs'] at this
      cases this
end
section
variable {prog : Program} {w : World} {A₀ A : Around} {s : Shared} {base h₀ g₀ : Heap} {outer : List Env} {L : Addr} {m mg mb : Str → Option Value} {env : Env} {news : Led} {K : Frag} {p : Program} {loose : List Str} {mean : ExcName → Option Value}
  {R : Result → Shared → Prop} {name qual : Str} {params : Arguments} {body : List Stmt} {scope : Scope} {dV kV doc pm cdv ct oc : Value} {an od : Option Addr} {osl : Array (Option Value)} {f : Addr} {args : Args} {binds : List (Str × Value)}
theorem enterS (B : Below A₀ base outer h₀) (F : Fr h₀ L s.heap m) (X₀ : K.In h₀) (N : News h₀ L s.heap news) (T : Top p loose mean mg mb h₀) (XB : K.In base) (TB : Top p loose mean mg mb base) (D : KtsDicts (outer.filterMap (·.frame)) h₀)
    (T0 : KtsTurn (outer.filterMap (·.frame)) g₀ h₀) (hA : A.frames = some (env :: outer)) (hf : env.frame = some L) (hke : env.scope.kind = .function)
    (ho : K.lookup f = some ⟨oc, od, .func (fnOf name qual params body scope dV kV doc pm an cdv ct), osl⟩) (hcd : codeIn K cdv qual = true) (hroom : A.depth < recursionLimit)
    (hbind : BindsTo s (fnOf name qual params body scope dV kV doc pm an cdv ct) args binds) (hloc : ∀ y ∈ binds, scope.names.lookup y.1 = some .local)
    (h : ∀ g L' h₁, Fr h₀ L g m → Fr g L' h₁ (fun y => binds.reverse.lookup y) → News g L' h₁ news → Below A base (env :: outer) g → K.In g → Top p loose mean mg mb g → KtsDicts ((env :: outer).filterMap (·.frame)) g → (∀ p ∈ news, p.1 < L') →
      wpAny (model prog w) (A.deeper (envOf qual scope L' f cdv)) (execs body (envOf qual scope L' f cdv))
        (fun fl s' => LeaveS ((env :: outer).filterMap (·.frame)) A₀ base outer K p loose mean mg mb g₀ h₀ L m g R (match fl with | .ret v => v | _ => .none) s')
        (fun e s' => wpAny (model prog w) (A.deeper (envOf qual scope L' f cdv)) (leaving (envOf qual scope L' f cdv) e) (fun _ s'' => R (.error e) s'') (fun e' s'' => R (.error e') s'') s')
        { s with heap := h₁, toks := s.toks + binds.length })
    (hco : scope.isCoroutine = false) (hgen : scope.isGenerator = false) (hk : scope.kind = .function) (hcell : ∀ x ∈ scope.names, x.2 ≠ .cell) : codeAny (model prog w) A (.call (.ref f) args) R s := by
  have X := X₀.keeps F.keep
  obtain ⟨FG, BG, XG, TG, DG, lv⟩ := groundS (R := R) B F N X₀ T XB TB D T0 hA hf hke
  refine codeAny_call_def (fd := fnOf name qual params body scope dV kV doc pm an cdv ct) (body := body) (binds := binds) hroom (X _ _ ho) rfl (T.nolimit.keeps F.keep) (codeRec_of X hcd) rfl hbind hcell hloc (fun h₁ hns hk₁ => ?_) hco hgen hk
  exact wpAny_mono (h _ s.heap.objs.size h₁ FG ⟨hns, fun b o e => hk₁ b o (of_hideAll _ e), Nat.le_of_eq (hideAll_size _ _)⟩
    (fun p hp => ⟨hk₁ _ _ (N p hp).1, Nat.ne_of_lt (Heap.lt_size (N p hp).1), hideAll_none _ (List.mem_map_of_mem hp)⟩) BG XG TG DG (fun p hp => Heap.lt_size (N p hp).1)) (fun fl s' hl => lv _ _ hl) fun _ _ y => y
theorem enterSC (B : Below A₀ base outer h₀) (F : Fr h₀ L s.heap m) (X₀ : K.In h₀) (N : News h₀ L s.heap news) (T : Top p loose mean mg mb h₀) (XB : K.In base) (TB : Top p loose mean mg mb base) (D : KtsDicts (outer.filterMap (·.frame)) h₀)
    (T0 : KtsTurn (outer.filterMap (·.frame)) g₀ h₀) (hA : A.frames = some (env :: outer)) (hf : env.frame = some L) (hke : env.scope.kind = .function)
    (ho : K.lookup f = some ⟨oc, od, .func (fnOf name qual params body scope dV kV doc pm an cdv ct), osl⟩) (hcd : codeIn K cdv qual = true) (hroom : A.depth < recursionLimit)
    (hbind : BindsTo s (fnOf name qual params body scope dV kV doc pm an cdv ct) args binds) (hkind : (binds.all fun y => scope.names.lookup y.1 == some .local || scope.names.lookup y.1 == some .cell) = true)
    (hnd : ((cellsFrom 0 scope.names []).map (·.1)).Nodup)
    (h : ∀ g L' h₁ tk cells, Fr h₀ L g m → Fr g L' h₁ (bindL (envOfC qual scope L' f cdv).kindOf binds fun _ => none) → News g L' h₁ (cells ++ news) →
      CellsAre (bindC (envOfC qual scope L' f cdv).kindOf binds fun _ => none) (cellsFrom (L' + 1) scope.names []) cells → Below A base (env :: outer) g → K.In g → Top p loose mean mg mb g → KtsDicts ((env :: outer).filterMap (·.frame)) g → (∀ p ∈ news, p.1 < L') →
      wpAny (model prog w) (A.deeper (envOfC qual scope L' f cdv)) (execs body (envOfC qual scope L' f cdv))
        (fun fl s' => LeaveS ((env :: outer).filterMap (·.frame)) A₀ base outer K p loose mean mg mb g₀ h₀ L m g R (match fl with | .ret v => v | _ => .none) s')
        (fun e s' => wpAny (model prog w) (A.deeper (envOfC qual scope L' f cdv)) (leaving (envOfC qual scope L' f cdv) e) (fun _ s'' => R (.error e) s'') (fun e' s'' => R (.error e') s'') s')
        { s with heap := h₁, toks := tk })
    (hco : scope.isCoroutine = false) (hgen : scope.isGenerator = false) (hk : scope.kind = .function) : codeAny (model prog w) A (.call (.ref f) args) R s := by
  have X := X₀.keeps F.keep
  obtain ⟨FG, BG, XG, TG, DG, lv⟩ := groundS (R := R) B F N X₀ T XB TB D T0 hA hf hke
  refine codeAny_call_function hroom (X _ _ ho) rfl hco hgen rfl (codeRec_of X hcd) (hbind _ _ _ _ ?_)
  refine wpAny_newFunctionEnv_cells hk (kindsX hkind _) fun env' he s' x => ?_
  subst he
  refine ⟨(T.nolimit.keeps F.keep).keeps x.toInCall.keep, codeAny_func ?_⟩
  obtain ⟨h₁, tk, rfl, _⟩ := x.done
  have hk₁ := x.toInCall.keep
  obtain ⟨cells, NC, Y⟩ := Cl.news (h₀ := s.heap) (Nat.le_refl _) fun n c hm => ⟨x.cell n c (lookup_of_mem_nodup (cellsFrom_names scope.names 0 (s.heap.objs.size + 1) [] [] rfl ▸ hnd) hm), x.above n c hm⟩
  refine wpAny_mono (h _ s.heap.objs.size h₁ tk cells FG ⟨x.toInCall.ns, fun b o e => hk₁ b o (of_hideAll _ e), Nat.le_of_eq (hideAll_size _ _)⟩ (fun p hp => ?_) Y BG XG TG DG (fun p hp => Heap.lt_size (N p hp).1)) (fun fl s' hl => lv _ _ hl) fun _ _ y => y
  rcases List.mem_append.mp hp with hp | hp
  · refine ⟨(NC p hp).1, (NC p hp).2.1, ?_⟩
    cases q : (hideAll s.heap (news.map (·.1))).get? p.1 with
    | none => rfl
    | some o => have := of_hideAll _ q; rw [(NC p hp).2.2] at this; cases this
  · exact ⟨hk₁ _ _ (N p hp).1, Nat.ne_of_lt (Heap.lt_size (N p hp).1), hideAll_none _ (List.mem_map_of_mem hp)⟩
end
end
section
/-- an error of the project's own is under way: its object, its namespace and the ledger stand in a part that nothing more touches -/
def RaisedE (base G : Heap) (l : List Env) (e dx : Addr) (c : Value) (news : Led) (h : Heap) : Prop :=
  ∃ B od, base.StaysIn B ∧ (∀ b o, G.get? b = some o → b ∉ l.filterMap (·.frame) → B.get? b = some o) ∧ (∀ p ∈ (dx, od) :: news, B.get? p.1 = some p.2 ∧ G.get? p.1 = none ∧ base.get? p.1 = none) ∧ Hot B l e 34 dx .none h ∧ CodeIs c od
theorem RaisedE.sub {base G : Heap} {l : List Env} {e dx : Addr} {c : Value} {news news' : Led} {h : Heap} (R : RaisedE base G l e dx c news' h) (k : ∀ p ∈ news, p ∈ news') : RaisedE base G l e dx c news h := by
  obtain ⟨B, od, a, a', b, x, y⟩ := R
  refine ⟨B, od, a, a', fun p hp => b p ?_, x, y⟩
  rcases List.mem_cons.mp hp with rfl | hp
  · exact .head _
  · exact .tail _ (k p hp)
def Raises34 (w : World) (E : Value → Shared → Prop) (v : Value) (s₁ : Shared) : Prop :=
  ∃ a t dx, v = .ref a ∧ s₁.heap.get? a = some (excObj 34 t (some dx)) ∧ (hd.heap_1 w.params).In s₁.heap ∧ E (.ref a) s₁
section
variable {prog : Program} {A : Around} {E : Value → Shared → Prop} {s : Shared} {env : Env} {w : World}
theorem Raise_exc {e : Expr} {pos : Pos} {Q : Flow → Shared → Prop} (hh : A.handled = none)
    (h : wpAny (model prog w) A (eval e env) (Raises34 w E) E s) : wpAny (model prog w) A (exec (.Raise (some e) none pos) env) Q E s := by
  show wpAny (model prog w) A (do standAt pos; raiseStmt env (some (do let v ← eval e env; standAt pos; pure v)) none) Q E s
  refine wpAny_bind (wpAny_standAt ?_)
  unfold raiseStmt
  dsimp only
  refine wpAny_bind (wpAny_bind (wpAny_mono h (fun v s₁ h₁ => wpAny_bind (wpAny_standAt (wpAny_pure ?_))) fun _ _ x => x))
  obtain ⟨a, t, dx, rfl, ha, X, hE⟩ := h₁
  obtain ⟨hp, g, d, tk, os⟩ := s₁
  have hC := X 34 _ (by k_is)
  have hcB : ([.ref 34, .type "Exception", .type "BaseException", .type "object"] : List Value).contains (.type "BaseException") = true := by decide
  repeat (first | with_reducible refine wpAny_loadPart_at ha ?_ | with_reducible refine wpAny_loadPart_at hC ?_ | (with_reducible refine wpAny_isSubtype_exc hC ?_; rw [hcB]) | wp_step)
  exact wpAny_raiseNew_none hh hE
end
section
variable {M : Model} {A : Around} {E : Value → Shared → Prop} {s' : Shared} {base g h : Heap} {outer : List Env} {name : Str} {scope : Scope} {L a e dx t : Addr} {cd c : Value} {m : Str → Option Value} {news : Led} {Q : Unit → Shared → Prop}
theorem leave_excE (K : Below A base outer g) (F : Fr g L s'.heap m) {od : Obj} (N : News g L s'.heap ((e, excObj 34 t (some dx)) :: (dx, od) :: news)) (hle : ∀ p ∈ news, p.1 ≠ e) (hdx : dx ≠ e) (C : CodeIs c od)
    (hQ : ∀ h', RaisedE base g outer e dx c news h' → g.UpToSlots h' → Q () { s' with heap := h' }) (hk : scope.kind = .function := by rfl) :
    wpAny M (A.deeper (envOf name scope L a cd)) (leaving (envOf name scope L a cd) (.ref e)) Q E s' := by
  have K' := K.push (name := name) (a := a) (cd := cd) F hk
  have hin : ∀ env ∈ (envOf name scope L a cd :: outer), ∀ b, env.frame = some b → b ∈ e :: (envOf name scope L a cd :: outer).filterMap (·.frame) := fun env he b hb => .tail _ (List.mem_filterMap.mpr ⟨env, he, hb⟩)
  have he0 : base.get? e = none := fresh_of_stays K.stays (N _ (.head _)).2.2
  have st : base.StaysIn (hideAll s'.heap (e :: (envOf name scope L a cd :: outer).filterMap (·.frame))) := fun b o q => hideAll_get _ (K'.stays b o q) fun hm => by
    rcases List.mem_cons.mp hm with rfl | hm
    · rw [he0] at q; cases q
    · rw [(K'.frames.mem hm).1] at q; cases q
  have sg : ∀ b o, g.get? b = some o → b ∉ outer.filterMap (·.frame) → (hideAll s'.heap (e :: (envOf name scope L a cd :: outer).filterMap (·.frame))).get? b = some o := fun b o q nm => hideAll_get _ (F.keep b o q) fun hm => by
    rcases List.mem_cons.mp hm with rfl | hm
    · rw [(N _ (.head _)).2.2] at q; cases q
    · rcases kts_mem hm with z | z
      · rw [z, kts_self F] at q; cases q
      · exact nm z
  have hl : ∀ q ∈ (dx, od) :: news, (hideAll s'.heap (e :: (envOf name scope L a cd :: outer).filterMap (·.frame))).get? q.1 = some q.2 ∧ g.get? q.1 = none ∧ base.get? q.1 = none := fun q hq => by
    refine ⟨hideAll_get _ (N q (.tail _ hq)).1 fun hm => ?_, (N q (.tail _ hq)).2.2, fresh_of_stays K.stays (N q (.tail _ hq)).2.2⟩
    rcases List.mem_cons.mp hm with hm | hm
    · rcases List.mem_cons.mp hq with rfl | hq
      · exact hdx hm
      · exact hle q hq hm
    obtain ⟨env, he, hf⟩ := List.mem_filterMap.mp hm
    rcases List.mem_cons.mp he with rfl | he
    · exact (N q (.tail _ hq)).2.1 (Option.some.inj hf).symm
    · obtain ⟨o, ho, _⟩ := (K.frames.mem (List.mem_filterMap.mpr ⟨env, he, hf⟩)).2
      rw [(N q (.tail _ hq)).2.2] at ho; cases ho
  refine hot_leave_first K'.stack (funFrames_hide K'.frames hin) rfl (N _ (.head _)).1 ⟨rfl, rfl⟩ (fun b o hb => of_hideAll _ hb) (hideAll_none _ (.head _)) rfl rfl fun h' x k => ?_
  exact hQ h' ⟨_, od, st, sg, hl, x, C⟩ ((Heap.UpToSlots.of_keeps F.keep).trans k)
theorem leave_onE {g₂ : Heap} (K : Below A base outer g) (F : Fr g L g₂ m) (R : RaisedE base g₂ (envOf name scope L a cd :: outer) e dx c news s'.heap) (hsm : g₂.UpToSlots s'.heap)
    (hQ : ∀ h', RaisedE base g outer e dx c news h' → g.UpToSlots h' → Q () { s' with heap := h' }) :
    wpAny M (A.deeper (envOf name scope L a cd)) (leaving (envOf name scope L a cd) (.ref e)) Q E s' := by
  obtain ⟨B, od, hB, hBG, hl, x, C⟩ := R
  exact hot_leave_next (Around.frames_deeper K.stack) rfl x fun h' x' k => hQ h' ⟨B, od, hB, fun b o q nm => hBG b o (F.keep b o q) (fun hm => by
    rcases kts_mem hm with z | z
    · rw [z, kts_self F] at q; cases q
    · exact nm z), fun q hq => ⟨(hl q hq).1, kts_none F.keep (hl q hq).2.1, (hl q hq).2.2⟩, x', C⟩ ((Heap.UpToSlots.of_keeps F.keep).trans (hsm.trans k))
end
/-- what a call of the def at f does when it raises the project's error with this code -/
def DoesR (w : World) (need : Nat) (f : Addr) (vs : List Value) (news : Led) (c : Str) : Prop :=
  ∀ (mean : ExcName → Option Value) (mg mb : Str → Option Value) (dp un : Nat) (gd : Option (List Code)) (cn : Str) (cs : Scope) (a : Addr) (ccd : Value) (cl : List (Str × Addr)) (outer : List Env) (A₀ : Around) (base h₀ : Heap) (L : Addr) (m : Str → Option Value) (s : Shared) (Q E : Value → Shared → Prop),
    Below A₀ base outer h₀ → Fr h₀ L s.heap m → (hd.heap_1 w.params).In h₀ → News h₀ L s.heap news → Top hdView loose mean mg mb h₀ → cs.kind = .function →
    dp + need < recursionLimit → un + 8 * need < cLine →
    (∀ e dx tc g h' tk', Fr h₀ L g m → g.UpToSlots h' → RaisedE base g (envX cn cs L a ccd cl :: outer) e dx (.str c tc) news h' → E (.ref e) { s with heap := h', toks := tk' }) →
    wpAny (model PySem.Challenge.rw_xm0050_01.row.prog w) (ktrTop dp un gd cn cs L a ccd cl outer) (call (.ref f) vs) Q E s
theorem DoesR.use {w : World} {need : Nat} {f : Addr} {vs : List Value} {news : Led} {c : Str}
    {mean : ExcName → Option Value} {mg mb : Str → Option Value} {dp un : Nat} {gd : Option (List Code)} {cn : Str} {cs : Scope} {a : Addr} {ccd : Value} {cl : List (Str × Addr)} {outer : List Env} {A₀ : Around} {base h₀ : Heap} {L : Addr} {m : Str → Option Value} {s : Shared} {Q E : Value → Shared → Prop}
    (N : News h₀ L s.heap news) (D : DoesR w need f vs news c) (B : Below A₀ base outer h₀) (F : Fr h₀ L s.heap m) (X : (hd.heap_1 w.params).In h₀) (T : Top hdView loose mean mg mb h₀) (hk : cs.kind = .function)
    (hd : dp + need < recursionLimit) (hu : un + 8 * need < cLine)
    (esc : ∀ e dx tc g h' tk', Fr h₀ L g m → g.UpToSlots h' → RaisedE base g (envX cn cs L a ccd cl :: outer) e dx (.str c tc) news h' → E (.ref e) { s with heap := h', toks := tk' }) :
    wpAny (model PySem.Challenge.rw_xm0050_01.row.prog w) (ktrTop dp un gd cn cs L a ccd cl outer) (call (.ref f) vs) Q E s :=
  D mean mg mb dp un gd cn cs a ccd cl outer A₀ base h₀ L m s Q E B F X N T hk hd hu esc
theorem exc_use {w : World} {news : Led} {code : Str} {tc : Tok}
    {mean : ExcName → Option Value} {mg mb : Str → Option Value} {dp un : Nat} {gd : Option (List Code)} {cn : Str} {cs : Scope} {a : Addr} {ccd : Value} {cl : List (Str × Addr)} {outer : List Env} {A₀ : Around} {base h₀ : Heap} {L : Addr} {m : Str → Option Value} {s : Shared} {E E' : Value → Shared → Prop}
    (N : News h₀ L s.heap news) (B : Below A₀ base outer h₀) (F : Fr h₀ L s.heap m) (X : (hd.heap_1 w.params).In h₀) (T : Top hdView loose mean mg mb h₀) (hk : cs.kind = .function)
    (hd : dp + 5 < recursionLimit) (hu : un + 8 * 5 < cLine)
    (ret : ∀ e t dx od h' tk', Fr h₀ L h' m → News h₀ L h' ((e, excObj 34 t (some dx)) :: (dx, od) :: news) → CodeIs (.str code tc) od → (∀ p ∈ news, p.1 ≠ e) → dx ≠ e → (∀ p ∈ news, p.1 ≠ dx) → E' (.ref e) { s with heap := h', toks := tk' }) :
    wpAny (model PySem.Challenge.rw_xm0050_01.row.prog w) (ktrTop dp un gd cn cs L a ccd cl outer) (PySem.call (.ref 34) [.str code tc]) (Raises34 w E') E s :=
  exc_made w news code tc mean mg mb dp un gd cn cs a ccd cl outer A₀ base h₀ L m s _ _ B F X N T hk hd hu fun e t dx od h' tk' F' N' C n1 n2 n3 =>
    ⟨e, t, dx, rfl, News.get N' (.head _), X.keeps F'.keep, ret e t dx od h' tk' F' N' C n1 n2 n3⟩
end
section
section
variable {prog : Program} {w : World} {A₀ : Around} {E : Value → Shared → Prop} {s' : Shared} {base g g₀ G : Heap} {outer : List Env} {L a e dx : Addr} {m : Str → Option Value} {name : Str} {scope : Scope} {cd c : Value}
  {n : Str} {b₀ : Stmt} {suite : List Stmt} {pos np : Pos} {rest : List ExceptHandler} {Q : Flow → Shared → Prop} {news : Led} {mean : ExcName → Option Value} {mg mb : Str → Option Value} {x : Str}
theorem caught_E (R : RaisedE base G (envOf name scope L a cd :: outer) e dx c news s'.heap) (F : Fr g L G m) (K : Below A₀ base outer g) (hsm : G.UpToSlots s'.heap) (XB : (hd.heap_1 w.params).In base) (TB : Top hdView loose mean mg mb base)
    (D : KtsDicts (outer.filterMap (·.frame)) g) (T0 : KtsTurn (outer.filterMap (·.frame)) g₀ g) (ex : nsIn (hd.heap_1 w.params) mainGlobals x = some (some (.ref 34)))
    (k : ∀ h' g' oe od tk, KtsTurn (outer.filterMap (·.frame)) g₀ g' → Fr g' L h' (fun y => if y = n then some (.ref e) else m y) → News g' L h' ((e, oe) :: (dx, od) :: news) → Cd 34 dx oe → (∃ vs, oe.data = .fields vs) → CodeIs c od → Below A₀ base outer g' → (hd.heap_1 w.params).In g' → Top hdView loose mean mg mb g' → KtsDicts (outer.filterMap (·.frame)) g' →
      wpAny (model prog w) ((A₀.deeper (envOf name scope L a cd)).mark (some (.ref e))) (execs (b₀ :: suite) (envOf name scope L a cd))
        (fun f s₄ => wpAny (model prog w) (A₀.deeper (envOf name scope L a cd)) (do bindName (envOf name scope L a cd) n .none; unbindBehindTheSuite (envOf name scope L a cd) n pos) (fun _ s₅ => Q f s₅) E s₄)
        (AsSuiteRaised (model prog w) ((A₀.deeper (envOf name scope L a cd)).mark (some (.ref e))) (envOf name scope L a cd) n pos (notedBy (model prog w) ((A₀.deeper (envOf name scope L a cd)).mark (some (.ref e))) (envOf name scope L a cd) (cameBackBy (model prog w) (A₀.deeper (envOf name scope L a cd)) (envOf name scope L a cd) E)))
        { s' with heap := h', toks := tk })
    (hk : scope.kind = .function := by rfl) (hlo : (envOf name scope L a cd).kindOf n = some .local := by rfl) (hx : (envOf name scope L a cd).kindOf x = some .globalImplicit := by rfl) (hdb : (x == ("__debug__" : Str)) = false := by decide) :
    wpAny (model prog w) (A₀.deeper (envOf name scope L a cd)) (noteFrame (.ref e) (envOf name scope L a cd))
      (fun _ s₂ => wpAny (model prog w) (A₀.deeper (envOf name scope L a cd)) (setFlight (.ref e) none) (fun _ s₃ =>
        wpAny (model prog w) (A₀.deeper (envOf name scope L a cd)) (handleBy (.ref e) (envOf name scope L a cd) (.ExceptHandler (some (.Name x np)) (some n) (b₀ :: suite) pos :: rest)) Q E s₃) E s₂) E s' := by
  obtain ⟨B, od, hB, hBG, hl, hfl, C⟩ := R
  have hL : B.get? L = none := by
    obtain ⟨_, ⟨L', _, hf, hn', _⟩, _⟩ := hfl.frames
    obtain rfl : L = L' := Option.some.inj hf
    exact hn'
  refine hot_next (Around.frames_deeper K.stack) rfl hfl fun h₄ hheld₄ hsm₄ => ?_
  refine hot_off (s := { s' with heap := h₄ }) hheld₄ fun h₅ hheld hsm₅' => ?_
  have hsm₅ := hsm₄.trans hsm₅'
  obtain ⟨g₅, T₅, F₅, K₅⟩ := kts_ground K F hBG hheld.stays (hsm.trans hsm₅)
  have X₅ := XB.keeps K₅.stays
  have P₅ : TopRead hdView loose mg mb g₅ := topRead_of (TB.keeps K₅.stays)
  obtain ⟨ob, vs, hob, hobc, hobd⟩ := hheld.there
  have hC₅ := F₅.keep _ _ (X₅ 34 _ (by k_is))
  refine wpAny_handleBy_cons (codeAny_handlers_test (name_K F₅ X₅ P₅ ex ?_ hk hx hdb)) (by intro q; cases q)
  refine wpAny_excMatches_sub_self hC₅ hob hobc.1 (by decide) (codeAny_handlers_suite_as ?_)
  refine hot_off (s := { s' with heap := h₅ }) hheld fun h₆ hfl₆ hsm₆ => ?_
  obtain ⟨g₆, T₆, F₆, K₆⟩ := kts_ground K F hBG hfl₆.stays ((hsm.trans hsm₅).trans hsm₆)
  obtain ⟨oe, ws, hoe, hoec, hoed⟩ := hfl₆.there
  have ne₆ : g₆.get? e = none := T₆.none_ _ (kts_fresh F hBG hfl₆.new fun o ho m => by
    obtain ⟨_, o', ho', hdd⟩ := K.frames.mem m
    rw [ho] at ho'
    cases ho'
    obtain ⟨sl, hs⟩ := ((hsm.trans hsm₅).trans hsm₆) _ _ (F.keep _ _ ho) hdd
    rw [hoe] at hs
    cases hs
    exact hdd _ hoed)
  have Nl : News g₆ L h₆ ((dx, od) :: news) := fun q hq => ⟨hfl₆.stays _ _ (hl q hq).1, (fun z => by have := (hl q hq).1; rw [z, hL] at this; cases this), T₆.none_ _ (kts_none F.keep (hl q hq).2.1)⟩
  have N₆ := News.more F₆ Nl hoe (fun es n q => by rw [hoed] at q; cases q) ne₆
  have X₆ := XB.keeps K₆.stays
  have P₆ : Top hdView loose mean mg mb g₆ := TB.keeps K₆.stays
  have D₆ : KtsDicts (outer.filterMap (·.frame)) g₆ := D.turn T₆
  refine stN F₆ N₆ (fun h₇ F₇ N₇ => ?_) hk hlo
  exact k h₇ g₆ _ _ _ (T0.trans T₆) F₇ N₇ hoec ⟨ws, hoed⟩ C K₆ X₆ P₆ D₆
end
end
section
theorem words82 : True := by
  k_with_none
  k_with "m k1" => (first | k_asm | ktn_no "m use: Below")
  k_with "m k2" => (first | k_asm | ktn_no "m use: Fr")
  k_with "m k3" => (first | k_asm | ktn_no "m use: In")
  k_with "m k5" => (first | k_asm | ktn_no "m use: Top")
  k_with "m k6" => (first | assumption | exact rfl | ktn_no "m use: kind")
  k_with "m k7" => (first | exact room1 (by with_reducible assumption) (by decide) | exact room2 (by with_reducible assumption) (by decide) | ktr_room | ktn_no "m use: room")
  k_with "m k8" => (first | exact units1 (by with_reducible assumption) (by decide) | exact units2 (by with_reducible assumption) (by decide) | ktr_units | ktn_no "m use: units")
  k_with "m enter" => ((refine wpAny_call ?_; k_dflt cell_enter))
  k_with "m sub" => (first | with_reducible exact fun _ h => h | with_reducible exact fun _ h => List.mem_cons_of_mem _ h | with_reducible exact fun _ h => List.mem_cons_of_mem _ (List.mem_cons_of_mem _ h) | with_reducible exact fun _ h => List.mem_cons_of_mem _ (List.mem_cons_of_mem _ (List.mem_cons_of_mem _ h)) | kcj_all)
  k_with "m drop" => (first | with_reducible assumption | exact cb_drop (by with_reducible assumption) (by k_extra "m sub") | k_asm | (refine' cb_drop (by assumption) (by kcj_all)) | ktn_no "m drop: the ledger")
  k_with "m fact" => (first | assumption | (constructor <;> assumption) | omega | (simp only [decide_eq_true_eq, decide_eq_false_iff_not, Int.not_lt, Int.not_le, gt_iff_lt, ge_iff_le] at *; omega) | ktn_no "m fact")
  k_with "!call ref" => ((k_here; (with_reducible show wpAny _ _ (PySem.call (Value.ref 44) _) _ _ _); k_dflt (refine' Does.use (by k_asm) (does_figs _ _ _ _ (by k_extra "m fact")) (by k_extra "m k1") (by k_extra "m k2") (by k_extra "m k3") (by k_extra "m k5") (by k_extra "m k6") (by k_extra "m k7") (by k_extra "m k8") ?_; intro r9 tl9 h9 tk9 F9 N9 l9 o9; cases o9; (try simp only [List.nil_append] at N9); clear l9; (try dsimp only); (try k_fold))))
  k_with "!call ref" => ((k_here; (with_reducible show wpAny _ _ (PySem.call (Value.ref 51) _) _ _ _); k_dflt (refine' Does.use (by k_asm) (does_rnd _ _ _ _ _ _ (by k_extra "m fact") (by k_extra "m fact") (by k_extra "m fact") (by k_extra "m fact")) (by k_extra "m k1") (by k_extra "m k2") (by k_extra "m k3") (by k_extra "m k5") (by k_extra "m k6") (by k_extra "m k7") (by k_extra "m k8") ?_; intro r9 tl9 h9 tk9 F9 N9 l9 o9; cases o9; (try simp only [List.nil_append] at N9); clear l9; (try dsimp only); (try k_fold))))
  k_with "m lt" => (first | assumption | exact ktn_ltOf (by assumption) | ((with_reducible rename _ ∧ AllLt _ _ => hlt); exact ktn_ltOf hlt.2) | exact ktn_ltOf (And.right (by assumption)) | exact ktn_ltOf (And.right (And.right (by assumption))) | exact ktn_ltOf (And.right (And.right (And.right (by assumption)))) | exact ktn_ltOf (And.right (And.right (And.right (And.right (by assumption))))) | exact ktn_ltOf (And.right (And.right (And.right (And.right (And.right (by assumption)))))) | exact ktn_ltOf (And.right (And.right (And.right (And.right (And.right (And.right (by assumption))))))) | ktn_no "m lt")
  k_with "m back" => ((intro r9 tl9 h9 tk9 F9 N9 l9 o9; cases o9; all_goals ((try simp only [List.nil_append, List.cons_append] at N9); (first | (replace l9 := newLt l9; (try k_lt l9)) | clear l9); (try dsimp only); (try k_fold))))
  k_with "!call ref" => ((k_here; (with_reducible show wpAny _ _ (PySem.call (Value.ref 58) _) _ _ _); k_dflt (refine' Does.use (by k_asm) (does_made _ _ _ _ _ _ _ _ (by k_extra "m fact") (by k_extra "m fact") (by k_extra "m fact")) (by k_extra "m k1") (by k_extra "m k2") (by k_extra "m k3") (by k_extra "m k5") (by k_extra "m k6") (by k_extra "m k7") (by k_extra "m k8") ?_; k_extra "m back")))
  k_with "m sm" => (first | assumption | exact Sm.of45 (by assumption) | exact Sm.p10 (by k_extra "m fact") | exact Sm.lit (by omega) | ktn_no "m sm")
  k_with "!binaryOp Mult int int" => ((k_here; (with_reducible refine PyProof.Rows.mul_int ?_ (IntMulOk.of_bits (Sm.bits (by k_extra "m sm")) (Sm.bits (by k_extra "m sm"))))))
  k_with "!call ref" => ((k_here; (with_reducible show wpAny _ _ (PySem.call (Value.ref 72) _) _ _ _); k_dflt (refine' Does.use (by k_asm) (does_fits _ _ _ _ _ _ (by k_extra "m fact")) (by k_extra "m k1") (by k_extra "m k2") (by k_extra "m k3") (by k_extra "m k5") (by k_extra "m k6") (by k_extra "m k7") (by k_extra "m k8") ?_; k_extra "m back")))
  k_with "!call ref" => ((k_here; (with_reducible show wpAny _ _ (PySem.call (Value.ref 86) _) _ _ _); k_dflt (refine' Does.use (by k_asm) (does_decimal_int _ _ _ _ _ _ (by k_extra "m fact") (by k_extra "m fact")) (by k_extra "m k1") (by k_extra "m k2") (by k_extra "m k3") (by k_extra "m k5") (by k_extra "m k6") (by k_extra "m k7") (by k_extra "m k8") ?_; k_extra "m back")))
  k_with "!call ref" => ((k_here; (with_reducible show wpAny _ _ (PySem.call (Value.ref 86) _) _ _ _); k_dflt (refine' Does.use (by k_asm) (does_decimal_tup _ _ _ _ _ _ _ _ _ (by k_mem) (by k_extra "m fact") (by k_extra "m fact") (by k_extra "m fact")) (by k_extra "m k1") (by k_extra "m k2") (by k_extra "m k3") (by k_extra "m k5") (by k_extra "m k6") (by k_extra "m k7") (by k_extra "m k8") ?_; k_extra "m back")))
  k_with "!call ref" => ((k_here; (with_reducible show wpAny _ _ (PySem.call (Value.ref 94) _) _ _ _); k_dflt (refine' Does.use (by k_asm) (does_negated _ _ _ _ _ _ _ (by k_mem)) (by k_extra "m k1") (by k_extra "m k2") (by k_extra "m k3") (by k_extra "m k5") (by k_extra "m k6") (by k_extra "m k7") (by k_extra "m k8") ?_; k_extra "m back")))
  k_with "!call ref" => ((k_here; (with_reducible show wpAny _ _ (PySem.call (Value.ref 101) _) _ _ _); k_dflt (refine' Does.use (by k_asm) (does_alike _ _ _ _ _ _ _ _ _ _ _ _ (by k_mem) (by k_mem) (by k_extra "m fact") (by k_extra "m fact") (by k_extra "m fact") (by k_extra "m fact")) (by k_extra "m k1") (by k_extra "m k2") (by k_extra "m k3") (by k_extra "m k5") (by k_extra "m k6") (by k_extra "m k7") (by k_extra "m k8") ?_; k_extra "m back")))
  k_with "!call ref" => ((k_here; (with_reducible show wpAny _ _ (PySem.call (Value.ref 108) _) _ _ _); k_dflt (refine' Does.use (by k_asm) (does_add _ _ _ _ _ _ _ _ _ _ _ _ _ _ (by k_mem) (by k_mem) (by k_extra "m fact") (by k_extra "m fact") (by k_extra "m fact") (by k_extra "m fact") (by k_extra "m fact") (by k_extra "m fact")) (by k_extra "m k1") (by k_extra "m k2") (by k_extra "m k3") (by k_extra "m k5") (by k_extra "m k6") (by k_extra "m k7") (by k_extra "m k8") ?_; k_extra "m back")))
  k_with "!call ref" => ((k_here; (with_reducible show wpAny _ _ (PySem.call (Value.ref 122) _) _ _ _); k_dflt (refine' Does.use (by k_asm) (does_mul _ _ _ _ _ _ _ _ _ _ _ _ _ _ (by k_mem) (by k_mem) (by k_extra "m fact") (by k_extra "m fact") (by k_extra "m fact") (by k_extra "m fact") (by k_extra "m fact")) (by k_extra "m k1") (by k_extra "m k2") (by k_extra "m k3") (by k_extra "m k5") (by k_extra "m k6") (by k_extra "m k7") (by k_extra "m k8") ?_; k_extra "m back")))
  k_with "!call ref" => ((k_here; (with_reducible show wpAny _ _ (PySem.call (Value.ref 129) _) _ _ _); k_dflt (refine' Does.use (by k_asm) (does_rest _ _ _ _ _ _ _ _) (by k_extra "m k1") (by k_extra "m k2") (by k_extra "m k3") (by k_extra "m k5") (by k_extra "m k6") (by k_extra "m k7") (by k_extra "m k8") ?_; k_extra "m back")))
  k_with "!call ref" => ((k_here; (with_reducible show wpAny _ _ (PySem.call (Value.ref 164) _) _ _ _); k_dflt (refine' Does.use (by k_asm) (does_is_whole _ _ _ _) (by k_extra "m k1") (by k_extra "m k2") (by k_extra "m k3") (by k_extra "m k5") (by k_extra "m k6") (by k_extra "m k7") (by k_extra "m k8") ?_; k_extra "m back")))
  k_with "!call ref" => ((k_here; (with_reducible show wpAny _ _ (PySem.call (Value.ref 164) _) _ _ _); k_dflt (refine' Does.use (by k_asm) (does_is_dec _ _ _ _ _ _ _ (by k_mem)) (by k_extra "m k1") (by k_extra "m k2") (by k_extra "m k3") (by k_extra "m k5") (by k_extra "m k6") (by k_extra "m k7") (by k_extra "m k8") ?_; k_extra "m back")))
  k_with "!call ref" => ((k_here; (with_reducible show wpAny _ _ (PySem.call (Value.ref 171) _) _ _ _); k_dflt (refine' Does.use (by k_asm) (does_settled _ _ _ _ _ _ _ _ (by k_extra "m fact") (by k_extra "m fact") (by k_extra "m fact")) (by k_extra "m k1") (by k_extra "m k2") (by k_extra "m k3") (by k_extra "m k5") (by k_extra "m k6") (by k_extra "m k7") (by k_extra "m k8") ?_; k_extra "m back")))
  k_with "!exec Raise some none" => (refine Raise_exc rfl ?_)
  k_with "!leaving ref" => ((first | (refine' leave_excE (by assumption) (by assumption) (by assumption) (by assumption) (by assumption) (by assumption) ?_; intro h' R' U'; (try dsimp only at R' U' ⊢)) | ((rename RaisedE _ _ _ _ _ _ _ _ => rkX); refine' leave_onE (by assumption) (by assumption) rkX (by assumption) ?_; intro h' R' U'; (try dsimp only at R' U' ⊢))))
  k_with "!call ref" => (((with_reducible show wpAny _ _ (PySem.call (Value.ref 34) _) _ _ _); refine' exc_use (by k_asm) (by k_extra "m k1") (by k_extra "m k2") (by k_extra "m k3") (by k_extra "m k5") (by k_extra "m k6") (by k_extra "m k7") (by k_extra "m k8") ?_; intro e t dx od h' tk' F' N' C' n1 n2 n3; (try dsimp only)))
  trivial
set_option maxRecDepth 100000 in
set_option maxHeartbeats 8000000 in
theorem raises_whole_of (w : World) (news : Led) (n : Int) (bits : Int) (tn tb : Tok) (hn : fitsB n bits = false) (hb : 1 ≤ bits ∧ bits ≤ 64) : DoesR w 8 79 [.int n tn, .int bits tb] news "OV" := by
  unfold DoesR
  intro mean mg mb dp un gd cn cs a ccd cl outer A₀ base h₀ L m s Q E B F X N T hk hd hu esc
  k_extra "m enter"
  k_steps
  all_goals exact esc _ _ _ _ _ _ (by assumption) (by assumption) (by assumption)
set_option maxRecDepth 100000 in
set_option maxHeartbeats 8000000 in
theorem does_whole_of (w : World) (news : Led) (n : Int) (bits : Int) (tn tb : Tok) (hn : fitsB n bits = true) (hb : 1 ≤ bits ∧ bits ≤ 64) : Does w 8 79 [.int n tn, .int bits tb] news (OkInt n) := by
  unfold Does
  intro mean mg mb dp un gd cn cs a ccd cl outer A₀ base h₀ L m s Q E B F X N T hk hd hu ret
  k_extra "m enter"
  k_steps
  all_goals refine ret _ [] _ _ (by k_asm) (by k_extra "m drop") noNew (OkInt.mk _)
set_option maxRecDepth 100000 in
set_option maxHeartbeats 8000000 in
theorem raises_cut_quotient (w : World) (news : Led) (n b : Int) (tn tb : Tok) (hb : b = 0) : DoesR w 8 185 [.int n tn, .int b tb] news "DZ" := by
  subst hb
  unfold DoesR
  intro mean mg mb dp un gd cn cs a ccd cl outer A₀ base h₀ L m s Q E B F X N T hk hd hu esc
  k_extra "m enter"
  k_steps
  all_goals exact esc _ _ _ _ _ _ (by assumption) (by assumption) (by assumption)
/-- what cut_quotient gives -/
def cutQ (a b : Int) : Int := bif (decide (a < 0) == decide (b < 0)) then (if a < 0 then -a else a).fdiv (if b < 0 then -b else b) else 0 - (if a < 0 then -a else a).fdiv (if b < 0 then -b else b)
theorem cutQ_t {a b : Int} (h : (decide (a < 0) == decide (b < 0)) = true) : (if a < 0 then -a else a).fdiv (if b < 0 then -b else b) = cutQ a b := by unfold cutQ; rw [h]; rfl
theorem cutQ_f {a b : Int} (h : (decide (a < 0) == decide (b < 0)) = false) : 0 - (if a < 0 then -a else a).fdiv (if b < 0 then -b else b) = cutQ a b := by unfold cutQ; rw [h]; rfl
theorem cutQ_lt {a b : Int} (hb : b ≠ 0) : (cutQ a b).natAbs ≤ a.natAbs := by
  have h1 : ∀ x y : Nat, 0 < y → ((x : Int).fdiv (y : Int)).natAbs ≤ x := fun x y hy => by
    rw [Int.fdiv_eq_ediv_of_nonneg _ (by omega), ← Int.natCast_ediv, Int.natAbs_natCast]
    exact Nat.div_le_self x y
  have h2 : (if a < 0 then -a else a) = (a.natAbs : Int) := by split <;> omega
  have h3 : (if b < 0 then -b else b) = (b.natAbs : Int) := by split <;> omega
  have := h1 a.natAbs b.natAbs (by omega)
  unfold cutQ
  rw [h2, h3]
  cases (decide (a < 0) == decide (b < 0)) <;> simp only [cond] <;> omega
set_option maxRecDepth 100000 in
set_option maxHeartbeats 8000000 in
theorem does_cut_quotient (w : World) (news : Led) (n b : Int) (tn tb : Tok) (hb : b ≠ 0) (hn : n.natAbs < 100000) (hb2 : b.natAbs < 100000) : Does w 8 185 [.int n tn, .int b tb] news (OkInt (cutQ n b)) := by
  unfold Does
  intro mean mg mb dp un gd cn cs a ccd cl outer A₀ base h₀ L m s Q E B F X N T hk hd hu ret
  k_extra "m enter"
  k_steps
  all_goals first
    | exact absurd (by assumption) hb
    | exact ret _ [] _ _ (by k_asm) (by k_extra "m drop") noNew (OkInt.of _ (cutQ_t (by assumption)))
    | exact ret _ [] _ _ (by k_asm) (by k_extra "m drop") noNew (OkInt.of _ (cutQ_f (by assumption)))
end
section
section
variable {prog : Program} {w : World} {A : Around} {E : Value → Shared → Prop} {h : Heap} {g : Array GenState} {d : Drawn} {t : Nat} {os : OsState} {a dx : Addr} {o : Obj} {vs : Array Value}
  {nm q : Str} {C N : Addr} {bs bm : List Value} {sn : List Str} {sub : List Value} {ab : Bool} {col : Option Bool} {dd : Option Addr} {k0 k1 k2 k3 k5 : Option Value} {newId : String} {mN mA : Str → Option Value} {c : Value}
theorem code_entry {tk : Tok} {Q : Fin → Shared → Prop} (FB : ExcAttrBase "Exception" bm) (hC : h.get? C = some (excClassObj nm q C N bs bm true sn sub ab col dd k0 k1 k2 k3 k5 newId)) (hN : h.Ns N mN) (hn : mN "code" = none)
    (hx : h.get? a = some o) (hc : o.cls = .ref C) (hdx : o.dict = some dx) (hd : o.data = .fields vs) (hA : h.Ns dx mA) (hv : mA "code" = some c) (hq : Q (.done (.ret c)) ⟨h, g, d, t, os⟩) :
    wpAny (model prog w) A (Builtin.«object.__getattribute__» ⟨[.ref a, .str "code" tk], []⟩) Q E ⟨h, g, d, t, os⟩ := by
  have hload : ∀ {part : Option Value} {Q' : Obj → Shared → Prop}, Q' o ⟨h, g, d, t, os⟩ → wpAny (model prog w) A (loadPart a part) Q' E ⟨h, g, d, t, os⟩ := fun hq => wpAny_loadPart_at hx hq
  repeat (any_goals (first | assumption | (with_reducible refine wpAny_loadPart_at hx ?_; first | rw [hc] | rw [hd] | skip) | with_reducible refine wpAny_loadPart_at hC ?_ | (with_reducible refine wpAny_typeLookup_exc hC hN FB.mro no_code ?_; rw [hn]) | (with_reducible refine wpAny_nsGet hA ?_; rw [hv]) | rw [hc] | rw [hdx] | wp_step))
theorem check_ga34 {M : Model} {nameV : Value} {Q : Unit → Shared → Prop} (FB : ExcAttrBase "Exception" bm) (hC : h.get? C = some (excClassObj nm q C N bs bm true sn sub ab col dd k0 k1 k2 k3 k5 newId))
    (hx : h.get? a = some o) (hc : o.cls = .ref C) (hq : Q () ⟨h, g, d, t, os⟩) : wpAny M A (checkBuiltinCall "BaseException.__getattribute__" ⟨[.ref a, nameV], []⟩) Q E ⟨h, g, d, t, os⟩ := by
  have hk : builtinKind "BaseException.__getattribute__" = some .slot := by decide +kernel
  have hsplit : splitId "BaseException.__getattribute__" = some ("BaseException", "__getattribute__") := by decide +kernel
  have hcB : (Value.ref C :: bm).contains (.type "BaseException") = true := by rw [List.contains_cons, FB.hasBase, Bool.or_true]
  have ha := F.args_bexc_ga (.ref a) nameV
  simp only [checkBuiltinCall, hk, hsplit]
  refine wpAny_bind ?_
  · unfold isInstance
    repeat (first | (with_reducible refine wpAny_loadPart_at hx ?_; rw [hc]) | (with_reducible refine wpAny_isSubtype_exc hC ?_; rw [hcB]) | wp_step)
    exact hq
theorem code_call {tk : Tok} {R : Result → Shared → Prop} (FB : ExcAttrBase "Exception" bm) (hC : h.get? C = some (excClassObj nm q C N bs bm true sn sub ab col dd k0 k1 k2 k3 k5 newId)) (hN : h.Ns N mN) (hn : mN "code" = none)
    (hx : h.get? a = some o) (hc : o.cls = .ref C) (hdx : o.dict = some dx) (hd : o.data = .fields vs) (hA : h.Ns dx mA) (hv : mA "code" = some c) (hq : R (.ok (.ret c)) ⟨h, g, d, t, os⟩) :
    codeAny (model prog w) A (.call (.builtin "BaseException.__getattribute__") ⟨[.ref a, .str "code" tk], []⟩) R ⟨h, g, d, t, os⟩ :=
  codeAny_call_builtin FB.ga.plain F.entry_bexc_ga (check_ga34 FB hC hx hc (code_entry FB hC hN hn hx hc hdx hd hA hv hq))
theorem code_by {tk : Tok} {cs : Str} {ct : Tok} {fill expr : Bool} {Q : Value → Shared → Prop} (FB : ExcAttrBase "Exception" bm) (hC : h.get? C = some (excClassObj nm q C N bs bm true sn sub ab col dd k0 k1 k2 k3 k5 newId)) (hN : h.Ns N mN) (hn : mN "code" = none)
    (hg1 : mN "__getattribute__" = none) (hg2 : mN "__getattr__" = none)
    (hx : h.get? a = some o) (hc : o.cls = .ref C) (hdx : o.dict = some dx) (hd : o.data = .fields vs) (hA : h.Ns dx mA) (hv : mA "code" = some (.str cs ct)) (hq : Q (.str cs ct) ⟨h, g, d, t, os⟩) :
    wpAny (model prog w) A (getAttrBy (.ref a) (.str "code" tk) fill expr) Q E ⟨h, g, d, t, os⟩ := by
  have f3 := FB.ga.bind (.ref a)
  have hx0 : (expr && onTheHeap (Value.builtin "BaseException.__getattribute__")) = false := by cases expr <;> rfl
  have hx2 : (Value.builtin "BaseException.__getattribute__" == Value.builtin "object.__getattribute__") = false := by decide +kernel
  have hx1 : (onTheHeap (Value.ref C) && Value.builtin "BaseException.__getattribute__" == Value.builtin "object.__getattribute__") = false := by rw [hx2]; rfl
  repeat (any_goals (first | assumption | (with_reducible refine wpAny_loadPart_at hx ?_; rw [hc]) | (with_reducible refine wpAny_typeLookup_exc hC hN FB.mro FB.ga.lookup ?_; rw [hg1]) | (with_reducible refine wpAny_typeLookup_exc hC hN FB.mro FB.noGetattr ?_; rw [hg2]) | wp_step))
  refine code_call FB hC hN hn hx hc hdx hd hA hv ?_
  repeat (any_goals (first | assumption | wp_step))
theorem code_attr {cs : Str} {ct : Tok} {expr : Bool} {Q : Value → Shared → Prop} (FB : ExcAttrBase "Exception" bm) (hC : h.get? C = some (excClassObj nm q C N bs bm true sn sub ab col dd k0 k1 k2 k3 k5 newId)) (hN : h.Ns N mN) (hn : mN "code" = none)
    (hg1 : mN "__getattribute__" = none) (hg2 : mN "__getattr__" = none)
    (hx : h.get? a = some o) (hc : o.cls = .ref C) (hdx : o.dict = some dx) (hd : o.data = .fields vs) (hA : h.Ns dx mA) (hv : mA "code" = some (.str cs ct)) (hq : Q (.str cs ct) ⟨h, g, d, t + 1, os⟩) :
    wpAny (model prog w) A (getAttr (.ref a) "code" expr) Q E ⟨h, g, d, t, os⟩ := by
  unfold getAttr
  repeat (any_goals (first | assumption | with_reducible apply code_by FB hC hN hn hg1 hg2 hx hc hdx hd hA hv | wp_step))
end
theorem x_get {prog : Program} {w : World} {A : Around} {E : Value → Shared → Prop} {s : Shared} {h₀ : Heap} {L e dx : Addr} {m : Str → Option Value} {news : Led} {oe od : Obj} {cs : Str} {ct : Tok} {expr : Bool} {Q : Value → Shared → Prop}
    (F : Fr h₀ L s.heap m) (X : (hd.heap_1 w.params).In h₀) (N : News h₀ L s.heap news) (h1 : (e, oe) ∈ news) (h2 : (dx, od) ∈ news) (C : Cd 34 dx oe) (V : ∃ vs, oe.data = .fields vs) (I : CodeIs (.str cs ct) od) (hq : Q (.str cs ct) { s with toks := s.toks + 1 }) :
    wpAny (model prog w) A (getAttr (.ref e) "code" expr) Q E s := by
  have XS := X.keeps F.keep
  obtain ⟨mN, n1, _, _, n3, _, n4, n5⟩ := ns33 XS
  obtain ⟨vs, hd⟩ := V
  obtain ⟨mA, a1, a2⟩ := I
  obtain ⟨hh, g, d, t, os⟩ := s
  exact code_attr PySem.F.attrBase_Exception (XS 34 _ (by k_is)) n1 n3 n4 n5 (N.get h1) C.1 C.2 hd (a1 _ _ (N.get h2)).ns a2 hq
end
section
theorem words84 : True := by
  k_with_none
  k_with "m k1" => (first | k_asm | ktn_no "m use: Below")
  k_with "m k2" => (first | k_asm | ktn_no "m use: Fr")
  k_with "m k3" => (first | k_asm | ktn_no "m use: In")
  k_with "m k5" => (first | k_asm | ktn_no "m use: Top")
  k_with "m k6" => (first | assumption | exact rfl | ktn_no "m use: kind")
  k_with "m k7" => (first | exact room1 (by with_reducible assumption) (by decide) | exact room2 (by with_reducible assumption) (by decide) | ktr_room | ktn_no "m use: room")
  k_with "m k8" => (first | exact units1 (by with_reducible assumption) (by decide) | exact units2 (by with_reducible assumption) (by decide) | ktr_units | ktn_no "m use: units")
  k_with "m enter" => ((refine wpAny_call ?_; k_dflt cell_enter))
  k_with "m sub" => (first | with_reducible exact fun _ h => h | with_reducible exact fun _ h => List.mem_cons_of_mem _ h | with_reducible exact fun _ h => List.mem_cons_of_mem _ (List.mem_cons_of_mem _ h) | with_reducible exact fun _ h => List.mem_cons_of_mem _ (List.mem_cons_of_mem _ (List.mem_cons_of_mem _ h)) | kcj_all)
  k_with "m drop" => (first | with_reducible assumption | exact cb_drop (by with_reducible assumption) (by k_extra "m sub") | k_asm | (refine' cb_drop (by assumption) (by kcj_all)) | ktn_no "m drop: the ledger")
  k_with "m fact" => (first | assumption | (constructor <;> assumption) | omega | (simp only [decide_eq_true_eq, decide_eq_false_iff_not, Int.not_lt, Int.not_le, gt_iff_lt, ge_iff_le] at *; omega) | ktn_no "m fact")
  k_with "!call ref" => ((k_here; (with_reducible show wpAny _ _ (PySem.call (Value.ref 44) _) _ _ _); k_dflt (refine' Does.use (by k_asm) (does_figs _ _ _ _ (by k_extra "m fact")) (by k_extra "m k1") (by k_extra "m k2") (by k_extra "m k3") (by k_extra "m k5") (by k_extra "m k6") (by k_extra "m k7") (by k_extra "m k8") ?_; intro r9 tl9 h9 tk9 F9 N9 l9 o9; cases o9; (try simp only [List.nil_append] at N9); clear l9; (try dsimp only); (try k_fold))))
  k_with "!call ref" => ((k_here; (with_reducible show wpAny _ _ (PySem.call (Value.ref 51) _) _ _ _); k_dflt (refine' Does.use (by k_asm) (does_rnd _ _ _ _ _ _ (by k_extra "m fact") (by k_extra "m fact") (by k_extra "m fact") (by k_extra "m fact")) (by k_extra "m k1") (by k_extra "m k2") (by k_extra "m k3") (by k_extra "m k5") (by k_extra "m k6") (by k_extra "m k7") (by k_extra "m k8") ?_; intro r9 tl9 h9 tk9 F9 N9 l9 o9; cases o9; (try simp only [List.nil_append] at N9); clear l9; (try dsimp only); (try k_fold))))
  k_with "m lt" => (first | assumption | exact ktn_ltOf (by assumption) | ((with_reducible rename _ ∧ AllLt _ _ => hlt); exact ktn_ltOf hlt.2) | exact ktn_ltOf (And.right (by assumption)) | exact ktn_ltOf (And.right (And.right (by assumption))) | exact ktn_ltOf (And.right (And.right (And.right (by assumption)))) | exact ktn_ltOf (And.right (And.right (And.right (And.right (by assumption))))) | exact ktn_ltOf (And.right (And.right (And.right (And.right (And.right (by assumption)))))) | exact ktn_ltOf (And.right (And.right (And.right (And.right (And.right (And.right (by assumption))))))) | ktn_no "m lt")
  k_with "m back" => ((intro r9 tl9 h9 tk9 F9 N9 l9 o9; cases o9; all_goals ((try simp only [List.nil_append, List.cons_append] at N9); (first | (replace l9 := newLt l9; (try k_lt l9)) | clear l9); (try dsimp only); (try k_fold))))
  k_with "!call ref" => ((k_here; (with_reducible show wpAny _ _ (PySem.call (Value.ref 58) _) _ _ _); k_dflt (refine' Does.use (by k_asm) (does_made _ _ _ _ _ _ _ _ (by k_extra "m fact") (by k_extra "m fact") (by k_extra "m fact")) (by k_extra "m k1") (by k_extra "m k2") (by k_extra "m k3") (by k_extra "m k5") (by k_extra "m k6") (by k_extra "m k7") (by k_extra "m k8") ?_; k_extra "m back")))
  k_with "m sm" => (first | assumption | exact Sm.of45 (by assumption) | exact Sm.p10 (by k_extra "m fact") | exact Sm.lit (by omega) | ktn_no "m sm")
  k_with "!binaryOp Mult int int" => ((k_here; (with_reducible refine PyProof.Rows.mul_int ?_ (IntMulOk.of_bits (Sm.bits (by k_extra "m sm")) (Sm.bits (by k_extra "m sm"))))))
  k_with "!call ref" => ((k_here; (with_reducible show wpAny _ _ (PySem.call (Value.ref 72) _) _ _ _); k_dflt (refine' Does.use (by k_asm) (does_fits _ _ _ _ _ _ (by k_extra "m fact")) (by k_extra "m k1") (by k_extra "m k2") (by k_extra "m k3") (by k_extra "m k5") (by k_extra "m k6") (by k_extra "m k7") (by k_extra "m k8") ?_; k_extra "m back")))
  k_with "!call ref" => ((k_here; (with_reducible show wpAny _ _ (PySem.call (Value.ref 86) _) _ _ _); k_dflt (refine' Does.use (by k_asm) (does_decimal_int _ _ _ _ _ _ (by k_extra "m fact") (by k_extra "m fact")) (by k_extra "m k1") (by k_extra "m k2") (by k_extra "m k3") (by k_extra "m k5") (by k_extra "m k6") (by k_extra "m k7") (by k_extra "m k8") ?_; k_extra "m back")))
  k_with "!call ref" => ((k_here; (with_reducible show wpAny _ _ (PySem.call (Value.ref 86) _) _ _ _); k_dflt (refine' Does.use (by k_asm) (does_decimal_tup _ _ _ _ _ _ _ _ _ (by k_mem) (by k_extra "m fact") (by k_extra "m fact") (by k_extra "m fact")) (by k_extra "m k1") (by k_extra "m k2") (by k_extra "m k3") (by k_extra "m k5") (by k_extra "m k6") (by k_extra "m k7") (by k_extra "m k8") ?_; k_extra "m back")))
  k_with "!call ref" => ((k_here; (with_reducible show wpAny _ _ (PySem.call (Value.ref 94) _) _ _ _); k_dflt (refine' Does.use (by k_asm) (does_negated _ _ _ _ _ _ _ (by k_mem)) (by k_extra "m k1") (by k_extra "m k2") (by k_extra "m k3") (by k_extra "m k5") (by k_extra "m k6") (by k_extra "m k7") (by k_extra "m k8") ?_; k_extra "m back")))
  k_with "!call ref" => ((k_here; (with_reducible show wpAny _ _ (PySem.call (Value.ref 101) _) _ _ _); k_dflt (refine' Does.use (by k_asm) (does_alike _ _ _ _ _ _ _ _ _ _ _ _ (by k_mem) (by k_mem) (by k_extra "m fact") (by k_extra "m fact") (by k_extra "m fact") (by k_extra "m fact")) (by k_extra "m k1") (by k_extra "m k2") (by k_extra "m k3") (by k_extra "m k5") (by k_extra "m k6") (by k_extra "m k7") (by k_extra "m k8") ?_; k_extra "m back")))
  k_with "!call ref" => ((k_here; (with_reducible show wpAny _ _ (PySem.call (Value.ref 108) _) _ _ _); k_dflt (refine' Does.use (by k_asm) (does_add _ _ _ _ _ _ _ _ _ _ _ _ _ _ (by k_mem) (by k_mem) (by k_extra "m fact") (by k_extra "m fact") (by k_extra "m fact") (by k_extra "m fact") (by k_extra "m fact") (by k_extra "m fact")) (by k_extra "m k1") (by k_extra "m k2") (by k_extra "m k3") (by k_extra "m k5") (by k_extra "m k6") (by k_extra "m k7") (by k_extra "m k8") ?_; k_extra "m back")))
  k_with "!call ref" => ((k_here; (with_reducible show wpAny _ _ (PySem.call (Value.ref 122) _) _ _ _); k_dflt (refine' Does.use (by k_asm) (does_mul _ _ _ _ _ _ _ _ _ _ _ _ _ _ (by k_mem) (by k_mem) (by k_extra "m fact") (by k_extra "m fact") (by k_extra "m fact") (by k_extra "m fact") (by k_extra "m fact")) (by k_extra "m k1") (by k_extra "m k2") (by k_extra "m k3") (by k_extra "m k5") (by k_extra "m k6") (by k_extra "m k7") (by k_extra "m k8") ?_; k_extra "m back")))
  k_with "!call ref" => ((k_here; (with_reducible show wpAny _ _ (PySem.call (Value.ref 129) _) _ _ _); k_dflt (refine' Does.use (by k_asm) (does_rest _ _ _ _ _ _ _ _) (by k_extra "m k1") (by k_extra "m k2") (by k_extra "m k3") (by k_extra "m k5") (by k_extra "m k6") (by k_extra "m k7") (by k_extra "m k8") ?_; k_extra "m back")))
  k_with "!call ref" => ((k_here; (with_reducible show wpAny _ _ (PySem.call (Value.ref 164) _) _ _ _); k_dflt (refine' Does.use (by k_asm) (does_is_whole _ _ _ _) (by k_extra "m k1") (by k_extra "m k2") (by k_extra "m k3") (by k_extra "m k5") (by k_extra "m k6") (by k_extra "m k7") (by k_extra "m k8") ?_; k_extra "m back")))
  k_with "!call ref" => ((k_here; (with_reducible show wpAny _ _ (PySem.call (Value.ref 164) _) _ _ _); k_dflt (refine' Does.use (by k_asm) (does_is_dec _ _ _ _ _ _ _ (by k_mem)) (by k_extra "m k1") (by k_extra "m k2") (by k_extra "m k3") (by k_extra "m k5") (by k_extra "m k6") (by k_extra "m k7") (by k_extra "m k8") ?_; k_extra "m back")))
  k_with "!call ref" => ((k_here; (with_reducible show wpAny _ _ (PySem.call (Value.ref 171) _) _ _ _); k_dflt (refine' Does.use (by k_asm) (does_settled _ _ _ _ _ _ _ _ (by k_extra "m fact") (by k_extra "m fact") (by k_extra "m fact")) (by k_extra "m k1") (by k_extra "m k2") (by k_extra "m k3") (by k_extra "m k5") (by k_extra "m k6") (by k_extra "m k7") (by k_extra "m k8") ?_; k_extra "m back")))
  k_with "!exec Raise some none" => (refine Raise_exc rfl ?_)
  k_with "!leaving ref" => ((first | (refine' leave_excE (by assumption) (by assumption) (by assumption) (by assumption) (by assumption) (by assumption) ?_; intro h' R' U'; (try dsimp only at R' U' ⊢)) | ((rename RaisedE _ _ _ _ _ _ _ _ => rkX); refine' leave_onE (by assumption) (by assumption) rkX (by assumption) ?_; intro h' R' U'; (try dsimp only at R' U' ⊢))))
  k_with "!call ref" => (((with_reducible show wpAny _ _ (PySem.call (Value.ref 34) _) _ _ _); refine' exc_use (by k_asm) (by k_extra "m k1") (by k_extra "m k2") (by k_extra "m k3") (by k_extra "m k5") (by k_extra "m k6") (by k_extra "m k7") (by k_extra "m k8") ?_; intro e t dx od h' tk' F' N' C' n1 n2 n3; (try dsimp only)))
  k_with "m esc" => ((intro e dx tc g h' tk' F' U' R'; (try dsimp only)))
  k_with "!call ref" => ((k_here; (with_reducible show wpAny _ _ (PySem.call (Value.ref 79) _) _ _ _); k_dflt (refine' DoesR.use (by k_asm) (raises_whole_of _ _ _ _ _ _ (by assumption) (by k_extra "m fact")) (by k_extra "m k1") (by k_extra "m k2") (by k_extra "m k3") (by k_extra "m k5") (by k_extra "m k6") (by k_extra "m k7") (by k_extra "m k8") ?_; k_extra "m esc")))
  k_with "!call ref" => ((k_here; (with_reducible show wpAny _ _ (PySem.call (Value.ref 79) _) _ _ _); k_dflt (refine' Does.use (by k_asm) (does_whole_of _ _ _ _ _ _ (by assumption) (by k_extra "m fact")) (by k_extra "m k1") (by k_extra "m k2") (by k_extra "m k3") (by k_extra "m k5") (by k_extra "m k6") (by k_extra "m k7") (by k_extra "m k8") ?_; k_extra "m back")))
  k_with "!call ref" => ((k_here; (with_reducible show wpAny _ _ (PySem.call (Value.ref 185) _) _ _ _); k_dflt (refine' DoesR.use (by k_asm) (raises_cut_quotient _ _ _ _ _ _ (by assumption)) (by k_extra "m k1") (by k_extra "m k2") (by k_extra "m k3") (by k_extra "m k5") (by k_extra "m k6") (by k_extra "m k7") (by k_extra "m k8") ?_; k_extra "m esc")))
  k_with "!call ref" => ((k_here; (with_reducible show wpAny _ _ (PySem.call (Value.ref 185) _) _ _ _); k_dflt (refine' Does.use (by k_asm) (does_cut_quotient _ _ _ _ _ _ (by assumption) (by k_extra "m fact") (by k_extra "m fact")) (by k_extra "m k1") (by k_extra "m k2") (by k_extra "m k3") (by k_extra "m k5") (by k_extra "m k6") (by k_extra "m k7") (by k_extra "m k8") ?_; k_extra "m back")))
  trivial
set_option maxRecDepth 100000 in
set_option maxHeartbeats 8000000 in
theorem raises_cut_rest (w : World) (news : Led) (n b : Int) (tn tb : Tok) (hb : b = 0) : DoesR w 12 192 [.int n tn, .int b tb] news "DZ" := by
  unfold DoesR
  intro mean mg mb dp un gd cn cs a ccd cl outer A₀ base h₀ L m s Q E B F X N T hk hd hu esc
  k_extra "m enter"
  k_steps
  all_goals exact esc _ _ _ _ _ _ (by assumption) (by assumption) (by assumption)
set_option maxRecDepth 100000 in
set_option maxHeartbeats 8000000 in
theorem does_cut_rest (w : World) (news : Led) (n b : Int) (tn tb : Tok) (hb : b ≠ 0) (hn : n.natAbs < 100000) (hb2 : b.natAbs < 100000) : Does w 12 192 [.int n tn, .int b tb] news (OkInt (n - b * cutQ n b)) := by
  have hq := cutQ_lt (a := n) hb
  have hs1 : Sm b := Sm.lit (by omega)
  have hs2 : Sm (cutQ n b) := Sm.lit (by omega)
  unfold Does
  intro mean mg mb dp un gd cn cs a ccd cl outer A₀ base h₀ L m s Q E B F X N T hk hd hu ret
  k_extra "m enter"
  k_steps
  all_goals exact ret _ [] _ _ (by k_asm) (by k_extra "m drop") noNew (OkInt.mk _)
end
section
theorem noop85 : True := trivial
end
local macro_rules | `(tactic| k_ne) => `(tactic| k_extra "m ne")
section
theorem words86 : True := by
  k_with_none
  k_with "m k1" => (first | k_asm | ktn_no "m use: Below")
  k_with "m k2" => (first | k_asm | ktn_no "m use: Fr")
  k_with "m k3" => (first | k_asm | ktn_no "m use: In")
  k_with "m k5" => (first | k_asm | ktn_no "m use: Top")
  k_with "m k6" => (first | assumption | exact rfl | ktn_no "m use: kind")
  k_with "m k7" => (first | exact room1 (by with_reducible assumption) (by decide) | exact room2 (by with_reducible assumption) (by decide) | ktr_room | ktn_no "m use: room")
  k_with "m k8" => (first | exact units1 (by with_reducible assumption) (by decide) | exact units2 (by with_reducible assumption) (by decide) | ktr_units | ktn_no "m use: units")
  k_with "m enter" => ((refine wpAny_call ?_; k_dflt cell_enter))
  k_with "m sub" => (first | with_reducible exact fun _ h => h | with_reducible exact fun _ h => List.mem_cons_of_mem _ h | with_reducible exact fun _ h => List.mem_cons_of_mem _ (List.mem_cons_of_mem _ h) | with_reducible exact fun _ h => List.mem_cons_of_mem _ (List.mem_cons_of_mem _ (List.mem_cons_of_mem _ h)) | kcj_all)
  k_with "m drop" => (first | with_reducible assumption | exact cb_drop (by with_reducible assumption) (by k_extra "m sub") | k_asm | (refine' cb_drop (by assumption) (by kcj_all)) | ktn_no "m drop: the ledger")
  k_with "m fact" => (first | assumption | (constructor <;> assumption) | omega | (simp only [decide_eq_true_eq, decide_eq_false_iff_not, Int.not_lt, Int.not_le, gt_iff_lt, ge_iff_le] at *; omega) | ktn_no "m fact")
  k_with "!call ref" => ((k_here; (with_reducible show wpAny _ _ (PySem.call (Value.ref 44) _) _ _ _); k_dflt (refine' Does.use (by k_asm) (does_figs _ _ _ _ (by k_extra "m fact")) (by k_extra "m k1") (by k_extra "m k2") (by k_extra "m k3") (by k_extra "m k5") (by k_extra "m k6") (by k_extra "m k7") (by k_extra "m k8") ?_; intro r9 tl9 h9 tk9 F9 N9 l9 o9; cases o9; (try simp only [List.nil_append] at N9); clear l9; (try dsimp only); (try k_fold))))
  k_with "!call ref" => ((k_here; (with_reducible show wpAny _ _ (PySem.call (Value.ref 51) _) _ _ _); k_dflt (refine' Does.use (by k_asm) (does_rnd _ _ _ _ _ _ (by k_extra "m fact") (by k_extra "m fact") (by k_extra "m fact") (by k_extra "m fact")) (by k_extra "m k1") (by k_extra "m k2") (by k_extra "m k3") (by k_extra "m k5") (by k_extra "m k6") (by k_extra "m k7") (by k_extra "m k8") ?_; intro r9 tl9 h9 tk9 F9 N9 l9 o9; cases o9; (try simp only [List.nil_append] at N9); clear l9; (try dsimp only); (try k_fold))))
  k_with "m lt" => (first | assumption | exact ktn_ltOf (by assumption) | ((with_reducible rename _ ∧ AllLt _ _ => hlt); exact ktn_ltOf hlt.2) | exact ktn_ltOf (And.right (by assumption)) | exact ktn_ltOf (And.right (And.right (by assumption))) | exact ktn_ltOf (And.right (And.right (And.right (by assumption)))) | exact ktn_ltOf (And.right (And.right (And.right (And.right (by assumption))))) | exact ktn_ltOf (And.right (And.right (And.right (And.right (And.right (by assumption)))))) | exact ktn_ltOf (And.right (And.right (And.right (And.right (And.right (And.right (by assumption))))))) | ktn_no "m lt")
  k_with "m back" => ((intro r9 tl9 h9 tk9 F9 N9 l9 o9; cases o9; all_goals ((try simp only [List.nil_append, List.cons_append] at N9); (first | (replace l9 := newLt l9; (try k_lt l9)) | clear l9); (try dsimp only); (try k_fold))))
  k_with "!call ref" => ((k_here; (with_reducible show wpAny _ _ (PySem.call (Value.ref 58) _) _ _ _); k_dflt (refine' Does.use (by k_asm) (does_made _ _ _ _ _ _ _ _ (by k_extra "m fact") (by k_extra "m fact") (by k_extra "m fact")) (by k_extra "m k1") (by k_extra "m k2") (by k_extra "m k3") (by k_extra "m k5") (by k_extra "m k6") (by k_extra "m k7") (by k_extra "m k8") ?_; k_extra "m back")))
  k_with "m sm" => (first | assumption | exact Sm.of45 (by assumption) | exact Sm.p10 (by k_extra "m fact") | exact Sm.lit (by omega) | ktn_no "m sm")
  k_with "!binaryOp Mult int int" => ((k_here; (with_reducible refine PyProof.Rows.mul_int ?_ (IntMulOk.of_bits (Sm.bits (by k_extra "m sm")) (Sm.bits (by k_extra "m sm"))))))
  k_with "!call ref" => ((k_here; (with_reducible show wpAny _ _ (PySem.call (Value.ref 72) _) _ _ _); k_dflt (refine' Does.use (by k_asm) (does_fits _ _ _ _ _ _ (by k_extra "m fact")) (by k_extra "m k1") (by k_extra "m k2") (by k_extra "m k3") (by k_extra "m k5") (by k_extra "m k6") (by k_extra "m k7") (by k_extra "m k8") ?_; k_extra "m back")))
  k_with "!call ref" => ((k_here; (with_reducible show wpAny _ _ (PySem.call (Value.ref 86) _) _ _ _); k_dflt (refine' Does.use (by k_asm) (does_decimal_int _ _ _ _ _ _ (by k_extra "m fact") (by k_extra "m fact")) (by k_extra "m k1") (by k_extra "m k2") (by k_extra "m k3") (by k_extra "m k5") (by k_extra "m k6") (by k_extra "m k7") (by k_extra "m k8") ?_; k_extra "m back")))
  k_with "!call ref" => ((k_here; (with_reducible show wpAny _ _ (PySem.call (Value.ref 86) _) _ _ _); k_dflt (refine' Does.use (by k_asm) (does_decimal_tup _ _ _ _ _ _ _ _ _ (by k_mem) (by k_extra "m fact") (by k_extra "m fact") (by k_extra "m fact")) (by k_extra "m k1") (by k_extra "m k2") (by k_extra "m k3") (by k_extra "m k5") (by k_extra "m k6") (by k_extra "m k7") (by k_extra "m k8") ?_; k_extra "m back")))
  k_with "!call ref" => ((k_here; (with_reducible show wpAny _ _ (PySem.call (Value.ref 94) _) _ _ _); k_dflt (refine' Does.use (by k_asm) (does_negated _ _ _ _ _ _ _ (by k_mem)) (by k_extra "m k1") (by k_extra "m k2") (by k_extra "m k3") (by k_extra "m k5") (by k_extra "m k6") (by k_extra "m k7") (by k_extra "m k8") ?_; k_extra "m back")))
  k_with "!call ref" => ((k_here; (with_reducible show wpAny _ _ (PySem.call (Value.ref 101) _) _ _ _); k_dflt (refine' Does.use (by k_asm) (does_alike _ _ _ _ _ _ _ _ _ _ _ _ (by k_mem) (by k_mem) (by k_extra "m fact") (by k_extra "m fact") (by k_extra "m fact") (by k_extra "m fact")) (by k_extra "m k1") (by k_extra "m k2") (by k_extra "m k3") (by k_extra "m k5") (by k_extra "m k6") (by k_extra "m k7") (by k_extra "m k8") ?_; k_extra "m back")))
  k_with "!call ref" => ((k_here; (with_reducible show wpAny _ _ (PySem.call (Value.ref 108) _) _ _ _); k_dflt (refine' Does.use (by k_asm) (does_add _ _ _ _ _ _ _ _ _ _ _ _ _ _ (by k_mem) (by k_mem) (by k_extra "m fact") (by k_extra "m fact") (by k_extra "m fact") (by k_extra "m fact") (by k_extra "m fact") (by k_extra "m fact")) (by k_extra "m k1") (by k_extra "m k2") (by k_extra "m k3") (by k_extra "m k5") (by k_extra "m k6") (by k_extra "m k7") (by k_extra "m k8") ?_; k_extra "m back")))
  k_with "!call ref" => ((k_here; (with_reducible show wpAny _ _ (PySem.call (Value.ref 122) _) _ _ _); k_dflt (refine' Does.use (by k_asm) (does_mul _ _ _ _ _ _ _ _ _ _ _ _ _ _ (by k_mem) (by k_mem) (by k_extra "m fact") (by k_extra "m fact") (by k_extra "m fact") (by k_extra "m fact") (by k_extra "m fact")) (by k_extra "m k1") (by k_extra "m k2") (by k_extra "m k3") (by k_extra "m k5") (by k_extra "m k6") (by k_extra "m k7") (by k_extra "m k8") ?_; k_extra "m back")))
  k_with "!call ref" => ((k_here; (with_reducible show wpAny _ _ (PySem.call (Value.ref 129) _) _ _ _); k_dflt (refine' Does.use (by k_asm) (does_rest _ _ _ _ _ _ _ _) (by k_extra "m k1") (by k_extra "m k2") (by k_extra "m k3") (by k_extra "m k5") (by k_extra "m k6") (by k_extra "m k7") (by k_extra "m k8") ?_; k_extra "m back")))
  k_with "!call ref" => ((k_here; (with_reducible show wpAny _ _ (PySem.call (Value.ref 164) _) _ _ _); k_dflt (refine' Does.use (by k_asm) (does_is_whole _ _ _ _) (by k_extra "m k1") (by k_extra "m k2") (by k_extra "m k3") (by k_extra "m k5") (by k_extra "m k6") (by k_extra "m k7") (by k_extra "m k8") ?_; k_extra "m back")))
  k_with "!call ref" => ((k_here; (with_reducible show wpAny _ _ (PySem.call (Value.ref 164) _) _ _ _); k_dflt (refine' Does.use (by k_asm) (does_is_dec _ _ _ _ _ _ _ (by k_mem)) (by k_extra "m k1") (by k_extra "m k2") (by k_extra "m k3") (by k_extra "m k5") (by k_extra "m k6") (by k_extra "m k7") (by k_extra "m k8") ?_; k_extra "m back")))
  k_with "!call ref" => ((k_here; (with_reducible show wpAny _ _ (PySem.call (Value.ref 171) _) _ _ _); k_dflt (refine' Does.use (by k_asm) (does_settled _ _ _ _ _ _ _ _ (by k_extra "m fact") (by k_extra "m fact") (by k_extra "m fact")) (by k_extra "m k1") (by k_extra "m k2") (by k_extra "m k3") (by k_extra "m k5") (by k_extra "m k6") (by k_extra "m k7") (by k_extra "m k8") ?_; k_extra "m back")))
  k_with "!call ref" => ((k_here; (with_reducible show wpAny _ _ (PySem.call (Value.ref 178) _) _ _ _); k_dflt (refine' Does.use (by k_asm) (does_whole _ _ _ _ _ _ _ _ _ _ _ _ _ (by assumption) (by k_extra "m fact") (by k_extra "m fact") (by k_extra "m fact") (by k_extra "m fact") (by k_extra "m fact")) (by k_extra "m k1") (by k_extra "m k2") (by k_extra "m k3") (by k_extra "m k5") (by k_extra "m k6") (by k_extra "m k7") (by k_extra "m k8") ?_; k_extra "m back")))
  k_with "!exec Raise some none" => (refine Raise_exc rfl ?_)
  k_with "!leaving ref" => ((first | (refine' leave_excE (by assumption) (by assumption) (by assumption) (by assumption) (by assumption) (by assumption) ?_; intro h' R' U'; (try dsimp only at R' U' ⊢)) | ((rename RaisedE _ _ _ _ _ _ _ _ => rkX); refine' leave_onE (by assumption) (by assumption) rkX (by assumption) ?_; intro h' R' U'; (try dsimp only at R' U' ⊢))))
  k_with "!call ref" => (((with_reducible show wpAny _ _ (PySem.call (Value.ref 34) _) _ _ _); refine' exc_use (by k_asm) (by k_extra "m k1") (by k_extra "m k2") (by k_extra "m k3") (by k_extra "m k5") (by k_extra "m k6") (by k_extra "m k7") (by k_extra "m k8") ?_; intro e t dx od h' tk' F' N' C' n1 n2 n3; (try dsimp only)))
  k_with "m esc" => ((intro e dx tc g h' tk' F' U' R'; (try dsimp only)))
  k_with "!call ref" => ((k_here; (with_reducible show wpAny _ _ (PySem.call (Value.ref 79) _) _ _ _); k_dflt (refine' DoesR.use (by k_asm) (raises_whole_of _ _ _ _ _ _ (by assumption) (by k_extra "m fact")) (by k_extra "m k1") (by k_extra "m k2") (by k_extra "m k3") (by k_extra "m k5") (by k_extra "m k6") (by k_extra "m k7") (by k_extra "m k8") ?_; k_extra "m esc")))
  k_with "!call ref" => ((k_here; (with_reducible show wpAny _ _ (PySem.call (Value.ref 79) _) _ _ _); k_dflt (refine' Does.use (by k_asm) (does_whole_of _ _ _ _ _ _ (by assumption) (by k_extra "m fact")) (by k_extra "m k1") (by k_extra "m k2") (by k_extra "m k3") (by k_extra "m k5") (by k_extra "m k6") (by k_extra "m k7") (by k_extra "m k8") ?_; k_extra "m back")))
  k_with "!call ref" => ((k_here; (with_reducible show wpAny _ _ (PySem.call (Value.ref 185) _) _ _ _); k_dflt (refine' DoesR.use (by k_asm) (raises_cut_quotient _ _ _ _ _ _ (by assumption)) (by k_extra "m k1") (by k_extra "m k2") (by k_extra "m k3") (by k_extra "m k5") (by k_extra "m k6") (by k_extra "m k7") (by k_extra "m k8") ?_; k_extra "m esc")))
  k_with "!call ref" => ((k_here; (with_reducible show wpAny _ _ (PySem.call (Value.ref 185) _) _ _ _); k_dflt (refine' Does.use (by k_asm) (does_cut_quotient _ _ _ _ _ _ (by assumption) (by k_extra "m fact") (by k_extra "m fact")) (by k_extra "m k1") (by k_extra "m k2") (by k_extra "m k3") (by k_extra "m k5") (by k_extra "m k6") (by k_extra "m k7") (by k_extra "m k8") ?_; k_extra "m back")))
  k_with "!call ref" => ((k_here; (with_reducible show wpAny _ _ (PySem.call (Value.ref 192) _) _ _ _); k_dflt (refine' DoesR.use (by k_asm) (raises_cut_rest _ _ _ _ _ _ (by assumption)) (by k_extra "m k1") (by k_extra "m k2") (by k_extra "m k3") (by k_extra "m k5") (by k_extra "m k6") (by k_extra "m k7") (by k_extra "m k8") ?_; k_extra "m esc")))
  k_with "!call ref" => ((k_here; (with_reducible show wpAny _ _ (PySem.call (Value.ref 192) _) _ _ _); k_dflt (refine' Does.use (by k_asm) (does_cut_rest _ _ _ _ _ _ (by assumption) (by k_extra "m fact") (by k_extra "m fact")) (by k_extra "m k1") (by k_extra "m k2") (by k_extra "m k3") (by k_extra "m k5") (by k_extra "m k6") (by k_extra "m k7") (by k_extra "m k8") ?_; k_extra "m back")))
  trivial
inductive OpC (x y : Int) : Str → Int → Prop
  | cut : OpC x y "\\" (cutQ x y)
  | mod : OpC x y "MOD" (x - y * cutQ x y)
theorem OpC.lt {x y z : Int} {op : Str} (h : OpC x y op z) (hy : y ≠ 0) (hx : x.natAbs ≤ 300) (hys : y.natAbs ≤ 3) : z.natAbs ≤ 1200 := by
  have hq := cutQ_lt (a := x) hy
  cases h with
  | cut => omega
  | mod =>
    have : (y * cutQ x y).natAbs ≤ 3 * 300 := by rw [Int.natAbs_mul]; exact Nat.mul_le_mul hys (by omega)
    omega
set_option maxRecDepth 100000 in
set_option maxHeartbeats 8000000 in
theorem does_rk_cut (w : World) (news : Led) (x y bits d : Int) (to tx ty tb td : Tok) (hx : fitsB x bits = true) (hy : fitsB y bits = true) (hy0 : y ≠ 0) (hxs : x.natAbs ≤ 300) (hys : y.natAbs ≤ 3) (hb : 1 ≤ bits ∧ bits ≤ 64) (hdd : 1 ≤ d ∧ d ≤ 12) :
    Does w 16 220 [.str "\\" to, .int x tx, .int y ty, .int bits tb, .int d td] news (OkKept (cutQ x y) bits d) := by
  have hz := (OpC.cut (x := x) (y := y)).lt hy0 hxs hys
  have hzs : (cutQ x y).natAbs < 10 ^ 45 := by omega
  have h1 : x.natAbs < 100000 := by omega
  have h2 : y.natAbs < 100000 := by omega
  unfold Does
  intro mean mg mb dp un gd cn cs a ccd cl outer A₀ base h₀ L m s Q E B F X N T hk hd hu ret
  k_extra "m enter"
  k_steps
  all_goals first
    | exact ret _ _ _ _ (by k_asm) (newsHead (by assumption) (by k_extra "m sub")) (oneNew (by k_extra "m lt")) (OkKept.dec _ _ _ (by assumption))
    | exact ret _ [] _ _ (by k_asm) (by k_extra "m drop") noNew (OkKept.whole _ (by assumption))
set_option maxRecDepth 100000 in
set_option maxHeartbeats 8000000 in
theorem raises_cut_ov (w : World) (news : Led) (x y bits d : Int) (to tx ty tb td : Tok) (hx : fitsB x bits = false) (hb : 1 ≤ bits ∧ bits ≤ 64) :
    DoesR w 16 220 [.str "\\" to, .int x tx, .int y ty, .int bits tb, .int d td] news "OV" := by
  unfold DoesR
  intro mean mg mb dp un gd cn cs a ccd cl outer A₀ base h₀ L m s Q E B F X N T hk hd hu esc
  k_extra "m enter"
  k_steps
  all_goals exact esc _ _ _ _ _ _ (by assumption) (by assumption) (RaisedE.sub (by assumption) (by kcj_all))
set_option maxRecDepth 100000 in
set_option maxHeartbeats 8000000 in
theorem raises_cut_dz (w : World) (news : Led) (x y bits d : Int) (to tx ty tb td : Tok) (hx : fitsB x bits = true) (hy : fitsB y bits = true) (hy0 : y = 0) (hb : 1 ≤ bits ∧ bits ≤ 64) :
    DoesR w 16 220 [.str "\\" to, .int x tx, .int y ty, .int bits tb, .int d td] news "DZ" := by
  unfold DoesR
  intro mean mg mb dp un gd cn cs a ccd cl outer A₀ base h₀ L m s Q E B F X N T hk hd hu esc
  k_extra "m enter"
  k_steps
  all_goals exact esc _ _ _ _ _ _ (by assumption) (by assumption) (RaisedE.sub (by assumption) (by kcj_all))
set_option maxRecDepth 100000 in
set_option maxHeartbeats 8000000 in
theorem does_rk_mod (w : World) (news : Led) (x y bits d : Int) (to tx ty tb td : Tok) (hx : fitsB x bits = true) (hy : fitsB y bits = true) (hy0 : y ≠ 0) (hxs : x.natAbs ≤ 300) (hys : y.natAbs ≤ 3) (hb : 1 ≤ bits ∧ bits ≤ 64) (hdd : 1 ≤ d ∧ d ≤ 12) :
    Does w 16 220 [.str "MOD" to, .int x tx, .int y ty, .int bits tb, .int d td] news (OkKept (x - y * cutQ x y) bits d) := by
  have hz := (OpC.mod (x := x) (y := y)).lt hy0 hxs hys
  have hzs : (x - y * cutQ x y).natAbs < 10 ^ 45 := by omega
  have h1 : x.natAbs < 100000 := by omega
  have h2 : y.natAbs < 100000 := by omega
  unfold Does
  intro mean mg mb dp un gd cn cs a ccd cl outer A₀ base h₀ L m s Q E B F X N T hk hd hu ret
  k_extra "m enter"
  k_steps
  all_goals first
    | exact ret _ _ _ _ (by k_asm) (newsHead (by assumption) (by k_extra "m sub")) (oneNew (by k_extra "m lt")) (OkKept.dec _ _ _ (by assumption))
    | exact ret _ [] _ _ (by k_asm) (by k_extra "m drop") noNew (OkKept.whole _ (by assumption))
set_option maxRecDepth 100000 in
set_option maxHeartbeats 8000000 in
theorem raises_mod_ov (w : World) (news : Led) (x y bits d : Int) (to tx ty tb td : Tok) (hx : fitsB x bits = false) (hb : 1 ≤ bits ∧ bits ≤ 64) :
    DoesR w 16 220 [.str "MOD" to, .int x tx, .int y ty, .int bits tb, .int d td] news "OV" := by
  unfold DoesR
  intro mean mg mb dp un gd cn cs a ccd cl outer A₀ base h₀ L m s Q E B F X N T hk hd hu esc
  k_extra "m enter"
  k_steps
  all_goals exact esc _ _ _ _ _ _ (by assumption) (by assumption) (RaisedE.sub (by assumption) (by kcj_all))
set_option maxRecDepth 100000 in
set_option maxHeartbeats 8000000 in
theorem raises_mod_dz (w : World) (news : Led) (x y bits d : Int) (to tx ty tb td : Tok) (hx : fitsB x bits = true) (hy : fitsB y bits = true) (hy0 : y = 0) (hb : 1 ≤ bits ∧ bits ≤ 64) :
    DoesR w 16 220 [.str "MOD" to, .int x tx, .int y ty, .int bits tb, .int d td] news "DZ" := by
  unfold DoesR
  intro mean mg mb dp un gd cn cs a ccd cl outer A₀ base h₀ L m s Q E B F X N T hk hd hu esc
  k_extra "m enter"
  k_steps
  all_goals exact esc _ _ _ _ _ _ (by assumption) (by assumption) (RaisedE.sub (by assumption) (by kcj_all))
/-- reckoned with «\» or «MOD»: one of three ways -/
theorem does_rk_c {w : World} {news : Led} {op : Str} {x y z : Int} (H : OpC x y op z) (bits d : Int) (to tx ty tb td : Tok) (hx : fitsB x bits = true) (hy : fitsB y bits = true) (hy0 : y ≠ 0) (hxs : x.natAbs ≤ 300) (hys : y.natAbs ≤ 3) (hb : 1 ≤ bits ∧ bits ≤ 64) (hdd : 1 ≤ d ∧ d ≤ 12) :
    Does w 16 220 [.str op to, .int x tx, .int y ty, .int bits tb, .int d td] news (OkKept z bits d) := by
  cases H with
  | cut => exact does_rk_cut w news x y bits d to tx ty tb td hx hy hy0 hxs hys hb hdd
  | mod => exact does_rk_mod w news x y bits d to tx ty tb td hx hy hy0 hxs hys hb hdd
theorem raises_c_ov {w : World} {news : Led} {op : Str} {x y z : Int} (H : OpC x y op z) (bits d : Int) (to tx ty tb td : Tok) (hx : fitsB x bits = false) (hb : 1 ≤ bits ∧ bits ≤ 64) :
    DoesR w 16 220 [.str op to, .int x tx, .int y ty, .int bits tb, .int d td] news "OV" := by
  cases H with
  | cut => exact raises_cut_ov w news x y bits d to tx ty tb td hx hb
  | mod => exact raises_mod_ov w news x y bits d to tx ty tb td hx hb
theorem raises_c_dz {w : World} {news : Led} {op : Str} {x y z : Int} (H : OpC x y op z) (bits d : Int) (to tx ty tb td : Tok) (hx : fitsB x bits = true) (hy : fitsB y bits = true) (hy0 : y = 0) (hb : 1 ≤ bits ∧ bits ≤ 64) :
    DoesR w 16 220 [.str op to, .int x tx, .int y ty, .int bits tb, .int d td] news "DZ" := by
  cases H with
  | cut => exact raises_cut_dz w news x y bits d to tx ty tb td hx hy hy0 hb
  | mod => exact raises_mod_dz w news x y bits d to tx ty tb td hx hy hy0 hb
end
section
theorem item0 : Txt.item (Str.ofString "+-*/") 0 = Str.ofString "+" := by decide +kernel
theorem item1 : Txt.item (Str.ofString "+-*/") 1 = Str.ofString "-" := by decide +kernel
theorem item2 : Txt.item (Str.ofString "+-*/") 2 = Str.ofString "*" := by decide +kernel
theorem item3 : Txt.item (Str.ofString "+-*/") 3 = Str.ofString "/" := by decide +kernel
inductive OkFig (x c e c' e' d : Int) : Value → Led → Prop
  | mk (a : Addr) (t u : Tok) (f g : Int) (h : FigV x c e c' e' d f g) : OkFig x c e c' e' d (.ref a) [(a, tup2 f t g u)]
theorem OkFig.of {x c e c' e' d : Int} {r : Value} {tl : Led} (o : OkTup (madeC (figS x c e c' e' d) (figX x c e c' e' d) d) (madeE (figS x c e c' e' d) (figX x c e c' e' d) d) r tl) : OkFig x c e c' e' d r tl := by
  cases o with
  | mk a t u => exact .mk a t u _ _ ⟨rfl, rfl⟩
theorem does_rk_fig (w : World) (news : Led) (x : Int) (a b : Addr) (c e c' e' bits d : Int) (to tb td tc te tc' te' : Tok) (h0 : 0 ≤ x) (h4 : x < 4) (ha : (a, tup2 c tc e te) ∈ news) (hb : (b, tup2 c' tc' e' te') ∈ news) (G : FigN c e) (G' : FigN c' e') (hd : 3 ≤ d ∧ d ≤ 12) :
    Does w 14 220 [.str (Txt.item (Str.ofString "+-*/") x) to, .ref a, .ref b, .int bits tb, .int d td] news (OkFig x c e c' e' d) := by
  have i1 := G.same hd.1
  have i2 := G'.same hd.1
  have g1 := G
  have g2 := G'
  obtain ⟨p1, p2, p3, p4, _, _⟩ := g1
  obtain ⟨q1, q2, q3, q4, _, _⟩ := g2
  have K1 : Kind news d (.ref a) c e false := by
    have := Kind.dec (news := news) (d := d) a c e tc te ha (by omega) (by omega)
    rwa [i1.1, i1.2] at this
  have K2 : Kind news d (.ref b) c' e' false := by
    have := Kind.dec (news := news) (d := d) b c' e' tc' te' hb (by omega) (by omega)
    rwa [i2.1, i2.2] at this
  have hX : -45 ≤ minI e e' ∧ minI e e' ≤ 45 := by have := minI_le e e'; omega
  obtain h | h | h | h : x = 0 ∨ x = 1 ∨ x = 2 ∨ x = 3 := by omega
  · subst h
    rw [item0]
    refine Does.mono ?_ (Nat.le_refl _) fun r tl => OkFig.of
    exact does_rk_dec w news _ _ _ c e c' e' _ _ bits d false false to tb td K1 K2 rfl (.add) (by omega) (by omega) (by omega) (by omega) hX (addS_fig (by omega) (by omega) (by omega) (by omega)) (by omega)
  · subst h
    rw [item1]
    refine Does.mono ?_ (Nat.le_refl _) fun r tl => OkFig.of
    exact does_rk_dec w news _ _ _ c e c' e' _ _ bits d false false to tb td K1 K2 rfl (.sub) (by omega) (by omega) (by omega) (by omega) hX (addS_fig (by omega) (by omega) (by omega) (by omega)) (by omega)
  · subst h
    rw [item2]
    have hm : (c * c').natAbs ≤ 900 * 900 := by rw [Int.natAbs_mul]; exact Nat.mul_le_mul (by omega) (by omega)
    refine Does.mono ?_ (Nat.le_refl _) fun r tl => OkFig.of
    exact does_rk_dec w news _ _ _ c e c' e' (c * c') (e + e') bits d false false to tb td K1 K2 rfl (.mul) (by omega) (by omega) (by omega) (by omega) (by omega) (by omega) (by omega)
  · subst h
    rw [item3]
    refine Does.mono ?_ (Nat.le_refl _) fun r tl => OkFig.of
    exact does_rk_div w news a b c e c' e' bits d to tb td tc te tc' te' ha hb i1 i2 (by omega) (by omega) (by omega) (by omega) (by omega)
end
section
theorem words88 : True := by
  k_with_none
  k_with "m k1" => (first | k_asm | ktn_no "m use: Below")
  k_with "m k2" => (first | k_asm | ktn_no "m use: Fr")
  k_with "m k3" => (first | k_asm | ktn_no "m use: In")
  k_with "m k5" => (first | k_asm | ktn_no "m use: Top")
  k_with "m k6" => (first | assumption | exact rfl | ktn_no "m use: kind")
  k_with "m k7" => (first | exact room1 (by with_reducible assumption) (by decide) | exact room2 (by with_reducible assumption) (by decide) | ktr_room | ktn_no "m use: room")
  k_with "m k8" => (first | exact units1 (by with_reducible assumption) (by decide) | exact units2 (by with_reducible assumption) (by decide) | ktr_units | ktn_no "m use: units")
  k_with "m enter" => ((refine wpAny_call ?_; k_dflt cell_enter))
  k_with "m sub" => (first | with_reducible exact fun _ h => h | with_reducible exact fun _ h => List.mem_cons_of_mem _ h | with_reducible exact fun _ h => List.mem_cons_of_mem _ (List.mem_cons_of_mem _ h) | with_reducible exact fun _ h => List.mem_cons_of_mem _ (List.mem_cons_of_mem _ (List.mem_cons_of_mem _ h)) | kcj_all)
  k_with "m drop" => (first | with_reducible assumption | exact cb_drop (by with_reducible assumption) (by k_extra "m sub") | k_asm | (refine' cb_drop (by assumption) (by kcj_all)) | ktn_no "m drop: the ledger")
  k_with "m fact" => (first | assumption | (constructor <;> assumption) | omega | (simp only [decide_eq_true_eq, decide_eq_false_iff_not, Int.not_lt, Int.not_le, gt_iff_lt, ge_iff_le] at *; omega) | ktn_no "m fact")
  k_with "!call ref" => ((k_here; (with_reducible show wpAny _ _ (PySem.call (Value.ref 44) _) _ _ _); k_dflt (refine' Does.use (by k_asm) (does_figs _ _ _ _ (by k_extra "m fact")) (by k_extra "m k1") (by k_extra "m k2") (by k_extra "m k3") (by k_extra "m k5") (by k_extra "m k6") (by k_extra "m k7") (by k_extra "m k8") ?_; intro r9 tl9 h9 tk9 F9 N9 l9 o9; cases o9; (try simp only [List.nil_append] at N9); clear l9; (try dsimp only); (try k_fold))))
  k_with "!call ref" => ((k_here; (with_reducible show wpAny _ _ (PySem.call (Value.ref 51) _) _ _ _); k_dflt (refine' Does.use (by k_asm) (does_rnd _ _ _ _ _ _ (by k_extra "m fact") (by k_extra "m fact") (by k_extra "m fact") (by k_extra "m fact")) (by k_extra "m k1") (by k_extra "m k2") (by k_extra "m k3") (by k_extra "m k5") (by k_extra "m k6") (by k_extra "m k7") (by k_extra "m k8") ?_; intro r9 tl9 h9 tk9 F9 N9 l9 o9; cases o9; (try simp only [List.nil_append] at N9); clear l9; (try dsimp only); (try k_fold))))
  k_with "m lt" => (first | assumption | exact ktn_ltOf (by assumption) | ((with_reducible rename _ ∧ AllLt _ _ => hlt); exact ktn_ltOf hlt.2) | exact ktn_ltOf (And.right (by assumption)) | exact ktn_ltOf (And.right (And.right (by assumption))) | exact ktn_ltOf (And.right (And.right (And.right (by assumption)))) | exact ktn_ltOf (And.right (And.right (And.right (And.right (by assumption))))) | exact ktn_ltOf (And.right (And.right (And.right (And.right (And.right (by assumption)))))) | exact ktn_ltOf (And.right (And.right (And.right (And.right (And.right (And.right (by assumption))))))) | ktn_no "m lt")
  k_with "m back" => ((intro r9 tl9 h9 tk9 F9 N9 l9 o9; cases o9; all_goals ((try simp only [List.nil_append, List.cons_append] at N9); (first | (replace l9 := newLt l9; (try k_lt l9)) | clear l9); (try dsimp only); (try k_fold))))
  k_with "!call ref" => ((k_here; (with_reducible show wpAny _ _ (PySem.call (Value.ref 58) _) _ _ _); k_dflt (refine' Does.use (by k_asm) (does_made _ _ _ _ _ _ _ _ (by k_extra "m fact") (by k_extra "m fact") (by k_extra "m fact")) (by k_extra "m k1") (by k_extra "m k2") (by k_extra "m k3") (by k_extra "m k5") (by k_extra "m k6") (by k_extra "m k7") (by k_extra "m k8") ?_; k_extra "m back")))
  k_with "m sm" => (first | assumption | exact Sm.of45 (by assumption) | exact Sm.p10 (by k_extra "m fact") | exact Sm.lit (by omega) | ktn_no "m sm")
  k_with "!binaryOp Mult int int" => ((k_here; (with_reducible refine PyProof.Rows.mul_int ?_ (IntMulOk.of_bits (Sm.bits (by k_extra "m sm")) (Sm.bits (by k_extra "m sm"))))))
  k_with "!call ref" => ((k_here; (with_reducible show wpAny _ _ (PySem.call (Value.ref 72) _) _ _ _); k_dflt (refine' Does.use (by k_asm) (does_fits _ _ _ _ _ _ (by k_extra "m fact")) (by k_extra "m k1") (by k_extra "m k2") (by k_extra "m k3") (by k_extra "m k5") (by k_extra "m k6") (by k_extra "m k7") (by k_extra "m k8") ?_; k_extra "m back")))
  k_with "!call ref" => ((k_here; (with_reducible show wpAny _ _ (PySem.call (Value.ref 86) _) _ _ _); k_dflt (refine' Does.use (by k_asm) (does_decimal_int _ _ _ _ _ _ (by k_extra "m fact") (by k_extra "m fact")) (by k_extra "m k1") (by k_extra "m k2") (by k_extra "m k3") (by k_extra "m k5") (by k_extra "m k6") (by k_extra "m k7") (by k_extra "m k8") ?_; k_extra "m back")))
  k_with "!call ref" => ((k_here; (with_reducible show wpAny _ _ (PySem.call (Value.ref 86) _) _ _ _); k_dflt (refine' Does.use (by k_asm) (does_decimal_tup _ _ _ _ _ _ _ _ _ (by k_mem) (by k_extra "m fact") (by k_extra "m fact") (by k_extra "m fact")) (by k_extra "m k1") (by k_extra "m k2") (by k_extra "m k3") (by k_extra "m k5") (by k_extra "m k6") (by k_extra "m k7") (by k_extra "m k8") ?_; k_extra "m back")))
  k_with "!call ref" => ((k_here; (with_reducible show wpAny _ _ (PySem.call (Value.ref 94) _) _ _ _); k_dflt (refine' Does.use (by k_asm) (does_negated _ _ _ _ _ _ _ (by k_mem)) (by k_extra "m k1") (by k_extra "m k2") (by k_extra "m k3") (by k_extra "m k5") (by k_extra "m k6") (by k_extra "m k7") (by k_extra "m k8") ?_; k_extra "m back")))
  k_with "!call ref" => ((k_here; (with_reducible show wpAny _ _ (PySem.call (Value.ref 101) _) _ _ _); k_dflt (refine' Does.use (by k_asm) (does_alike _ _ _ _ _ _ _ _ _ _ _ _ (by k_mem) (by k_mem) (by k_extra "m fact") (by k_extra "m fact") (by k_extra "m fact") (by k_extra "m fact")) (by k_extra "m k1") (by k_extra "m k2") (by k_extra "m k3") (by k_extra "m k5") (by k_extra "m k6") (by k_extra "m k7") (by k_extra "m k8") ?_; k_extra "m back")))
  k_with "!call ref" => ((k_here; (with_reducible show wpAny _ _ (PySem.call (Value.ref 108) _) _ _ _); k_dflt (refine' Does.use (by k_asm) (does_add _ _ _ _ _ _ _ _ _ _ _ _ _ _ (by k_mem) (by k_mem) (by k_extra "m fact") (by k_extra "m fact") (by k_extra "m fact") (by k_extra "m fact") (by k_extra "m fact") (by k_extra "m fact")) (by k_extra "m k1") (by k_extra "m k2") (by k_extra "m k3") (by k_extra "m k5") (by k_extra "m k6") (by k_extra "m k7") (by k_extra "m k8") ?_; k_extra "m back")))
  k_with "!call ref" => ((k_here; (with_reducible show wpAny _ _ (PySem.call (Value.ref 122) _) _ _ _); k_dflt (refine' Does.use (by k_asm) (does_mul _ _ _ _ _ _ _ _ _ _ _ _ _ _ (by k_mem) (by k_mem) (by k_extra "m fact") (by k_extra "m fact") (by k_extra "m fact") (by k_extra "m fact") (by k_extra "m fact")) (by k_extra "m k1") (by k_extra "m k2") (by k_extra "m k3") (by k_extra "m k5") (by k_extra "m k6") (by k_extra "m k7") (by k_extra "m k8") ?_; k_extra "m back")))
  k_with "!call ref" => ((k_here; (with_reducible show wpAny _ _ (PySem.call (Value.ref 129) _) _ _ _); k_dflt (refine' Does.use (by k_asm) (does_rest _ _ _ _ _ _ _ _) (by k_extra "m k1") (by k_extra "m k2") (by k_extra "m k3") (by k_extra "m k5") (by k_extra "m k6") (by k_extra "m k7") (by k_extra "m k8") ?_; k_extra "m back")))
  k_with "!call ref" => ((k_here; (with_reducible show wpAny _ _ (PySem.call (Value.ref 164) _) _ _ _); k_dflt (refine' Does.use (by k_asm) (does_is_whole _ _ _ _) (by k_extra "m k1") (by k_extra "m k2") (by k_extra "m k3") (by k_extra "m k5") (by k_extra "m k6") (by k_extra "m k7") (by k_extra "m k8") ?_; k_extra "m back")))
  k_with "!call ref" => ((k_here; (with_reducible show wpAny _ _ (PySem.call (Value.ref 164) _) _ _ _); k_dflt (refine' Does.use (by k_asm) (does_is_dec _ _ _ _ _ _ _ (by k_mem)) (by k_extra "m k1") (by k_extra "m k2") (by k_extra "m k3") (by k_extra "m k5") (by k_extra "m k6") (by k_extra "m k7") (by k_extra "m k8") ?_; k_extra "m back")))
  k_with "!call ref" => ((k_here; (with_reducible show wpAny _ _ (PySem.call (Value.ref 171) _) _ _ _); k_dflt (refine' Does.use (by k_asm) (does_settled _ _ _ _ _ _ _ _ (by k_extra "m fact") (by k_extra "m fact") (by k_extra "m fact")) (by k_extra "m k1") (by k_extra "m k2") (by k_extra "m k3") (by k_extra "m k5") (by k_extra "m k6") (by k_extra "m k7") (by k_extra "m k8") ?_; k_extra "m back")))
  k_with "!call ref" => ((k_here; (with_reducible show wpAny _ _ (PySem.call (Value.ref 178) _) _ _ _); k_dflt (refine' Does.use (by k_asm) (does_whole _ _ _ _ _ _ _ _ _ _ _ _ _ (by assumption) (by k_extra "m fact") (by k_extra "m fact") (by k_extra "m fact") (by k_extra "m fact") (by k_extra "m fact")) (by k_extra "m k1") (by k_extra "m k2") (by k_extra "m k3") (by k_extra "m k5") (by k_extra "m k6") (by k_extra "m k7") (by k_extra "m k8") ?_; k_extra "m back")))
  k_with "!exec Raise some none" => (refine Raise_exc rfl ?_)
  k_with "!leaving ref" => ((first | (refine' leave_excE (by assumption) (by assumption) (by assumption) (by assumption) (by assumption) (by assumption) ?_; intro h' R' U'; (try dsimp only at R' U' ⊢)) | ((rename RaisedE _ _ _ _ _ _ _ _ => rkX); refine' leave_onE (by assumption) (by assumption) rkX (by assumption) ?_; intro h' R' U'; (try dsimp only at R' U' ⊢))))
  k_with "!call ref" => (((with_reducible show wpAny _ _ (PySem.call (Value.ref 34) _) _ _ _); refine' exc_use (by k_asm) (by k_extra "m k1") (by k_extra "m k2") (by k_extra "m k3") (by k_extra "m k5") (by k_extra "m k6") (by k_extra "m k7") (by k_extra "m k8") ?_; intro e t dx od h' tk' F' N' C' n1 n2 n3; (try dsimp only)))
  k_with "m esc" => ((intro e dx tc g h' tk' F' U' R'; (try dsimp only)))
  k_with "!call ref" => ((k_here; (with_reducible show wpAny _ _ (PySem.call (Value.ref 79) _) _ _ _); k_dflt (refine' DoesR.use (by k_asm) (raises_whole_of _ _ _ _ _ _ (by assumption) (by k_extra "m fact")) (by k_extra "m k1") (by k_extra "m k2") (by k_extra "m k3") (by k_extra "m k5") (by k_extra "m k6") (by k_extra "m k7") (by k_extra "m k8") ?_; k_extra "m esc")))
  k_with "!call ref" => ((k_here; (with_reducible show wpAny _ _ (PySem.call (Value.ref 79) _) _ _ _); k_dflt (refine' Does.use (by k_asm) (does_whole_of _ _ _ _ _ _ (by assumption) (by k_extra "m fact")) (by k_extra "m k1") (by k_extra "m k2") (by k_extra "m k3") (by k_extra "m k5") (by k_extra "m k6") (by k_extra "m k7") (by k_extra "m k8") ?_; k_extra "m back")))
  k_with "!call ref" => ((k_here; (with_reducible show wpAny _ _ (PySem.call (Value.ref 185) _) _ _ _); k_dflt (refine' DoesR.use (by k_asm) (raises_cut_quotient _ _ _ _ _ _ (by assumption)) (by k_extra "m k1") (by k_extra "m k2") (by k_extra "m k3") (by k_extra "m k5") (by k_extra "m k6") (by k_extra "m k7") (by k_extra "m k8") ?_; k_extra "m esc")))
  k_with "!call ref" => ((k_here; (with_reducible show wpAny _ _ (PySem.call (Value.ref 185) _) _ _ _); k_dflt (refine' Does.use (by k_asm) (does_cut_quotient _ _ _ _ _ _ (by assumption) (by k_extra "m fact") (by k_extra "m fact")) (by k_extra "m k1") (by k_extra "m k2") (by k_extra "m k3") (by k_extra "m k5") (by k_extra "m k6") (by k_extra "m k7") (by k_extra "m k8") ?_; k_extra "m back")))
  k_with "!getAttr ref" => ((refine' x_get (by k_asm) (by k_asm) (by k_asm) ?_ ?_ (by assumption) (by assumption) (by assumption) ?_; k_mem; k_mem))
  k_with "!noteFrame ref" => (((rename RaisedE _ _ _ _ _ _ _ _ => rkX); refine' caught_E rkX (by assumption) (by assumption) (by assumption) (by assumption) (by assumption) (by assumption) (by first | assumption | exact KtsTurn.refl) (by k_is) ?_; intro h' g' oe od tk T' F' N' c1 c2 c3 K' X' P' D'))
  k_with "m enterS" => ((refine wpAny_call ?_; k_dflt (refine' enterS (g₀ := _) (by k_asm) (by k_asm) (by k_asm) (by k_asm) (by k_asm) (by assumption) (by assumption) (by assumption) KtsTurn.refl (by exact rfl) (by exact rfl) (by assumption) (by k_is) (by k_is) (by k_extra "m k7") (by exact BindsTo.of_eq rfl) (by exact locs rfl) ?_ (by exact rfl) (by exact rfl) (by exact rfl) (by decide); intro g' L' h' FG' F' N' B' X' T' D' l1; (try dsimp only); (try k_lift B'); (try k_fold))))
  k_with "!call ref" => ((k_here; (with_reducible show wpAny _ _ (PySem.call (Value.ref 192) _) _ _ _); k_dflt (refine' DoesR.use (by k_asm) (raises_cut_rest _ _ _ _ _ _ (by assumption)) (by k_extra "m k1") (by k_extra "m k2") (by k_extra "m k3") (by k_extra "m k5") (by k_extra "m k6") (by k_extra "m k7") (by k_extra "m k8") ?_; k_extra "m esc")))
  k_with "!call ref" => ((k_here; (with_reducible show wpAny _ _ (PySem.call (Value.ref 192) _) _ _ _); k_dflt (refine' Does.use (by k_asm) (does_cut_rest _ _ _ _ _ _ (by assumption) (by k_extra "m fact") (by k_extra "m fact")) (by k_extra "m k1") (by k_extra "m k2") (by k_extra "m k3") (by k_extra "m k5") (by k_extra "m k6") (by k_extra "m k7") (by k_extra "m k8") ?_; k_extra "m back")))
  k_with "!call ref" => ((k_here; (with_reducible show wpAny _ _ (PySem.call (Value.ref 220) _) _ _ _); k_dflt (refine' DoesR.use (by k_asm) (raises_c_ov (by assumption) _ _ _ _ _ _ _ (by assumption) (by k_extra "m fact")) (by k_extra "m k1") (by k_extra "m k2") (by k_extra "m k3") (by k_extra "m k5") (by k_extra "m k6") (by k_extra "m k7") (by k_extra "m k8") ?_; k_extra "m esc")))
  k_with "!call ref" => ((k_here; (with_reducible show wpAny _ _ (PySem.call (Value.ref 220) _) _ _ _); k_dflt (refine' DoesR.use (by k_asm) (raises_c_dz (by assumption) _ _ _ _ _ _ _ (by assumption) (by assumption) (by assumption) (by k_extra "m fact")) (by k_extra "m k1") (by k_extra "m k2") (by k_extra "m k3") (by k_extra "m k5") (by k_extra "m k6") (by k_extra "m k7") (by k_extra "m k8") ?_; k_extra "m esc")))
  k_with "!call ref" => ((k_here; (with_reducible show wpAny _ _ (PySem.call (Value.ref 220) _) _ _ _); k_dflt (refine' Does.use (by k_asm) (does_rk_c (by assumption) _ _ _ _ _ _ _ (by assumption) (by assumption) (by assumption) (by k_extra "m fact") (by k_extra "m fact") (by k_extra "m fact") (by k_extra "m fact")) (by k_extra "m k1") (by k_extra "m k2") (by k_extra "m k3") (by k_extra "m k5") (by k_extra "m k6") (by k_extra "m k7") (by k_extra "m k8") ?_; k_extra "m back")))
  trivial
inductive OkStr (c : Str) : Value → Led → Prop
  | mk (t : Tok) : OkStr c (.str c t) []
set_option maxRecDepth 100000 in
set_option maxHeartbeats 8000000 in
theorem told_ok (w : World) (news : Led) {op : Str} {x y z bits : Int} (H : OpC x y op z) (to tx ty tb : Tok) (hx : fitsB x bits = true) (hy : fitsB y bits = true) (hy0 : y ≠ 0) (hxs : x.natAbs ≤ 300) (hys : y.natAbs ≤ 3) (hb : 1 ≤ bits ∧ bits ≤ 64) :
    Does w 20 251 [.str op to, .int x tx, .int y ty, .int bits tb] news (OkKept z bits 9) := by
  unfold Does
  intro mean mg mb dp un gd cn cs a ccd cl outer A₀ base h₀ L m s Q E B F X N T hk hd hu ret
  k_extra "m enter"
  k_steps
  all_goals first
    | exact ret _ _ _ _ (by k_asm) (newsHead (by assumption) (by k_extra "m sub")) (oneNew (by k_extra "m lt")) (OkKept.dec _ _ _ (by assumption))
    | exact ret _ [] _ _ (by k_asm) (by k_extra "m drop") noNew (OkKept.whole _ (by assumption))
/-- what a call of the def at f does, from any def's frame, when an error may fly and be caught on the way: the ground may be turned -/
def DoesK (w : World) (need : Nat) (f : Addr) (vs : List Value) (news : Led) (ok : Value → Led → Prop) : Prop :=
  ∀ (mean : ExcName → Option Value) (mg mb : Str → Option Value) (dp un : Nat) (gd : Option (List Code)) (cn : Str) (cs : Scope) (a : Addr) (ccd : Value) (cl : List (Str × Addr)) (outer : List Env) (A₀ : Around) (base h₀ : Heap) (L : Addr) (m : Str → Option Value) (s : Shared) (Q E : Value → Shared → Prop),
    Below A₀ base outer h₀ → Fr h₀ L s.heap m → (hd.heap_1 w.params).In h₀ → News h₀ L s.heap news → Top hdView loose mean mg mb h₀ → (hd.heap_1 w.params).In base → Top hdView loose mean mg mb base → KtsDicts (outer.filterMap (·.frame)) h₀ → cs.kind = .function →
    dp + need < recursionLimit → un + 8 * need < cLine →
    (∀ r tl g h' tk', KtsTurn (outer.filterMap (·.frame)) h₀ g → Fr g L h' m → News g L h' (tl ++ news) → (∀ p ∈ news, ∀ q ∈ tl, p.1 < q.1) → Below A₀ base outer g → (hd.heap_1 w.params).In g → Top hdView loose mean mg mb g → KtsDicts (outer.filterMap (·.frame)) g → ok r tl → Q r { s with heap := h', toks := tk' }) →
    wpAny (model PySem.Challenge.rw_xm0050_01.row.prog w) (ktrTop dp un gd cn cs L a ccd cl outer) (call (.ref f) vs) Q E s
set_option maxRecDepth 100000 in
set_option maxHeartbeats 8000000 in
theorem told_ov (w : World) (news : Led) {op : Str} {x y z bits : Int} (H : OpC x y op z) (to tx ty tb : Tok) (hx : fitsB x bits = false) (hb : 1 ≤ bits ∧ bits ≤ 64) :
    DoesK w 20 251 [.str op to, .int x tx, .int y ty, .int bits tb] news (OkStr "OV") := by
  unfold DoesK
  intro mean mg mb dp un gd cn cs a ccd cl outer A₀ base h₀ L m s Q E B F X N T XB TB D hk hd hu ret
  k_extra "m enterS"
  k_steps
  all_goals exact ret _ [] _ _ _ (by assumption) (by assumption) (by k_extra "m drop") noNew (by assumption) (by assumption) (by assumption) (by assumption) (OkStr.mk _)
set_option maxRecDepth 100000 in
set_option maxHeartbeats 8000000 in
theorem told_dz (w : World) (news : Led) {op : Str} {x y z bits : Int} (H : OpC x y op z) (to tx ty tb : Tok) (hx : fitsB x bits = true) (hy : fitsB y bits = true) (hy0 : y = 0) (hb : 1 ≤ bits ∧ bits ≤ 64) :
    DoesK w 20 251 [.str op to, .int x tx, .int y ty, .int bits tb] news (OkStr "DZ") := by
  unfold DoesK
  intro mean mg mb dp un gd cn cs a ccd cl outer A₀ base h₀ L m s Q E B F X N T XB TB D hk hd hu ret
  k_extra "m enterS"
  k_steps
  all_goals exact ret _ [] _ _ _ (by assumption) (by assumption) (by k_extra "m drop") noNew (by assumption) (by assumption) (by assumption) (by assumption) (OkStr.mk _)
/-- what does not raise turns no ground -/
theorem Does.toK {w : World} {need : Nat} {f : Addr} {vs : List Value} {news : Led} {ok : Value → Led → Prop} (H : Does w need f vs news ok) : DoesK w need f vs news ok := by
  intro mean mg mb dp un gd cn cs a ccd cl outer A₀ base h₀ L m s Q E B F X N T XB TB D hk hd hu ret
  exact H mean mg mb dp un gd cn cs a ccd cl outer A₀ base h₀ L m s Q E B F X N T hk hd hu fun r tl h' tk' F' N' l o => ret r tl h₀ h' tk' KtsTurn.refl F' N' l B X T D o
end
section
theorem noop89 : True := trivial
end
section
theorem words90 : True := by
  k_with_none
  k_with "m k1" => (first | k_asm | ktn_no "m use: Below")
  k_with "m k2" => (first | k_asm | ktn_no "m use: Fr")
  k_with "m k3" => (first | k_asm | ktn_no "m use: In")
  k_with "m k5" => (first | k_asm | ktn_no "m use: Top")
  k_with "m k6" => (first | assumption | exact rfl | ktn_no "m use: kind")
  k_with "m k7" => (first | exact room1 (by with_reducible assumption) (by decide) | exact room2 (by with_reducible assumption) (by decide) | ktr_room | ktn_no "m use: room")
  k_with "m k8" => (first | exact units1 (by with_reducible assumption) (by decide) | exact units2 (by with_reducible assumption) (by decide) | ktr_units | ktn_no "m use: units")
  k_with "m enter" => ((refine wpAny_call ?_; k_dflt cell_enter))
  k_with "m sub" => (first | with_reducible exact fun _ h => h | with_reducible exact fun _ h => List.mem_cons_of_mem _ h | with_reducible exact fun _ h => List.mem_cons_of_mem _ (List.mem_cons_of_mem _ h) | with_reducible exact fun _ h => List.mem_cons_of_mem _ (List.mem_cons_of_mem _ (List.mem_cons_of_mem _ h)) | kcj_all)
  k_with "m drop" => (first | with_reducible assumption | exact cb_drop (by with_reducible assumption) (by k_extra "m sub") | k_asm | (refine' cb_drop (by assumption) (by kcj_all)) | ktn_no "m drop: the ledger")
  k_with "m fact" => (first | assumption | (constructor <;> assumption) | omega | (simp only [decide_eq_true_eq, decide_eq_false_iff_not, Int.not_lt, Int.not_le, gt_iff_lt, ge_iff_le] at *; omega) | ktn_no "m fact")
  k_with "!call ref" => ((k_here; (with_reducible show wpAny _ _ (PySem.call (Value.ref 44) _) _ _ _); k_dflt (refine' Does.use (by k_asm) (does_figs _ _ _ _ (by k_extra "m fact")) (by k_extra "m k1") (by k_extra "m k2") (by k_extra "m k3") (by k_extra "m k5") (by k_extra "m k6") (by k_extra "m k7") (by k_extra "m k8") ?_; intro r9 tl9 h9 tk9 F9 N9 l9 o9; cases o9; (try simp only [List.nil_append] at N9); clear l9; (try dsimp only); (try k_fold))))
  k_with "!call ref" => ((k_here; (with_reducible show wpAny _ _ (PySem.call (Value.ref 51) _) _ _ _); k_dflt (refine' Does.use (by k_asm) (does_rnd _ _ _ _ _ _ (by k_extra "m fact") (by k_extra "m fact") (by k_extra "m fact") (by k_extra "m fact")) (by k_extra "m k1") (by k_extra "m k2") (by k_extra "m k3") (by k_extra "m k5") (by k_extra "m k6") (by k_extra "m k7") (by k_extra "m k8") ?_; intro r9 tl9 h9 tk9 F9 N9 l9 o9; cases o9; (try simp only [List.nil_append] at N9); clear l9; (try dsimp only); (try k_fold))))
  k_with "m lt" => (first | assumption | exact ktn_ltOf (by assumption) | ((with_reducible rename _ ∧ AllLt _ _ => hlt); exact ktn_ltOf hlt.2) | exact ktn_ltOf (And.right (by assumption)) | exact ktn_ltOf (And.right (And.right (by assumption))) | exact ktn_ltOf (And.right (And.right (And.right (by assumption)))) | exact ktn_ltOf (And.right (And.right (And.right (And.right (by assumption))))) | exact ktn_ltOf (And.right (And.right (And.right (And.right (And.right (by assumption)))))) | exact ktn_ltOf (And.right (And.right (And.right (And.right (And.right (And.right (by assumption))))))) | ktn_no "m lt")
  k_with "m back" => ((intro r9 tl9 h9 tk9 F9 N9 l9 o9; cases o9; all_goals ((try simp only [List.nil_append, List.cons_append] at N9); (first | (replace l9 := newLt l9; (try k_lt l9)) | clear l9); (try dsimp only); (try k_fold))))
  k_with "!call ref" => ((k_here; (with_reducible show wpAny _ _ (PySem.call (Value.ref 58) _) _ _ _); k_dflt (refine' Does.use (by k_asm) (does_made _ _ _ _ _ _ _ _ (by k_extra "m fact") (by k_extra "m fact") (by k_extra "m fact")) (by k_extra "m k1") (by k_extra "m k2") (by k_extra "m k3") (by k_extra "m k5") (by k_extra "m k6") (by k_extra "m k7") (by k_extra "m k8") ?_; k_extra "m back")))
  k_with "m sm" => (first | assumption | exact Sm.of45 (by assumption) | exact Sm.p10 (by k_extra "m fact") | exact Sm.lit (by omega) | ktn_no "m sm")
  k_with "!binaryOp Mult int int" => ((k_here; (with_reducible refine PyProof.Rows.mul_int ?_ (IntMulOk.of_bits (Sm.bits (by k_extra "m sm")) (Sm.bits (by k_extra "m sm"))))))
  k_with "!call ref" => ((k_here; (with_reducible show wpAny _ _ (PySem.call (Value.ref 72) _) _ _ _); k_dflt (refine' Does.use (by k_asm) (does_fits _ _ _ _ _ _ (by k_extra "m fact")) (by k_extra "m k1") (by k_extra "m k2") (by k_extra "m k3") (by k_extra "m k5") (by k_extra "m k6") (by k_extra "m k7") (by k_extra "m k8") ?_; k_extra "m back")))
  k_with "!call ref" => ((k_here; (with_reducible show wpAny _ _ (PySem.call (Value.ref 86) _) _ _ _); k_dflt (refine' Does.use (by k_asm) (does_decimal_int _ _ _ _ _ _ (by k_extra "m fact") (by k_extra "m fact")) (by k_extra "m k1") (by k_extra "m k2") (by k_extra "m k3") (by k_extra "m k5") (by k_extra "m k6") (by k_extra "m k7") (by k_extra "m k8") ?_; k_extra "m back")))
  k_with "!call ref" => ((k_here; (with_reducible show wpAny _ _ (PySem.call (Value.ref 86) _) _ _ _); k_dflt (refine' Does.use (by k_asm) (does_decimal_tup _ _ _ _ _ _ _ _ _ (by k_mem) (by k_extra "m fact") (by k_extra "m fact") (by k_extra "m fact")) (by k_extra "m k1") (by k_extra "m k2") (by k_extra "m k3") (by k_extra "m k5") (by k_extra "m k6") (by k_extra "m k7") (by k_extra "m k8") ?_; k_extra "m back")))
  k_with "!call ref" => ((k_here; (with_reducible show wpAny _ _ (PySem.call (Value.ref 94) _) _ _ _); k_dflt (refine' Does.use (by k_asm) (does_negated _ _ _ _ _ _ _ (by k_mem)) (by k_extra "m k1") (by k_extra "m k2") (by k_extra "m k3") (by k_extra "m k5") (by k_extra "m k6") (by k_extra "m k7") (by k_extra "m k8") ?_; k_extra "m back")))
  k_with "!call ref" => ((k_here; (with_reducible show wpAny _ _ (PySem.call (Value.ref 101) _) _ _ _); k_dflt (refine' Does.use (by k_asm) (does_alike _ _ _ _ _ _ _ _ _ _ _ _ (by k_mem) (by k_mem) (by k_extra "m fact") (by k_extra "m fact") (by k_extra "m fact") (by k_extra "m fact")) (by k_extra "m k1") (by k_extra "m k2") (by k_extra "m k3") (by k_extra "m k5") (by k_extra "m k6") (by k_extra "m k7") (by k_extra "m k8") ?_; k_extra "m back")))
  k_with "!call ref" => ((k_here; (with_reducible show wpAny _ _ (PySem.call (Value.ref 108) _) _ _ _); k_dflt (refine' Does.use (by k_asm) (does_add _ _ _ _ _ _ _ _ _ _ _ _ _ _ (by k_mem) (by k_mem) (by k_extra "m fact") (by k_extra "m fact") (by k_extra "m fact") (by k_extra "m fact") (by k_extra "m fact") (by k_extra "m fact")) (by k_extra "m k1") (by k_extra "m k2") (by k_extra "m k3") (by k_extra "m k5") (by k_extra "m k6") (by k_extra "m k7") (by k_extra "m k8") ?_; k_extra "m back")))
  k_with "!call ref" => ((k_here; (with_reducible show wpAny _ _ (PySem.call (Value.ref 122) _) _ _ _); k_dflt (refine' Does.use (by k_asm) (does_mul _ _ _ _ _ _ _ _ _ _ _ _ _ _ (by k_mem) (by k_mem) (by k_extra "m fact") (by k_extra "m fact") (by k_extra "m fact") (by k_extra "m fact") (by k_extra "m fact")) (by k_extra "m k1") (by k_extra "m k2") (by k_extra "m k3") (by k_extra "m k5") (by k_extra "m k6") (by k_extra "m k7") (by k_extra "m k8") ?_; k_extra "m back")))
  k_with "!call ref" => ((k_here; (with_reducible show wpAny _ _ (PySem.call (Value.ref 129) _) _ _ _); k_dflt (refine' Does.use (by k_asm) (does_rest _ _ _ _ _ _ _ _) (by k_extra "m k1") (by k_extra "m k2") (by k_extra "m k3") (by k_extra "m k5") (by k_extra "m k6") (by k_extra "m k7") (by k_extra "m k8") ?_; k_extra "m back")))
  k_with "!call ref" => ((k_here; (with_reducible show wpAny _ _ (PySem.call (Value.ref 164) _) _ _ _); k_dflt (refine' Does.use (by k_asm) (does_is_whole _ _ _ _) (by k_extra "m k1") (by k_extra "m k2") (by k_extra "m k3") (by k_extra "m k5") (by k_extra "m k6") (by k_extra "m k7") (by k_extra "m k8") ?_; k_extra "m back")))
  k_with "!call ref" => ((k_here; (with_reducible show wpAny _ _ (PySem.call (Value.ref 164) _) _ _ _); k_dflt (refine' Does.use (by k_asm) (does_is_dec _ _ _ _ _ _ _ (by k_mem)) (by k_extra "m k1") (by k_extra "m k2") (by k_extra "m k3") (by k_extra "m k5") (by k_extra "m k6") (by k_extra "m k7") (by k_extra "m k8") ?_; k_extra "m back")))
  k_with "!call ref" => ((k_here; (with_reducible show wpAny _ _ (PySem.call (Value.ref 171) _) _ _ _); k_dflt (refine' Does.use (by k_asm) (does_settled _ _ _ _ _ _ _ _ (by k_extra "m fact") (by k_extra "m fact") (by k_extra "m fact")) (by k_extra "m k1") (by k_extra "m k2") (by k_extra "m k3") (by k_extra "m k5") (by k_extra "m k6") (by k_extra "m k7") (by k_extra "m k8") ?_; k_extra "m back")))
  k_with "!call ref" => ((k_here; (with_reducible show wpAny _ _ (PySem.call (Value.ref 115) _) _ _ _); k_dflt (refine' Does.use (by k_asm) (does_sub _ _ _ _ _ _ _ _ _ _ _ _ _ _ (by k_mem) (by k_mem) (by k_extra "m fact") (by k_extra "m fact") (by k_extra "m fact") (by k_extra "m fact") (by k_extra "m fact") (by k_extra "m fact")) (by k_extra "m k1") (by k_extra "m k2") (by k_extra "m k3") (by k_extra "m k5") (by k_extra "m k6") (by k_extra "m k7") (by k_extra "m k8") ?_; k_extra "m back")))
  k_with "!call ref" => ((k_here; (with_reducible show wpAny _ _ (PySem.call (Value.ref 143) _) _ _ _); k_dflt (refine' Does.use (by k_asm) (does_compare _ _ _ _ _ _ _ _ _ _ _ _ (by k_mem) (by k_mem) (by k_extra "m fact") (by k_extra "m fact") (by k_extra "m fact") (by k_extra "m fact")) (by k_extra "m k1") (by k_extra "m k2") (by k_extra "m k3") (by k_extra "m k5") (by k_extra "m k6") (by k_extra "m k7") (by k_extra "m k8") ?_; k_extra "m back")))
  k_with "!call ref" => ((k_here; (with_reducible show wpAny _ _ (PySem.call (Value.ref 136) _) _ _ _); k_dflt (refine' Does.use (by k_asm) (does_div _ _ _ _ _ _ _ _ _ _ _ _ _ _ (by k_mem) (by k_mem) (by k_extra "m fact") (by k_extra "m fact") (by k_extra "m fact") (by k_extra "m fact") (by k_extra "m fact")) (by k_extra "m k1") (by k_extra "m k2") (by k_extra "m k3") (by k_extra "m k5") (by k_extra "m k6") (by k_extra "m k7") (by k_extra "m k8") ?_; k_extra "m back")))
  k_with "!call ref" => ((k_here; (with_reducible show wpAny _ _ (PySem.call (Value.ref 178) _) _ _ _); k_dflt (refine' Does.use (by k_asm) (does_whole _ _ _ _ _ _ _ _ _ _ _ _ _ (by assumption) (by k_extra "m fact") (by k_extra "m fact") (by k_extra "m fact") (by k_extra "m fact") (by k_extra "m fact")) (by k_extra "m k1") (by k_extra "m k2") (by k_extra "m k3") (by k_extra "m k5") (by k_extra "m k6") (by k_extra "m k7") (by k_extra "m k8") ?_; k_extra "m back")))
  k_with "!call ref" => ((k_here; (with_reducible show wpAny _ _ (PySem.call (Value.ref 220) _) _ _ _); k_dflt (refine' Does.use (by k_asm) (does_rk_int _ _ _ _ _ _ _ _ _ _ _ _ _ (by assumption) (by k_extra "m fact") (by k_extra "m fact") (by k_extra "m fact") (by k_extra "m fact") (by k_extra "m fact")) (by k_extra "m k1") (by k_extra "m k2") (by k_extra "m k3") (by k_extra "m k5") (by k_extra "m k6") (by k_extra "m k7") (by k_extra "m k8") ?_; k_extra "m back")))
  k_with "!call ref" => ((k_here; (with_reducible show wpAny _ _ (PySem.call (Value.ref 234) _) _ _ _); k_dflt (refine' draw_use (by k_asm) (by k_updF) (by k_mem) (by assumption) (by assumption) (by assumption) (by k_extra "m fact") (by k_extra "m fact") (by k_extra "m fact") (by k_extra "m k1") (by k_extra "m k2") (by k_extra "m k3") (by k_extra "m k5") (by k_extra "m k6") (by k_extra "m k7") (by k_extra "m k8") ?_; intro x9 t9 u9 h9 tk9 g0 g1 F9 N9; (try dsimp only at N9 ⊢))))
  k_with "m ne" => (with_reducible first | assumption | exact Ne.symm (by assumption) | exact Nat.ne_of_lt (by assumption) | exact Nat.ne_of_gt (by assumption) | exact (And.left (by assumption)) | exact Ne.symm (And.left (by assumption)) | exact Nat.ne_of_lt (And.left (by assumption)) | exact Nat.ne_of_gt (And.left (by assumption)) | exact (And.left (And.right (by assumption))) | exact Ne.symm (And.left (And.right (by assumption))) | exact Nat.ne_of_lt (And.left (And.right (by assumption))) | exact Nat.ne_of_gt (And.left (And.right (by assumption))) | exact (And.right (by assumption)) | exact Ne.symm (And.right (by assumption)) | exact Nat.ne_of_lt (And.right (by assumption)) | exact Nat.ne_of_gt (And.right (by assumption)) | exact (And.left (And.right (And.right (by assumption)))) | exact Ne.symm (And.left (And.right (And.right (by assumption)))) | exact Nat.ne_of_lt (And.left (And.right (And.right (by assumption)))) | exact Nat.ne_of_gt (And.left (And.right (And.right (by assumption)))) | exact (And.right (And.right (by assumption))) | exact Ne.symm (And.right (And.right (by assumption))) | exact Nat.ne_of_lt (And.right (And.right (by assumption))) | exact Nat.ne_of_gt (And.right (And.right (by assumption))) | exact (And.left (And.right (And.right (And.right (by assumption))))) | exact Ne.symm (And.left (And.right (And.right (And.right (by assumption))))) | exact Nat.ne_of_lt (And.left (And.right (And.right (And.right (by assumption))))) | exact Nat.ne_of_gt (And.left (And.right (And.right (And.right (by assumption))))) | exact (And.right (And.right (And.right (by assumption)))) | exact Ne.symm (And.right (And.right (And.right (by assumption)))) | exact Nat.ne_of_lt (And.right (And.right (And.right (by assumption)))) | exact Nat.ne_of_gt (And.right (And.right (And.right (by assumption)))) | exact (And.left (And.right (And.right (And.right (And.right (by assumption)))))) | exact Ne.symm (And.left (And.right (And.right (And.right (And.right (by assumption)))))) | exact Nat.ne_of_lt (And.left (And.right (And.right (And.right (And.right (by assumption)))))) | exact Nat.ne_of_gt (And.left (And.right (And.right (And.right (And.right (by assumption)))))) | exact (And.right (And.right (And.right (And.right (by assumption))))) | exact Ne.symm (And.right (And.right (And.right (And.right (by assumption))))) | exact Nat.ne_of_lt (And.right (And.right (And.right (And.right (by assumption))))) | exact Nat.ne_of_gt (And.right (And.right (And.right (And.right (by assumption))))) | exact (And.left (And.right (And.right (And.right (And.right (And.right (by assumption))))))) | exact Ne.symm (And.left (And.right (And.right (And.right (And.right (And.right (by assumption))))))) | exact Nat.ne_of_lt (And.left (And.right (And.right (And.right (And.right (And.right (by assumption))))))) | exact Nat.ne_of_gt (And.left (And.right (And.right (And.right (And.right (And.right (by assumption))))))) | exact (And.right (And.right (And.right (And.right (And.right (by assumption)))))) | exact Ne.symm (And.right (And.right (And.right (And.right (And.right (by assumption)))))) | exact Nat.ne_of_lt (And.right (And.right (And.right (And.right (And.right (by assumption)))))) | exact Nat.ne_of_gt (And.right (And.right (And.right (And.right (And.right (by assumption)))))) | exact (And.left (And.right (And.right (And.right (And.right (And.right (And.right (by assumption)))))))) | exact Ne.symm (And.left (And.right (And.right (And.right (And.right (And.right (And.right (by assumption)))))))) | exact Nat.ne_of_lt (And.left (And.right (And.right (And.right (And.right (And.right (And.right (by assumption)))))))) | exact Nat.ne_of_gt (And.left (And.right (And.right (And.right (And.right (And.right (And.right (by assumption)))))))) | exact (And.right (And.right (And.right (And.right (And.right (And.right (by assumption))))))) | exact Ne.symm (And.right (And.right (And.right (And.right (And.right (And.right (by assumption))))))) | exact Nat.ne_of_lt (And.right (And.right (And.right (And.right (And.right (And.right (by assumption))))))) | exact Nat.ne_of_gt (And.right (And.right (And.right (And.right (And.right (And.right (by assumption))))))) | exact (And.left (And.right (And.right (And.right (And.right (And.right (And.right (And.right (by assumption))))))))) | exact Ne.symm (And.left (And.right (And.right (And.right (And.right (And.right (And.right (And.right (by assumption))))))))) | exact Nat.ne_of_lt (And.left (And.right (And.right (And.right (And.right (And.right (And.right (And.right (by assumption))))))))) | exact Nat.ne_of_gt (And.left (And.right (And.right (And.right (And.right (And.right (And.right (And.right (by assumption))))))))) | exact (And.right (And.right (And.right (And.right (And.right (And.right (And.right (by assumption)))))))) | exact Ne.symm (And.right (And.right (And.right (And.right (And.right (And.right (And.right (by assumption)))))))) | exact Nat.ne_of_lt (And.right (And.right (And.right (And.right (And.right (And.right (And.right (by assumption)))))))) | exact Nat.ne_of_gt (And.right (And.right (And.right (And.right (And.right (And.right (And.right (by assumption)))))))) | exact (And.left (And.right (And.right (And.right (And.right (And.right (And.right (And.right (And.right (by assumption)))))))))) | exact Ne.symm (And.left (And.right (And.right (And.right (And.right (And.right (And.right (And.right (And.right (by assumption)))))))))) | exact Nat.ne_of_lt (And.left (And.right (And.right (And.right (And.right (And.right (And.right (And.right (And.right (by assumption)))))))))) | exact Nat.ne_of_gt (And.left (And.right (And.right (And.right (And.right (And.right (And.right (And.right (And.right (by assumption)))))))))) | exact (And.right (And.right (And.right (And.right (And.right (And.right (And.right (And.right (by assumption))))))))) | exact Ne.symm (And.right (And.right (And.right (And.right (And.right (And.right (And.right (And.right (by assumption))))))))) | exact Nat.ne_of_lt (And.right (And.right (And.right (And.right (And.right (And.right (And.right (And.right (by assumption))))))))) | exact Nat.ne_of_gt (And.right (And.right (And.right (And.right (And.right (And.right (And.right (And.right (by assumption))))))))) | exact (And.left (And.right (And.right (And.right (And.right (And.right (And.right (And.right (And.right (And.right (by assumption))))))))))) | exact Ne.symm (And.left (And.right (And.right (And.right (And.right (And.right (And.right (And.right (And.right (And.right (by assumption))))))))))) | exact Nat.ne_of_lt (And.left (And.right (And.right (And.right (And.right (And.right (And.right (And.right (And.right (And.right (by assumption))))))))))) | exact Nat.ne_of_gt (And.left (And.right (And.right (And.right (And.right (And.right (And.right (And.right (And.right (And.right (by assumption))))))))))) | exact (And.right (And.right (And.right (And.right (And.right (And.right (And.right (And.right (And.right (by assumption)))))))))) | exact Ne.symm (And.right (And.right (And.right (And.right (And.right (And.right (And.right (And.right (And.right (by assumption)))))))))) | exact Nat.ne_of_lt (And.right (And.right (And.right (And.right (And.right (And.right (And.right (And.right (And.right (by assumption)))))))))) | exact Nat.ne_of_gt (And.right (And.right (And.right (And.right (And.right (And.right (And.right (And.right (And.right (by assumption)))))))))) | exact (And.left (And.right (And.right (And.right (And.right (And.right (And.right (And.right (And.right (And.right (And.right (by assumption)))))))))))) | exact Ne.symm (And.left (And.right (And.right (And.right (And.right (And.right (And.right (And.right (And.right (And.right (And.right (by assumption)))))))))))) | exact Nat.ne_of_lt (And.left (And.right (And.right (And.right (And.right (And.right (And.right (And.right (And.right (And.right (And.right (by assumption)))))))))))) | exact Nat.ne_of_gt (And.left (And.right (And.right (And.right (And.right (And.right (And.right (And.right (And.right (And.right (And.right (by assumption)))))))))))) | exact (And.right (And.right (And.right (And.right (And.right (And.right (And.right (And.right (And.right (And.right (by assumption))))))))))) | exact Ne.symm (And.right (And.right (And.right (And.right (And.right (And.right (And.right (And.right (And.right (And.right (by assumption))))))))))) | exact Nat.ne_of_lt (And.right (And.right (And.right (And.right (And.right (And.right (And.right (And.right (And.right (And.right (by assumption))))))))))) | exact Nat.ne_of_gt (And.right (And.right (And.right (And.right (And.right (And.right (And.right (And.right (And.right (And.right (by assumption))))))))))) | exact (And.left (And.right (And.right (And.right (And.right (And.right (And.right (And.right (And.right (And.right (And.right (And.right (by assumption))))))))))))) | exact Ne.symm (And.left (And.right (And.right (And.right (And.right (And.right (And.right (And.right (And.right (And.right (And.right (And.right (by assumption))))))))))))) | exact Nat.ne_of_lt (And.left (And.right (And.right (And.right (And.right (And.right (And.right (And.right (And.right (And.right (And.right (And.right (by assumption))))))))))))) | exact Nat.ne_of_gt (And.left (And.right (And.right (And.right (And.right (And.right (And.right (And.right (And.right (And.right (And.right (And.right (by assumption))))))))))))) | exact (And.right (And.right (And.right (And.right (And.right (And.right (And.right (And.right (And.right (And.right (And.right (by assumption)))))))))))) | exact Ne.symm (And.right (And.right (And.right (And.right (And.right (And.right (And.right (And.right (And.right (And.right (And.right (by assumption)))))))))))) | exact Nat.ne_of_lt (And.right (And.right (And.right (And.right (And.right (And.right (And.right (And.right (And.right (And.right (And.right (by assumption)))))))))))) | exact Nat.ne_of_gt (And.right (And.right (And.right (And.right (And.right (And.right (And.right (And.right (And.right (And.right (And.right (by assumption)))))))))))) | exact (And.left (And.right (And.right (And.right (And.right (And.right (And.right (And.right (And.right (And.right (And.right (And.right (And.right (by assumption)))))))))))))) | exact Ne.symm (And.left (And.right (And.right (And.right (And.right (And.right (And.right (And.right (And.right (And.right (And.right (And.right (And.right (by assumption)))))))))))))) | exact Nat.ne_of_lt (And.left (And.right (And.right (And.right (And.right (And.right (And.right (And.right (And.right (And.right (And.right (And.right (And.right (by assumption)))))))))))))) | exact Nat.ne_of_gt (And.left (And.right (And.right (And.right (And.right (And.right (And.right (And.right (And.right (And.right (And.right (And.right (And.right (by assumption)))))))))))))) | exact (And.right (And.right (And.right (And.right (And.right (And.right (And.right (And.right (And.right (And.right (And.right (And.right (by assumption))))))))))))) | exact Ne.symm (And.right (And.right (And.right (And.right (And.right (And.right (And.right (And.right (And.right (And.right (And.right (And.right (by assumption))))))))))))) | exact Nat.ne_of_lt (And.right (And.right (And.right (And.right (And.right (And.right (And.right (And.right (And.right (And.right (And.right (And.right (by assumption))))))))))))) | exact Nat.ne_of_gt (And.right (And.right (And.right (And.right (And.right (And.right (And.right (And.right (And.right (And.right (And.right (And.right (by assumption))))))))))))) | k_extra "m nest")
  k_with "m nest" => (with_reducible first | exact (And.left (And.left (by assumption))) | exact Ne.symm (And.left (And.left (by assumption))) | exact (And.left (And.right (And.left (by assumption)))) | exact Ne.symm (And.left (And.right (And.left (by assumption)))) | exact (And.right (And.right (And.left (by assumption)))) | exact Ne.symm (And.right (And.right (And.left (by assumption)))) | exact (And.left (And.left (And.right (by assumption)))) | exact Ne.symm (And.left (And.left (And.right (by assumption)))) | exact (And.left (And.right (And.left (And.right (by assumption))))) | exact Ne.symm (And.left (And.right (And.left (And.right (by assumption))))) | exact (And.right (And.right (And.left (And.right (by assumption))))) | exact Ne.symm (And.right (And.right (And.left (And.right (by assumption))))) | exact (And.left (And.left (And.right (And.right (by assumption))))) | exact Ne.symm (And.left (And.left (And.right (And.right (by assumption))))) | exact (And.left (And.right (And.left (And.right (And.right (by assumption)))))) | exact Ne.symm (And.left (And.right (And.left (And.right (And.right (by assumption)))))) | exact (And.right (And.right (And.left (And.right (And.right (by assumption)))))) | exact Ne.symm (And.right (And.right (And.left (And.right (And.right (by assumption)))))) | exact (And.left (And.left (And.right (And.right (And.right (by assumption)))))) | exact Ne.symm (And.left (And.left (And.right (And.right (And.right (by assumption)))))) | exact (And.left (And.right (And.left (And.right (And.right (And.right (by assumption))))))) | exact Ne.symm (And.left (And.right (And.left (And.right (And.right (And.right (by assumption))))))) | exact (And.right (And.right (And.left (And.right (And.right (And.right (by assumption))))))) | exact Ne.symm (And.right (And.right (And.left (And.right (And.right (And.right (by assumption))))))) | exact (And.left (And.left (And.right (And.right (And.right (And.right (by assumption))))))) | exact Ne.symm (And.left (And.left (And.right (And.right (And.right (And.right (by assumption))))))) | exact (And.left (And.right (And.left (And.right (And.right (And.right (And.right (by assumption)))))))) | exact Ne.symm (And.left (And.right (And.left (And.right (And.right (And.right (And.right (by assumption)))))))) | exact (And.right (And.right (And.left (And.right (And.right (And.right (And.right (by assumption)))))))) | exact Ne.symm (And.right (And.right (And.left (And.right (And.right (And.right (And.right (by assumption)))))))) | exact (And.left (And.left (And.right (And.right (And.right (And.right (And.right (by assumption)))))))) | exact Ne.symm (And.left (And.left (And.right (And.right (And.right (And.right (And.right (by assumption)))))))) | exact (And.left (And.right (And.left (And.right (And.right (And.right (And.right (And.right (by assumption))))))))) | exact Ne.symm (And.left (And.right (And.left (And.right (And.right (And.right (And.right (And.right (by assumption))))))))) | exact (And.right (And.right (And.left (And.right (And.right (And.right (And.right (And.right (by assumption))))))))) | exact Ne.symm (And.right (And.right (And.left (And.right (And.right (And.right (And.right (And.right (by assumption))))))))) | exact (And.left (And.left (And.right (And.right (And.right (And.right (And.right (And.right (by assumption))))))))) | exact Ne.symm (And.left (And.left (And.right (And.right (And.right (And.right (And.right (And.right (by assumption))))))))) | exact (And.left (And.right (And.left (And.right (And.right (And.right (And.right (And.right (And.right (by assumption)))))))))) | exact Ne.symm (And.left (And.right (And.left (And.right (And.right (And.right (And.right (And.right (And.right (by assumption)))))))))) | exact (And.right (And.right (And.left (And.right (And.right (And.right (And.right (And.right (And.right (by assumption)))))))))) | exact Ne.symm (And.right (And.right (And.left (And.right (And.right (And.right (And.right (And.right (And.right (by assumption)))))))))) | exact (And.left (And.left (And.right (And.right (And.right (And.right (And.right (And.right (And.right (by assumption)))))))))) | exact Ne.symm (And.left (And.left (And.right (And.right (And.right (And.right (And.right (And.right (And.right (by assumption)))))))))) | exact (And.left (And.right (And.left (And.right (And.right (And.right (And.right (And.right (And.right (And.right (by assumption))))))))))) | exact Ne.symm (And.left (And.right (And.left (And.right (And.right (And.right (And.right (And.right (And.right (And.right (by assumption))))))))))) | exact (And.right (And.right (And.left (And.right (And.right (And.right (And.right (And.right (And.right (And.right (by assumption))))))))))) | exact Ne.symm (And.right (And.right (And.left (And.right (And.right (And.right (And.right (And.right (And.right (And.right (by assumption))))))))))) | exact (And.left (And.left (And.right (And.right (And.right (And.right (And.right (And.right (And.right (And.right (by assumption))))))))))) | exact Ne.symm (And.left (And.left (And.right (And.right (And.right (And.right (And.right (And.right (And.right (And.right (by assumption))))))))))) | exact (And.left (And.right (And.left (And.right (And.right (And.right (And.right (And.right (And.right (And.right (And.right (by assumption)))))))))))) | exact Ne.symm (And.left (And.right (And.left (And.right (And.right (And.right (And.right (And.right (And.right (And.right (And.right (by assumption)))))))))))) | exact (And.right (And.right (And.left (And.right (And.right (And.right (And.right (And.right (And.right (And.right (And.right (by assumption)))))))))))) | exact Ne.symm (And.right (And.right (And.left (And.right (And.right (And.right (And.right (And.right (And.right (And.right (And.right (by assumption)))))))))))))
  k_with "!call ref" => ((k_here; (with_reducible show wpAny _ _ (PySem.call (Value.ref 220) (Value.str (Txt.item _ _) _ :: _)) _ _ _); k_dflt (refine' Does.use (by k_asm) (does_rk_fig _ _ _ _ _ _ _ _ _ _ _ _ _ _ _ _ _ _ (by k_extra "m fact") (by k_extra "m fact") (by k_mem) (by k_mem) (by k_extra "m fig") (by k_extra "m fig") (by k_extra "m fact")) (by k_extra "m k1") (by k_extra "m k2") (by k_extra "m k3") (by k_extra "m k5") (by k_extra "m k6") (by k_extra "m k7") (by k_extra "m k8") ?_; k_extra "m back"; (try k_extra "m pair"))))
  k_with "m pair" => ((have hFR := fig_pair (by with_reducible assumption) (by with_reducible assumption) (by with_reducible assumption) (by with_reducible assumption) (by k_extra "m fig") (by k_extra "m fig"); have fr1 := hFR.bf; have fr2 := hFR.bf'; have fr3 := hFR.bg; have fr4 := hFR.bg'; have fr5 := hFR.le))
  k_with "m fig" => (exact fig_made (by k_extra "m fact") (by k_extra "m fact"))
  k_with "m enterC" => ((refine wpAny_call ?_; k_dflt (refine' code_defC (by k_asm) (by k_asm) (by k_asm) (by k_asm) (by k_asm) (by exact rfl) (by exact rfl) (by assumption) (by k_is) (by k_is) (by k_extra "m k7") (by exact BindsTo.of_eq rfl) (by exact rfl) (by decide +kernel) ?_ (by exact rfl) (by exact rfl) (by exact rfl); k_whole; intro g' L' h' tk' cells' FG' F' N' Y' B' X' T' l1; (try k_lt l1); k_cells Y'; (try simp only [List.cons_append, List.nil_append] at N'); (try dsimp only); (try k_lift B'); (try k_fold))))
  k_with "!eval ListComp" => ((k_here; k_dflt (refine LCg.ListComp_U (F₀ := by k_asm) (by with_unfolding_all rfl) (by decide) (by rfl) (by decide) (by rfl) ?_); k_dflt lcg_toSrc))
  k_with "!exec Assign cons ListComp" => ((k_here; k_dflt (refine LCg.Assign_ListComp_U (F₀ := by k_asm) (by rfl) (by with_unfolding_all rfl) (by with_unfolding_all rfl) (by decide) (by rfl) (by decide) (by rfl) (by rfl) (by rfl) ?_); k_dflt lcg_toSrc))
  k_with "!CompSrc" => ((k_here; k_dflt (first | (refine LCg.CompSrc.ledger (by rfl) (by k_asm) (by k_asm) (by k_mem) (by first | size_fits | exact Nat.le_of_ble_eq_true rfl) ?_; intro g'; lcg_lit) | (refine LCg.CompSrc.base (by rfl) (by k_asm) (by k_asm) (by assumption) (by first | size_fits | exact Nat.le_of_ble_eq_true rfl) ?_; intro g'; lcg_lit) | (refine LCg.CompSrc.range (by rfl) (by k_asm) (by k_asm) (by assumption) (by first | decide | rfl) (by first | rfl | decide) (by first | size_fits | exact Nat.le_of_ble_eq_true rfl) ?_; intro g'; lcg_lit))))
  trivial
theorem min_le {prog : Program} {w : World} {A : Around} {E : Value → Shared → Prop} {s : Shared} {h₀ : Heap} {L : Addr} {m : Str → Option Value} {news : Led} {a b : Int} {t u : Tok} {Q : Value → Shared → Prop}
    (hh : A.handled = none) (F : Fr h₀ L s.heap m) (N : News h₀ L s.heap news) (hab : b ≤ a) (h : ∀ v h' tk, Fr h₀ L h' m → News h₀ L h' news → Q (.int b v) { s with heap := h', toks := tk }) :
    wpAny (model prog w) A (call (.builtin "min") [.int a t, .int b u]) Q E s :=
  min_two_ints hh fun h' tk hk => by
    have F' := F.keeps hk
    have N' := N.grown hk
    by_cases q : b < a
    · rw [if_pos q]; exact h u h' tk F' N'
    · rw [if_neg q, show a = b by omega]; exact h t h' tk F' N'
theorem DoesTo.use {w : World} {need : Nat} {f : Addr} {vs : List Value} {news : Led} {ok : Value → Led → Prop}
    {mean : ExcName → Option Value} {mg mb : Str → Option Value} {dp un : Nat} {gd : Option (List Code)} {cn : Str} {cs : Scope} {a : Addr} {ccd : Value} {cl : List (Str × Addr)} {outer : List Env} {A₀ : Around} {base h₀ : Heap} {L : Addr} {m : Str → Option Value} {s : Shared} {Q E : Value → Shared → Prop}
    (N : News h₀ L s.heap news) (D : DoesTo w need f vs news ok) (B : Below A₀ base outer h₀) (F : Fr h₀ L s.heap m) (X : (hd.heap_1 w.params).In h₀) (T : Top hdView loose mean mg mb h₀) (hk : cs.kind = .function)
    (hd : dp + need < recursionLimit) (hu : un + 8 * need < cLine)
    (ret : ∀ r news' h' tk', Fr h₀ L h' m → News h₀ L h' news' → ok r news' → Q r { s with heap := h', toks := tk' }) :
    wpAny (model PySem.Challenge.rw_xm0050_01.row.prog w) (ktrTop dp un gd cn cs L a ccd cl outer) (call (.ref f) vs) Q E s :=
  D mean mg mb dp un gd cn cs a ccd cl outer A₀ base h₀ L m s Q E B F X N T hk hd hu ret
theorem words90_b : True := by
  k_with "!call builtin:min" => ((k_here; (with_reducible show wpAny _ _ (call (Value.builtin _) [Value.int _ _, Value.int _ _]) _ _ _); k_dflt (refine' min_le (by with_unfolding_all rfl) (by k_asm) (by k_asm) (by assumption) ?_; intro v9 h9 tk9 F9 N9; (try dsimp only))))
  k_with "!exec If" => (((fail_if_success (with_reducible rename JoinMark _ => jm9)); k_here; (with_reducible show wpAny _ _ (exec (Stmt.If (Expr.BoolOp _ _ _) _ _ _) _) _ _ _); k_dflt (refine' join_next (by k_asm) (by k_asm) ?_ (by (intro Q9 j9 k9; k_steps; (all_goals first | exact k9 _ _ (by k_asm) (by k_extra "m drop") | (exfalso; exact FigR.no (by with_reducible assumption) (by with_reducible assumption) (by with_reducible assumption))))); intro h9 tk9 F9 N9; (try dsimp only))))
  k_with "m pow" => (first | assumption | omega | exact FigR.unit0 (by with_reducible assumption) (by k_dflt assumption) | exact FigR.unit1 (by with_reducible assumption))
  k_with "!binaryOp Pow int int" => ((k_here; (with_reducible refine pow_int_small (by k_extra "m pow") (by k_extra "m pow") (by decide) ?_)))
  trivial
/-- the figures came to their end well: True; the bag's place is told, and what else was at hand stands -/
inductive OkBagI (bag l : Addr) (spot : Int) (n n' : Nat) (vs : List Value) (I : Addr) (oI : Obj) : Value → Led → Prop
  | mk (t : Tok) : OkBagI bag l spot n n' vs I oI (.bool true) [(bag, lst2 l spot t n), (l, W.listOf vs.toArray n'), (I, oI)]
theorem OkBagI.of {bag l : Addr} {spot : Int} {n n' : Nat} {vs : List Value} {I : Addr} {oI : Obj} {b : Bool} (t : Tok) (h : b = true) : OkBagI bag l spot n n' vs I oI (.bool b) [(bag, lst2 l spot t n), (l, W.listOf vs.toArray n'), (I, oI)] := by
  subst h; exact .mk t
theorem bag_retI {h₀ h : Heap} {L bag l I : Addr} {all : Led} {o o' oI : Obj} (N : News h₀ L h all) (hb : (bag, o) ∈ all) (hl : (l, o') ∈ all) (hI : (I, oI) ∈ all) : News h₀ L h [(bag, o), (l, o'), (I, oI)] := fun p hp => by
  rcases List.mem_cons.mp hp with rfl | hp
  · exact N _ hb
  rcases List.mem_cons.mp hp with rfl | hp
  · exact N _ hl
  · rw [List.mem_singleton.mp hp]; exact N _ hI
set_option maxRecDepth 100000 in
set_option maxHeartbeats 1500000 in
theorem does_figures (w : World) (ns : List Int) (vs : List Value) (bag l I : Addr) (oI : Obj) (spot : Int) (ts : Tok) (n n' : Nat) (hlb : l ≠ bag) (hIb : I ≠ bag) (hi : IntsAre vs ns) (hlen : ns.length ≤ 63) (h0 : 0 ≤ spot) (h2 : spot ≤ 100) :
   DoesTo w 30 244 [.ref bag] [(bag, lst2 l spot ts n), (l, W.listOf vs.toArray n'), (I, oI)] (OkBagI bag l (spot + 1 + 1 + 1 + 1 + 1) n n' vs I oI) := by
  unfold DoesTo
  intro mean mg mb dp un gd cn cs a ccd cl outer A₀ base h₀ L m s Q E B F X N T hk hd hu ret
  k_extra "m enterC"
  k_steps
  all_goals refine ret _ _ _ _ (by k_asm) (bag_retI (by assumption) (by k_mem) (by k_mem) (by k_mem)) (OkBagI.of _ ?_)
  all_goals first
    | exact FigR.eq (by assumption)
    | exact FigR.lt (by with_reducible assumption) (by assumption)
end
section
/-- the frames' objects, as they stand -/
def frLed (fs : List Addr) (g : Heap) : Led := fs.filterMap fun b => (g.get? b).map fun o => (b, o)
theorem frLed_mem {fs : List Addr} {g : Heap} {p : Addr × Obj} (h : p ∈ frLed fs g) : p.1 ∈ fs ∧ g.get? p.1 = some p.2 := by
  obtain ⟨b, hb, he⟩ := List.mem_filterMap.mp h
  cases q : g.get? b with
  | none => rw [q] at he; cases he
  | some o => rw [q] at he; cases he; exact ⟨hb, q⟩
theorem frLed_has {fs : List Addr} {g : Heap} {b : Addr} {o : Obj} (hb : b ∈ fs) (e : g.get? b = some o) : (b, o) ∈ frLed fs g :=
  List.mem_filterMap.mpr ⟨b, hb, by rw [e]; rfl⟩
/-- what is known of a ground that errors may have turned -/
structure GK (w : World) (A₀ : Around) (base : Heap) (outer : List Env) (mean : ExcName → Option Value) (mg mb : Str → Option Value) (h₀ g : Heap) : Prop where
  turn : KtsTurn (outer.filterMap (·.frame)) h₀ g
  below : Below A₀ base outer g
  inn : (hd.heap_1 w.params).In g
  top : Top hdView loose mean mg mb g
  dicts : KtsDicts (outer.filterMap (·.frame)) g
section
variable {w : World} {A₀ : Around} {base h₀ g : Heap} {outer : List Env} {mean : ExcName → Option Value} {mg mb : Str → Option Value} {L : Addr} {h : Heap} {m : Str → Option Value} {news : Led}
/-- the frames as they stood, their slots aside -/
def Frames (outer : List Env) (h₀ : Heap) (all : Led) : Prop := ∀ b ∈ outer.filterMap (·.frame), ∃ o sl, h₀.get? b = some o ∧ (b, ({ o with slots := sl } : Obj)) ∈ all
theorem Frames.mono {all all' : Led} (F : Frames outer h₀ all) (hs : ∀ p ∈ all, p ∈ all') : Frames outer h₀ all' := fun b hb => let ⟨o, sl, e, hm⟩ := F b hb; ⟨o, sl, e, hs _ hm⟩
theorem GK.frames (K : GK w A₀ base outer mean mg mb h₀ g) (B : Below A₀ base outer h₀) : Frames outer h₀ (frLed (outer.filterMap (·.frame)) g) := fun b hb => by
  obtain ⟨_, o, ho, _⟩ := B.frames.mem hb
  obtain ⟨sl, hs⟩ := K.turn.frame b o ho hb
  exact ⟨o, sl, ho, frLed_has hb hs⟩
theorem hid_none {b : Addr} (e : h₀.get? b = none) : (hideAll h₀ (outer.filterMap (·.frame))).get? b = none := by
  cases q : (hideAll h₀ (outer.filterMap (·.frame))).get? b with
  | none => rfl
  | some o => have := of_hideAll _ q; rw [e] at this; cases this
theorem GK.none (K : GK w A₀ base outer mean mg mb h₀ g) {b : Addr} (e : g.get? b = none) : h₀.get? b = none := by
  cases q : h₀.get? b with
  | none => rfl
  | some o => obtain ⟨sl, hs⟩ := K.turn.up q; rw [e] at hs; cases hs
theorem GK.off (K : GK w A₀ base outer mean mg mb h₀ g) (N : News g L h news) : ∀ p ∈ news, p.1 ∉ outer.filterMap (·.frame) := fun p hp hm => by
  obtain ⟨_, o, ho, _⟩ := K.below.frames.mem hm
  rw [(N p hp).2.2] at ho; cases ho
/-- with the frames hidden, a turned ground is the old one -/
theorem GK.hide (K : GK w A₀ base outer mean mg mb h₀ g) (F : Fr g L h m) (N : News g L h news) :
    Fr (hideAll h₀ (outer.filterMap (·.frame))) L h m ∧ News (hideAll h₀ (outer.filterMap (·.frame))) L h (news ++ frLed (outer.filterMap (·.frame)) g) := by
  have hs : ∀ b o, (hideAll h₀ (outer.filterMap (·.frame))).get? b = some o → b ∉ outer.filterMap (·.frame) := fun b o e hm => by rw [hideAll_none _ hm] at e; cases e
  refine ⟨⟨F.ns, fun b o e => F.keep b o (K.turn.other b o (of_hideAll _ e) (hs b o e)), by rw [hideAll_size, ← K.turn.size]; exact F.above⟩, fun p hp => ?_⟩
  rcases List.mem_append.mp hp with hp | hp
  · exact ⟨(N p hp).1, (N p hp).2.1, hid_none (K.none (N p hp).2.2)⟩
  · obtain ⟨hm, he⟩ := frLed_mem hp
    refine ⟨F.keep _ _ he, fun q => ?_, hideAll_none _ hm⟩
    have := Heap.lt_size he
    have := F.above
    rw [q] at *
    exact absurd (Nat.lt_of_lt_of_le ‹_› this) (Nat.lt_irrefl _)
/-- and back -/
theorem unhide {all : Led} (B : Below A₀ base outer h₀) (XB : (hd.heap_1 w.params).In base) (TB : Top hdView loose mean mg mb base) (D : KtsDicts (outer.filterMap (·.frame)) h₀)
    (F : Fr (hideAll h₀ (outer.filterMap (·.frame))) L h m) (N : News (hideAll h₀ (outer.filterMap (·.frame))) L h all) (S : Frames outer h₀ all) :
    ∃ g, GK w A₀ base outer mean mg mb h₀ g ∧ Fr g L h m ∧ ∀ news : Led, (∀ p ∈ news, p ∈ all ∧ p.1 ∉ outer.filterMap (·.frame)) → News g L h news := by
  obtain ⟨T, k⟩ := kts_turn_at (h := h) (fs := outer.filterMap (·.frame)) (g := h₀)
    (fun b hb => by obtain ⟨o, _, ho, _⟩ := S b hb; exact ⟨o, ho⟩)
    (fun b o e nm => F.keep b o (hideAll_get _ e nm))
    (fun b o e hm => by
      obtain ⟨o', sl, ho, hp⟩ := S b hm
      rw [e] at ho; cases ho
      exact ⟨sl, (N _ hp).1⟩)
  have stays : base.StaysIn (ktsHeap h (outer.filterMap (·.frame)) h₀) := fun b o e => T.other b o (B.stays b o e) fun hm => by
    rw [(B.frames.mem hm).1] at e; cases e
  have B' : Below A₀ base outer (ktsHeap h (outer.filterMap (·.frame)) h₀) := ⟨B.stack, stays, B.frames.of_keeps fun b o e _ => by
    obtain ⟨sl, hs⟩ := T.up e
    exact ⟨_, hs, rfl⟩⟩
  refine ⟨_, ⟨T, B', XB.keeps stays, TB.keeps stays, D.turn T⟩, ⟨F.ns, k, by rw [T.size, ← hideAll_size (outer.filterMap (·.frame)) h₀]; exact F.above⟩, fun news hn p hp => ?_⟩
  obtain ⟨ha, nm⟩ := hn p hp
  refine ⟨(N p ha).1, (N p ha).2.1, T.none_ _ ?_⟩
  cases q : h₀.get? p.1 with
  | none => rfl
  | some o => have := hideAll_get (outer.filterMap (·.frame)) q nm; rw [(N p ha).2.2] at this; cases this
end
open LCg in
def EndK (w : World) (A₀ : Around) (base h₀ : Heap) (outer : List Env) (mean : ExcName → Option Value) (mg mb : Str → Option Value) (L : Addr) (m : Str → Option Value) (s : Shared) (src : Addr × Obj) (I : Addr) (oI : Obj) (C : Addr) (oC : Obj) (D : Addr) (ys : List Value) (rest : Value → Led → Prop) (y : Value) (s₂ : Shared) : Prop :=
  ∃ g' h' tk' news', s₂ = { s with heap := h', toks := tk' } ∧ GK w A₀ base outer mean mg mb h₀ g' ∧ Fr g' L h' m ∧ News g' L h' ((I, oI) :: (C, oC) :: (D, lst ys) :: news') ∧ Off3 I C D news' ∧ src ∈ news' ∧ rest y news'
open LCg in
/-- the turns of a comprehension whose element may turn the ground -/
def RestK (w : World) (A : Around) (A₀ : Around) (base h₀ : Heap) (outer : List Env) (mean : ExcName → Option Value) (mg mb : Str → Option Value) (L : Addr) (m : Str → Option Value) (env : Env) (elt : Expr) (x : Str) (scope : Scope) (cl : List (Str × Addr)) (s : Shared) (P : Nat → Value → Prop)
    (src : Addr × Obj) (Fin : List Value → Led → Prop) : Nat → Nat → List Value → Led → Prop
  | 0, _, ys, news => Fin ys news
  | k + 1, i, ys, news => ∀ v I oI C oC D m₂ g h tk (E' : Value → Shared → Prop), P i v → NsObj oC m₂ → m₂ x = some v → GK w A₀ base outer mean mg mb h₀ g → Fr g L h m → News g L h ((I, oI) :: (C, oC) :: (D, lst ys) :: news) → Off3 I C D news → ((@Ne Nat I C) ∧ (@Ne Nat I D) ∧ (@Ne Nat C D)) →
      wpAny (model PySem.Challenge.rw_xm0050_01.row.prog w) A (eval elt (compEnvC scope cl C env))
        (EndK w A₀ base h₀ outer mean mg mb L m s src I oI C oC D ys (fun y news' => RestK w A A₀ base h₀ outer mean mg mb L m env elt x scope cl s P src Fin k (i + 1) (ys ++ [y]) news')) E' { s with heap := h, toks := tk }
theorem RestK.zero {w : World} {A : Around} {A₀ : Around} {base h₀ : Heap} {outer : List Env} {mean : ExcName → Option Value} {mg mb : Str → Option Value} {L : Addr} {m : Str → Option Value} {env : Env} {elt : Expr} {x : Str} {scope : Scope} {cl : List (Str × Addr)} {s : Shared} {P : Nat → Value → Prop}
    {src : Addr × Obj} {Fin : List Value → Led → Prop} {i : Nat} {ys : List Value} {news : Led} (h : Fin ys news) : RestK w A A₀ base h₀ outer mean mg mb L m env elt x scope cl s P src Fin 0 i ys news := h
open LCg in
theorem RestK.succ {w : World} {A : Around} {A₀ : Around} {base h₀ : Heap} {outer : List Env} {mean : ExcName → Option Value} {mg mb : Str → Option Value} {L : Addr} {m : Str → Option Value} {env : Env} {elt : Expr} {x : Str} {scope : Scope} {cl : List (Str × Addr)} {s : Shared} {P : Nat → Value → Prop}
    {src : Addr × Obj} {Fin : List Value → Led → Prop} {k i : Nat} {ys : List Value} {news : Led}
    (h : ∀ v I oI C oC D m₂ g h tk (E' : Value → Shared → Prop), P i v → NsObj oC m₂ → m₂ x = some v → GK w A₀ base outer mean mg mb h₀ g → Fr g L h m → News g L h ((I, oI) :: (C, oC) :: (D, lst ys) :: news) → Off3 I C D news → ((@Ne Nat I C) ∧ (@Ne Nat I D) ∧ (@Ne Nat C D)) →
      wpAny (model PySem.Challenge.rw_xm0050_01.row.prog w) A (eval elt (compEnvC scope cl C env))
        (EndK w A₀ base h₀ outer mean mg mb L m s src I oI C oC D ys (fun y news' => RestK w A A₀ base h₀ outer mean mg mb L m env elt x scope cl s P src Fin k (i + 1) (ys ++ [y]) news')) E' { s with heap := h, toks := tk }) :
    RestK w A A₀ base h₀ outer mean mg mb L m env elt x scope cl s P src Fin (k + 1) i ys news := h
open LCg in
theorem rest_bridge {w : World} {A A₀ : Around} {base h₀ : Heap} {outer : List Env} {mean : ExcName → Option Value} {mg mb : Str → Option Value} {L : Addr} {m : Str → Option Value} {env : Env} {elt : Expr} {x : Str} {scope : Scope} {cl : List (Str × Addr)} {s : Shared} {P : Nat → Value → Prop}
    {src : Addr × Obj} {Fin : List Value → Led → Prop} (B : Below A₀ base outer h₀) (XB : (hd.heap_1 w.params).In base) (TB : Top hdView loose mean mg mb base) (DD : KtsDicts (outer.filterMap (·.frame)) h₀) :
    ∀ (k i : Nat) (ys : List Value) (news fl : Led), (∀ p ∈ news, p.1 ∉ outer.filterMap (·.frame)) → (∀ p ∈ fl, p.1 ∈ outer.filterMap (·.frame)) → Frames outer h₀ fl →
      RestK w A A₀ base h₀ outer mean mg mb L m env elt x scope cl s P src Fin k i ys news →
      CompRest PySem.Challenge.rw_xm0050_01.row.prog w A (hideAll h₀ (outer.filterMap (·.frame))) L m env elt x scope cl s (fun all => src ∈ all ∧ Frames outer h₀ all) P
        (fun ys all => ∃ news fl, all = news ++ fl ∧ (∀ p ∈ news, p.1 ∉ outer.filterMap (·.frame)) ∧ Frames outer h₀ fl ∧ Fin ys news) k i ys (news ++ fl)
  | 0, _, _, news, fl, hn, _, hF, R => .zero ⟨news, fl, rfl, hn, hF, R⟩
  | k + 1, i, ys, news, fl, hn, hfl, hF, R => .succ fun v I oI C oC D m₂ h tk E' hP hC hx F N off ne => by
    have offm := off.mem
    have nI : I ∉ outer.filterMap (·.frame) := fun hm => by obtain ⟨_, _, _, hp⟩ := hF I hm; exact (offm _ (List.mem_append_right _ hp)).1 rfl
    have nC : C ∉ outer.filterMap (·.frame) := fun hm => by obtain ⟨_, _, _, hp⟩ := hF C hm; exact (offm _ (List.mem_append_right _ hp)).2.1 rfl
    have nD : D ∉ outer.filterMap (·.frame) := fun hm => by obtain ⟨_, _, _, hp⟩ := hF D hm; exact (offm _ (List.mem_append_right _ hp)).2.2 rfl
    obtain ⟨g, G, Fg, Ng⟩ := unhide (w := w) B XB TB DD F N (hF.mono fun p hp => .tail _ (.tail _ (.tail _ (List.mem_append_right _ hp))))
    have N3 : News g L h ((I, oI) :: (C, oC) :: (D, lst ys) :: news) := Ng _ fun p hp => by
      rcases List.mem_cons.mp hp with rfl | hp
      · exact ⟨.head _, nI⟩
      rcases List.mem_cons.mp hp with rfl | hp
      · exact ⟨.tail _ (.head _), nC⟩
      rcases List.mem_cons.mp hp with rfl | hp
      · exact ⟨.tail _ (.tail _ (.head _)), nD⟩
      · exact ⟨.tail _ (.tail _ (.tail _ (List.mem_append_left _ hp))), hn p hp⟩
    refine wpAny_mono (R v I oI C oC D m₂ g h tk E' hP hC hx G Fg N3 (Off3.of fun p hp => offm p (List.mem_append_left _ hp)) ne) (fun y s₂ h₂ => ?_) fun _ _ e => e
    obtain ⟨g', h', tk', news', rfl, G', F', N', off', hsrc, R'⟩ := h₂
    obtain ⟨HF, HN⟩ := G'.hide F' N'
    have fr' := G'.frames B
    have no' : ∀ p ∈ frLed (outer.filterMap (·.frame)) g', p.1 ∈ outer.filterMap (·.frame) := fun p hp => (frLed_mem hp).1
    refine ⟨h', tk', news' ++ frLed (outer.filterMap (·.frame)) g', rfl, HF, HN, Off3.of fun p hp => ?_, ⟨List.mem_append_left _ hsrc, fr'.mono fun p hp => List.mem_append_right _ hp⟩,
      rest_bridge B XB TB DD k (i + 1) (ys ++ [y]) news' _ (fun p hp => G'.off N' p (.tail _ (.tail _ (.tail _ hp)))) no' fr' R'⟩
    rcases List.mem_append.mp hp with hp | hp
    · exact off'.mem p hp
    · exact ⟨fun q => nI (q ▸ no' p hp), fun q => nC (q ▸ no' p hp), fun q => nD (q ▸ no' p hp)⟩
abbrev tupO (its : Array Value) : Obj := { cls := .type "tuple", data := .seq its }
open LCg in
def FinK (w : World) (A₀ : Around) (base h₀ : Heap) (outer : List Env) (mean : ExcName → Option Value) (mg mb : Str → Option Value) (L : Addr) (m : Str → Option Value) (s : Shared) (y : Str) (Q : Flow → Shared → Prop) (ys : List Value) (news : Led) : Prop :=
  ∀ g D h tk, GK w A₀ base outer mean mg mb h₀ g → Fr g L h (fun z => if z = y then some (.ref D) else m z) → News g L h ((D, lst ys) :: news) → Off1 D news → Q .next { s with heap := h, toks := tk }
def SrcK (w : World) (A : Around) (A₀ : Around) (base h₀ : Heap) (outer : List Env) (mean : ExcName → Option Value) (mg mb : Str → Option Value) (L : Addr) (m : Str → Option Value) (env : Env) (elt : Expr) (x : Str) (scope : Scope) (cl : List (Str × Addr)) (y : Str) (Q : Flow → Shared → Prop) (xv : Value) (s₁ : Shared) : Prop :=
  ∃ ax its news, xv = .ref ax ∧ A.handled = none ∧ Fr h₀ L s₁.heap m ∧ News h₀ L s₁.heap news ∧ (ax, tupO its) ∈ news ∧ its.size ≤ sizeLine ∧
    ∀ g, RestK w A A₀ base h₀ outer mean mg mb L m env elt x scope cl { s₁ with heap := g } (fun i v => its[i]? = some v) (ax, tupO its) (FinK w A₀ base h₀ outer mean mg mb L m { s₁ with heap := g } y Q) its.size 0 [] news
theorem SrcK.intro {w : World} {A : Around} {A₀ : Around} {base h₀ : Heap} {outer : List Env} {mean : ExcName → Option Value} {mg mb : Str → Option Value} {L : Addr} {m : Str → Option Value} {env : Env} {elt : Expr} {x : Str} {scope : Scope} {cl : List (Str × Addr)} {y : Str} {Q : Flow → Shared → Prop} {s₁ : Shared} {ax : Addr} {its : Array Value} {news : Led}
    (hh : A.handled = none) (F : Fr h₀ L s₁.heap m) (N : News h₀ L s₁.heap news) (hm : (ax, tupO its) ∈ news) (hsz : its.size ≤ sizeLine)
    (h : ∀ g, RestK w A A₀ base h₀ outer mean mg mb L m env elt x scope cl { s₁ with heap := g } (fun i v => its[i]? = some v) (ax, tupO its) (FinK w A₀ base h₀ outer mean mg mb L m { s₁ with heap := g } y Q) its.size 0 [] news) :
    SrcK w A A₀ base h₀ outer mean mg mb L m env elt x scope cl y Q (.ref ax) s₁ := ⟨ax, its, news, rfl, hh, F, N, hm, hsz, h⟩
open LCg in
theorem Assign_ListComp_K {w : World} {A A₀ : Around} {E : Value → Shared → Prop} {s : Shared} {base h₀ : Heap} {outer : List Env} {mean : ExcName → Option Value} {mg mb : Str → Option Value} {L : Addr} {m : Str → Option Value} {env : Env}
    {elt iter : Expr} {x y : Str} {px py : Pos} {scope : Scope} {cl : List (Str × Addr)} {pos spos : Pos} {Q : Flow → Shared → Prop} (F₀ : Fr h₀ L s.heap m) (B : Below A₀ base outer h₀) (X : (hd.heap_1 w.params).In h₀) (T : Top hdView loose mean mg mb h₀) (XB : (hd.heap_1 w.params).In base) (TB : Top hdView loose mean mg mb base) (DD : KtsDicts (outer.filterMap (·.frame)) h₀)
    (hLe : env.locals = L)
    (hsw : swapsWith (.ListComp elt [⟨.Name x px, iter, [], 0⟩] scope pos) (some (.Name y py)) spos.line env = pure true)
    (hclos : closureFor scope env = pure cl) (hcell : ∀ z ∈ scope.names, z.2 ≠ .cell) (hkind : scope.kind = .function)
    (hnames : ∀ z ∈ scope.names, z.2 = .local → scope.names.lookup z.1 = some .local) (hx : scope.names.lookup x = some .local)
    (hy : env.kindOf y = some .local) (hp : (env.scope.kind == .class || (env.scope.kind == .module && env.locals != env.globals)) = false)
    (h : wpAny (model PySem.Challenge.rw_xm0050_01.row.prog w) A (eval iter env) (SrcK w A A₀ base h₀ outer mean mg mb L m env elt x scope cl y Q) E s)
    (hs : ∀ x, foldedSetIterable iter env x = pure x := by intro _; rfl) :
    wpAny (model PySem.Challenge.rw_xm0050_01.row.prog w) A (exec (.Assign [.Name y py] (.ListComp elt [⟨.Name x px, iter, [], 0⟩] scope pos) spos) env) Q E s := by
  subst hLe
  rw [exec_Assign_Name_used _ _ _ _ hsw]
  refine wpAny_bind (wpAny_standAt (wpAny_bind ?_))
  show wpAny _ A (do let _ ← comprehension (.ListComp elt [⟨.Name x px, iter, [], 0⟩] scope pos) scope env _ (newList []) false (eval iter env) (some (assign (.Name y py) env))) _ _ s
  refine wpAny_bind (wpAny_mono (wpAny_comprehension_free (use := some (assign (.Name y py) env)) (Q := fun _ s' => Q .next s') rfl hs hclos hkind hnames
    (wpAny_mono h (fun xv s₁ h₁ => ?_) fun _ _ e => e)) (fun _ s' hq => wpAny_pure (wpAny_pure hq)) fun _ _ e => e)
  obtain ⟨ax, its, news, rfl, hh, F, N, hm, hsz, R⟩ := h₁
  have G₀ : GK w A₀ base outer mean mg mb h₀ h₀ := ⟨KtsTurn.refl, B, X, T, DD⟩
  have fr₀ := G₀.frames B
  have no₀ : ∀ p ∈ frLed (outer.filterMap (·.frame)) h₀, p.1 ∈ outer.filterMap (·.frame) := fun p hp => (frLed_mem hp).1
  obtain ⟨HF, HN⟩ := G₀.hide F N
  have hl : s₁.heap.IsTuple ax its := ⟨_, (N _ hm).1, rfl, _, rfl⟩
  have hlt : ax < s₁.heap.objs.size := Heap.lt_size (N _ hm).1
  have up : ∀ b o, s₁.heap.get? b = some o → (s₁.heap.push { cls := .type "tuple_iterator", data := .fields #[.ref ax, .int 0 0] }).get? b = some o := fun b o e => Heap.get?_push_of_some _ e
  refine wpAny_pyIter_tuple hl ?_
  refine block_U (Walks.tuple hh s₁.heap.objs.size ax (Nat.ne_of_lt hlt) its) hsz (fun i h st => by obtain ⟨o, e, _⟩ := st.1; exact ⟨o, e⟩)
    (fun i h h' o nw st e e' _ N' S => ⟨by obtain ⟨o', q, r⟩ := st.1; rw [e] at q; cases q; exact ⟨o, e', r⟩, ⟨_, (N' _ S.1).1, rfl, _, rfl⟩⟩)
    hcell hkind hx ⟨⟨_, Heap.get?_push_size _ rfl, rfl, rfl⟩, hl.push _⟩ (fun b hb => ?_)
    (HF.keeps up) (HN.grown up) (Nat.ne_of_lt F.ns.lt) (next_is_new HF) (fun p hp => Nat.ne_of_lt (Heap.lt_size (HN p hp).1)) ⟨List.mem_append_left _ hm, fr₀.mono fun p hp => List.mem_append_right _ hp⟩
    (rest_bridge B XB TB DD its.size 0 [] news _ (G₀.off N) no₀ fr₀ (R _)) ?_
  · show b < (s₁.heap.push _).objs.size
    rw [Heap.size_push]
    rcases List.mem_cons.mp hb with rfl | hb
    · exact Nat.lt_succ_self _
    · rw [List.mem_singleton.mp hb]; exact Nat.lt_succ_of_lt hlt
  · intro D C h' tk m' ys all F' N' o1 hn hC₀ hD₀ hCL hDL hCD offC fin
    obtain ⟨news', fl, rfl, hn', hF, fin⟩ := fin
    have o1m : ∀ {l : Led}, Off1 D l → ∀ p ∈ l, p.1 ≠ D := fun {l} => by
      induction l with
      | nil => intro _ p hp; cases hp
      | cons a r ih => intro o p hp; rcases List.mem_cons.mp hp with rfl | hp
                       · exact o.1
                       · exact ih o.2 p hp
    have nD : D ∉ outer.filterMap (·.frame) := fun hm => by obtain ⟨_, _, _, hp⟩ := hF D hm; exact o1m o1 _ (List.mem_append_right _ hp) rfl
    have nC : C ∉ outer.filterMap (·.frame) := fun hm => by obtain ⟨_, _, _, hp⟩ := hF C hm; exact offC _ (List.mem_append_right _ hp) rfl
    obtain ⟨g, G, Fg, Ng⟩ := unhide (w := w) B XB TB DD F' N' (hF.mono fun p hp => .tail _ (List.mem_append_right _ hp))
    have N3 : News g env.locals h' ((D, lst ys) :: news') := Ng _ fun p hp => by
      rcases List.mem_cons.mp hp with rfl | hp
      · exact ⟨.head _, nD⟩
      · exact ⟨.tail _ (List.mem_append_left _ hp), hn' p hp⟩
    have hCg : g.get? C = none := G.turn.none_ _ (by
      cases q : h₀.get? C with
      | none => rfl
      | some o => have := hideAll_get (outer.filterMap (·.frame)) q nC; rw [hC₀] at this; cases this)
    have o1' : ∀ {l l' : Led}, Off1 D (l ++ l') → Off1 D l := fun {l l'} => by
      induction l with
      | nil => intro _; trivial
      | cons a r ih => intro o; exact ⟨o.1, ih o.2⟩
    show wpAny _ A (assign (.Name y py) env (.ref D)) _ _ _
    refine wpAny_assign_Name (wpAny_storeName_local hy Fg.ns (fun h₂ hn₂ hs₂ => ?_) hp)
    have hL₀ : g.get? env.locals = none := Heap.get?_none_of_le Fg.above
    have F₂ : Fr g env.locals h₂ (fun z => if z = y then some (.ref D) else m z) := ⟨hn₂, fun b o e => hs₂.extBut b o (fun q => by rw [q, hL₀] at e; cases e) (Fg.keep b o e), Fg.above⟩
    refine ⟨m', hn.sameBut hs₂ hCL, fun h'' hs'' => fin g D h'' _ G (F₂.change hs'' hCL hCg) (fun p hp => ?_) (o1' o1)⟩
    have z : h₂.get? p.1 = some p.2 := hs₂.extBut _ _ (N3 p hp).2.1 (N3 p hp).1
    refine ⟨hs''.extBut _ _ ?_ z, (N3 p hp).2⟩
    rcases List.mem_cons.mp hp with rfl | hp
    · exact Ne.symm hCD
    · exact offC p (List.mem_append_left _ hp)
/-- what a call does that changes what stands and may turn the ground -/
def DoesToK (w : World) (need : Nat) (f : Addr) (vs : List Value) (news : Led) (ok : Value → Led → Prop) : Prop :=
  ∀ (mean : ExcName → Option Value) (mg mb : Str → Option Value) (dp un : Nat) (gd : Option (List Code)) (cn : Str) (cs : Scope) (a : Addr) (ccd : Value) (cl : List (Str × Addr)) (outer : List Env) (A₀ : Around) (base h₀ : Heap) (L : Addr) (m : Str → Option Value) (s : Shared) (Q E : Value → Shared → Prop),
    Below A₀ base outer h₀ → Fr h₀ L s.heap m → (hd.heap_1 w.params).In h₀ → News h₀ L s.heap news → Top hdView loose mean mg mb h₀ → (hd.heap_1 w.params).In base → Top hdView loose mean mg mb base → KtsDicts (outer.filterMap (·.frame)) h₀ → cs.kind = .function →
    dp + need < recursionLimit → un + 8 * need < cLine →
    (∀ r news' g h' tk', KtsTurn (outer.filterMap (·.frame)) h₀ g → Fr g L h' m → News g L h' news' → Below A₀ base outer g → (hd.heap_1 w.params).In g → Top hdView loose mean mg mb g → KtsDicts (outer.filterMap (·.frame)) g → ok r news' → Q r { s with heap := h', toks := tk' }) →
    wpAny (model PySem.Challenge.rw_xm0050_01.row.prog w) (ktrTop dp un gd cn cs L a ccd cl outer) (call (.ref f) vs) Q E s
end
section
theorem DoesK.mono {w : World} {need : Nat} {f : Addr} {vs : List Value} {news : Led} {ok ok' : Value → Led → Prop} (D : DoesK w need f vs news ok) (h : ∀ r tl, ok r tl → ok' r tl) : DoesK w need f vs news ok' := by
  intro mean mg mb dp un gd cn cs a ccd cl outer A₀ base h₀ L m s Q E B F X N T XB TB DD hk hd hu ret
  exact D mean mg mb dp un gd cn cs a ccd cl outer A₀ base h₀ L m s Q E B F X N T XB TB DD hk hd hu fun r tl g h' tk' T' F' N' l B' X' P' D' o => ret r tl g h' tk' T' F' N' l B' X' P' D' (h r tl o)
theorem fits_in {n bits : Int} (h : n.natAbs ≤ 100) (hb : 8 ≤ bits) : fitsB n bits = true := by
  unfold fitsB
  have h1 : (2 : Nat) ^ 7 ≤ 2 ^ (bits - 1).toNat := Nat.pow_le_pow_right (by decide) (by omega)
  have h2 : ((2 ^ (bits - 1).toNat : Nat) : Int) = (2 : Int) ^ (bits - 1).toNat := by simp
  rw [Bool.and_eq_true, decide_eq_true_eq, decide_eq_true_eq]
  omega
theorem fits_in16 {n bits : Int} (h : n.natAbs ≤ 1200) (hb : 16 ≤ bits) : fitsB n bits = true := by
  unfold fitsB
  have h1 : (2 : Nat) ^ 15 ≤ 2 ^ (bits - 1).toNat := Nat.pow_le_pow_right (by decide) (by omega)
  have h2 : ((2 ^ (bits - 1).toNat : Nat) : Int) = (2 : Int) ^ (bits - 1).toNat := by simp
  rw [Bool.and_eq_true, decide_eq_true_eq, decide_eq_true_eq]
  omega
theorem made_9 {S : Int} (h : S.natAbs < 10 ^ 6) : madeC S 0 9 = madeC S 0 12 ∧ madeE S 0 9 = madeE S 0 12 := by
  have e : madeN S.natAbs 0 9 = madeN S.natAbs 0 12 := by
    by_cases h0 : S.natAbs = 0
    · rw [h0, madeN_zero 0 (by decide), madeN_zero 0 (by decide)]
    · rw [madeN_few 0 h0 (figsN_le (by decide) (Nat.lt_trans h (by decide))), madeN_few 0 h0 (figsN_le (by decide) (Nat.lt_trans h (by decide)))]
  constructor
  · show (if S < 0 then -((madeN S.natAbs 0 9).1 : Int) else ((madeN S.natAbs 0 9).1 : Int)) = (if S < 0 then -((madeN S.natAbs 0 12).1 : Int) else ((madeN S.natAbs 0 12).1 : Int))
    rw [e]
  · show (madeN S.natAbs 0 9).2 = (madeN S.natAbs 0 12).2
    rw [e]
/-- what is told with eight bits -/
inductive Told8 (x y z : Int) : Value → Led → Prop
  | ov (t : Tok) (h : fitsB x 8 = false) : Told8 x y z (.str "OV" t) []
  | dz (t : Tok) (h : fitsB x 8 = true) (h0 : y = 0) : Told8 x y z (.str "DZ" t) []
  | whole (t : Tok) (h : fitsB x 8 = true) (h0 : ¬ y = 0) (hz : z.natAbs ≤ 1200) : Told8 x y z (.int z t) []
  | dec (a : Addr) (t u : Tok) (h : fitsB x 8 = true) (h0 : ¬ y = 0) (hz : z.natAbs ≤ 1200) : Told8 x y z (.ref a) [(a, tup2 (madeC z 0 12) t (madeE z 0 12) u)]
/-- what is told with more -/
inductive Told16 (y z : Int) : Value → Led → Prop
  | dz (t : Tok) (h0 : y = 0) : Told16 y z (.str "DZ" t) []
  | whole (t : Tok) (h0 : ¬ y = 0) (hz : z.natAbs ≤ 1200) : Told16 y z (.int z t) []
theorem told_8 (w : World) (news : Led) {op : Str} {x y z : Int} (H : OpC x y op z) (to tx ty tb : Tok) (hxs : x.natAbs ≤ 300) (hys : y.natAbs ≤ 3) : DoesK w 20 251 [.str op to, .int x tx, .int y ty, .int 8 tb] news (Told8 x y z) := by
  have hy : fitsB y 8 = true := fits_in (by omega) (by decide)
  cases hx : fitsB x 8 with
  | false => exact (told_ov w news H to tx ty tb hx (by decide)).mono fun r tl o => by cases o with | mk t => exact .ov t hx
  | true =>
    by_cases hy0 : y = 0
    · exact (told_dz w news H to tx ty tb hx hy hy0 (by decide)).mono fun r tl o => by cases o with | mk t => exact .dz t hx hy0
    · have hz := H.lt hy0 hxs hys
      have h9 := made_9 (S := z) (by omega)
      refine (told_ok w news H to tx ty tb hx hy hy0 hxs hys (by decide)).toK.mono fun r tl o => ?_
      cases o with
      | whole t h => exact .whole t hx hy0 hz
      | dec a t u h => rw [h9.1, h9.2]; exact .dec a t u hx hy0 hz
theorem told_16 (w : World) (news : Led) {op : Str} {x y z bits : Int} (H : OpC x y op z) (to tx ty tb : Tok) (hxs : x.natAbs ≤ 300) (hys : y.natAbs ≤ 3) (hb : 16 ≤ bits ∧ bits ≤ 64) : DoesK w 20 251 [.str op to, .int x tx, .int y ty, .int bits tb] news (Told16 y z) := by
  have hy : fitsB y bits = true := fits_in (by omega) (by omega)
  have hx : fitsB x bits = true := fits_in16 (by omega) (by omega)
  by_cases hy0 : y = 0
  · exact (told_dz w news H to tx ty tb hx hy hy0 (by omega)).mono fun r tl o => by cases o with | mk t => exact .dz t hy0
  · have hz := H.lt hy0 hxs hys
    refine (told_ok w news H to tx ty tb hx hy hy0 hxs hys (by omega)).toK.mono fun r tl o => ?_
    cases o with
    | whole t h => exact .whole t hy0 hz
    | dec a t u h => rw [fits_in16 (n := z) hz hb.1] at h; cases h
open LCg in
/-- one turn of the comprehension: the call, and what it brings -/
theorem told_turn {w : World} {need : Nat} {f : Addr} {vs : List Value} {news : Led} {ok : Value → Led → Prop} {mean : ExcName → Option Value} {mg mb : Str → Option Value} {dp un : Nat} {gd : Option (List Code)} {cn : Str} {cs : Scope} {a : Addr} {ccd : Value} {cl : List (Str × Addr)} {outer : List Env} {A₀ : Around} {base h₀ g : Heap} {L : Addr} {m : Str → Option Value} {s₀ s : Shared} {E : Value → Shared → Prop}
    {src : Addr × Obj} {I C D : Addr} {oI oC : Obj} {ys : List Value} {rest : Value → Led → Prop}
    (N : News g L s.heap ((I, oI) :: (C, oC) :: (D, lst ys) :: news)) (F : Fr g L s.heap m) (hs : ∃ h tk, s = { s₀ with heap := h, toks := tk }) (off : Off3 I C D news) (hsrc : src ∈ news) (T : KtsTurn (outer.filterMap (·.frame)) h₀ g) (B : Below A₀ base outer g) (X : (hd.heap_1 w.params).In g) (P : Top hdView loose mean mg mb g) (DD : KtsDicts (outer.filterMap (·.frame)) g)
    (XB : (hd.heap_1 w.params).In base) (TB : Top hdView loose mean mg mb base) (Dk : DoesK w need f vs ((I, oI) :: (C, oC) :: (D, lst ys) :: news) ok) (hk : cs.kind = .function) (hd : dp + need < recursionLimit) (hu : un + 8 * need < cLine)
    (K : ∀ r tl, ok r tl → rest r (tl ++ news)) :
    wpAny (model PySem.Challenge.rw_xm0050_01.row.prog w) (ktrTop dp un gd cn cs L a ccd cl outer) (call (.ref f) vs) (EndK w A₀ base h₀ outer mean mg mb L m s₀ src I oI C oC D ys rest) E s := by
  obtain ⟨h, tk, rfl⟩ := hs
  refine Dk mean mg mb dp un gd cn cs a ccd cl outer A₀ base g L m _ _ E B F X N P XB TB DD hk hd hu fun r tl g' h' tk' T' F' N' l B' X' P' D' o => ?_
  have om := off.mem
  refine ⟨g', h', tk', tl ++ news, rfl, ⟨T.trans T', B', X', P', D'⟩, F', fun p hp => N' p ?_, Off3.of fun p hp => ?_, List.mem_append_right _ hsrc, K r tl o⟩
  · rcases List.mem_cons.mp hp with rfl | hp
    · exact List.mem_append_right _ (.head _)
    rcases List.mem_cons.mp hp with rfl | hp
    · exact List.mem_append_right _ (.tail _ (.head _))
    rcases List.mem_cons.mp hp with rfl | hp
    · exact List.mem_append_right _ (.tail _ (.tail _ (.head _)))
    rcases List.mem_append.mp hp with hp | hp
    · exact List.mem_append_left _ hp
    · exact List.mem_append_right _ (.tail _ (.tail _ (.tail _ hp)))
  · rcases List.mem_append.mp hp with hp | hp
    · exact ⟨Ne.symm (Nat.ne_of_lt (l _ (.head _) _ hp)), Ne.symm (Nat.ne_of_lt (l _ (.tail _ (.head _)) _ hp)), Ne.symm (Nat.ne_of_lt (l _ (.tail _ (.tail _ (.head _))) _ hp))⟩
    · exact om p hp
/-- what is told with eight bits, as one value; an object stands beside it: its tuple, or any old one -/
inductive Told8V (x y z : Int) : Value → Addr → Obj → Prop
  | ov (t : Tok) (h : fitsB x 8 = false) (a : Addr) (o : Obj) : Told8V x y z (.str "OV" t) a o
  | dz (t : Tok) (h : fitsB x 8 = true) (h0 : y = 0) (a : Addr) (o : Obj) : Told8V x y z (.str "DZ" t) a o
  | whole (t : Tok) (h : fitsB x 8 = true) (h0 : ¬ y = 0) (hz : z.natAbs ≤ 1200) (a : Addr) (o : Obj) : Told8V x y z (.int z t) a o
  | dec (a : Addr) (t u : Tok) (h : fitsB x 8 = true) (h0 : ¬ y = 0) (hz : z.natAbs ≤ 1200) : Told8V x y z (.ref a) a (tup2 (madeC z 0 12) t (madeE z 0 12) u)
/-- what is told with more -/
inductive Told16V (y z : Int) : Value → Prop
  | dz (t : Tok) (h0 : y = 0) : Told16V y z (.str "DZ" t)
  | whole (t : Tok) (h0 : ¬ y = 0) (hz : z.natAbs ≤ 1200) : Told16V y z (.int z t)
open LCg in
theorem told_turn8 {w : World} {need : Nat} {f : Addr} {vs : List Value} {news : Led} {x y z : Int} {mean : ExcName → Option Value} {mg mb : Str → Option Value} {dp un : Nat} {gd : Option (List Code)} {cn : Str} {cs : Scope} {a : Addr} {ccd : Value} {cl : List (Str × Addr)} {outer : List Env} {A₀ : Around} {base h₀ g : Heap} {L : Addr} {m : Str → Option Value} {s₀ s : Shared} {E : Value → Shared → Prop}
    {src : Addr × Obj} {I C D : Addr} {oI oC : Obj} {ys : List Value} {rest : Value → Led → Prop}
    (N : News g L s.heap ((I, oI) :: (C, oC) :: (D, lst ys) :: news)) (F : Fr g L s.heap m) (hs : ∃ h tk, s = { s₀ with heap := h, toks := tk }) (off : Off3 I C D news) (hsrc : src ∈ news) (T : KtsTurn (outer.filterMap (·.frame)) h₀ g) (B : Below A₀ base outer g) (X : (hd.heap_1 w.params).In g) (P : Top hdView loose mean mg mb g) (DD : KtsDicts (outer.filterMap (·.frame)) g)
    (XB : (hd.heap_1 w.params).In base) (TB : Top hdView loose mean mg mb base) (Dk : DoesK w need f vs ((I, oI) :: (C, oC) :: (D, lst ys) :: news) (Told8 x y z)) (hk : cs.kind = .function) (hd : dp + need < recursionLimit) (hu : un + 8 * need < cLine)
    (K : ∀ r b o, Told8V x y z r b o → rest r ((b, o) :: news)) :
    wpAny (model PySem.Challenge.rw_xm0050_01.row.prog w) (ktrTop dp un gd cn cs L a ccd cl outer) (call (.ref f) vs) (EndK w A₀ base h₀ outer mean mg mb L m s₀ src I oI C oC D ys rest) E s := by
  obtain ⟨h, tk, rfl⟩ := hs
  refine Dk mean mg mb dp un gd cn cs a ccd cl outer A₀ base g L m _ _ E B F X N P XB TB DD hk hd hu fun r tl g' h' tk' T' F' N' l B' X' P' D' o => ?_
  have om := off.mem
  have one : ∃ b ob, Told8V x y z r b ob ∧ (b, ob) ∈ tl ++ news ∧ b ≠ I ∧ b ≠ C ∧ b ≠ D := by
    have old : ∀ {P : Addr → Obj → Prop}, P src.1 src.2 → ∃ b ob, P b ob ∧ (b, ob) ∈ tl ++ news ∧ b ≠ I ∧ b ≠ C ∧ b ≠ D := fun h => ⟨src.1, src.2, h, List.mem_append_right _ hsrc, om src hsrc⟩
    cases o with
    | ov t h => exact old (.ov t h _ _)
    | dz t h h0 => exact old (.dz t h h0 _ _)
    | whole t h h0 hz => exact old (.whole t h h0 hz _ _)
    | dec b t u h h0 hz => exact ⟨b, _, .dec b t u h h0 hz, .head _, Ne.symm (Nat.ne_of_lt (l _ (.head _) _ (.head _))), Ne.symm (Nat.ne_of_lt (l _ (.tail _ (.head _)) _ (.head _))), Ne.symm (Nat.ne_of_lt (l _ (.tail _ (.tail _ (.head _))) _ (.head _)))⟩
  obtain ⟨b, ob, hT, hb, n1, n2, n3⟩ := one
  refine ⟨g', h', tk', (b, ob) :: news, rfl, ⟨T.trans T', B', X', P', D'⟩, F', fun p hp => N' p ?_, Off3.of fun p hp => ?_, .tail _ hsrc, K r b ob hT⟩
  · rcases List.mem_cons.mp hp with rfl | hp
    · exact List.mem_append_right _ (.head _)
    rcases List.mem_cons.mp hp with rfl | hp
    · exact List.mem_append_right _ (.tail _ (.head _))
    rcases List.mem_cons.mp hp with rfl | hp
    · exact List.mem_append_right _ (.tail _ (.tail _ (.head _)))
    rcases List.mem_cons.mp hp with rfl | hp
    · rcases List.mem_append.mp hb with hb | hb
      · exact List.mem_append_left _ hb
      · exact List.mem_append_right _ (.tail _ (.tail _ (.tail _ hb)))
    · exact List.mem_append_right _ (.tail _ (.tail _ (.tail _ hp)))
  · rcases List.mem_cons.mp hp with rfl | hp
    · exact ⟨n1, n2, n3⟩
    · exact om p hp
open LCg in
theorem told_turn16 {w : World} {need : Nat} {f : Addr} {vs : List Value} {news : Led} {y z : Int} {mean : ExcName → Option Value} {mg mb : Str → Option Value} {dp un : Nat} {gd : Option (List Code)} {cn : Str} {cs : Scope} {a : Addr} {ccd : Value} {cl : List (Str × Addr)} {outer : List Env} {A₀ : Around} {base h₀ g : Heap} {L : Addr} {m : Str → Option Value} {s₀ s : Shared} {E : Value → Shared → Prop}
    {src : Addr × Obj} {I C D : Addr} {oI oC : Obj} {ys : List Value} {rest : Value → Led → Prop}
    (N : News g L s.heap ((I, oI) :: (C, oC) :: (D, lst ys) :: news)) (F : Fr g L s.heap m) (hs : ∃ h tk, s = { s₀ with heap := h, toks := tk }) (off : Off3 I C D news) (hsrc : src ∈ news) (T : KtsTurn (outer.filterMap (·.frame)) h₀ g) (B : Below A₀ base outer g) (X : (hd.heap_1 w.params).In g) (P : Top hdView loose mean mg mb g) (DD : KtsDicts (outer.filterMap (·.frame)) g)
    (XB : (hd.heap_1 w.params).In base) (TB : Top hdView loose mean mg mb base) (Dk : DoesK w need f vs ((I, oI) :: (C, oC) :: (D, lst ys) :: news) (Told16 y z)) (hk : cs.kind = .function) (hd : dp + need < recursionLimit) (hu : un + 8 * need < cLine)
    (K : ∀ r, Told16V y z r → rest r news) :
    wpAny (model PySem.Challenge.rw_xm0050_01.row.prog w) (ktrTop dp un gd cn cs L a ccd cl outer) (call (.ref f) vs) (EndK w A₀ base h₀ outer mean mg mb L m s₀ src I oI C oC D ys rest) E s :=
  told_turn N F hs off hsrc T B X P DD XB TB Dk hk hd hu fun r tl o => by
    cases o with
    | dz t h0 => exact K _ (.dz t h0)
    | whole t h0 hz => exact K _ (.whole t h0 hz)
theorem item_two {prog : Program} {w : World} {A : Around} {E : Value → Shared → Prop} {s : Shared} {h₀ : Heap} {L a : Addr} {news : Led} {n : Nat} {Q : Value → Shared → Prop} {value slice : Expr} {k : Int} {u : Tok} {o1 o2 : Str} {t1 t2 : Tok}
    (N : News h₀ L s.heap news) (hm : (a, W.listOf #[.str o1 t1, .str o2 t2] n) ∈ news) (h0 : 0 ≤ k) (h1 : k < 2) (h : ∀ op t, (op = o1 ∨ op = o2) → Q (.str op t) s)
    (hs : subscripted slice false (.ref a) (.int k u) = operate [.ref a, .int k u] (getItem (.ref a) (.int k u)) := by with_unfolding_all rfl) :
    wpAny (model prog w) A (subscriptTail value slice (.ref a) (.int k u)) Q E s := by
  have hl := News.isList N hm
  obtain hk | hk : k = 0 ∨ k = 1 := by omega
  · subst hk
    exact tail_any hl.typeIs slot_list_getitem.lookup (wpAny_getItem_list hl (by decide) (by decide) (x := .str o1 t1) rfl (h _ _ (.inl rfl))) hs
  · subst hk
    exact tail_any hl.typeIs slot_list_getitem.lookup (wpAny_getItem_list hl (by decide) (by decide) (x := .str o2 t2) rfl (h _ _ (.inr rfl))) hs
theorem opc_ex {x y : Int} {op : Str} (h : op = Str.ofString "\\" ∨ op = Str.ofString "MOD") : ∃ z, OpC x y op z := by
  rcases h with rfl | rfl
  · exact ⟨_, .cut⟩
  · exact ⟨_, .mod⟩
end
section
theorem words93 : True := by
  k_with_none
  k_with "m k1" => (first | k_asm | ktn_no "m use: Below")
  k_with "m k2" => (first | k_asm | ktn_no "m use: Fr")
  k_with "m k3" => (first | k_asm | ktn_no "m use: In")
  k_with "m k5" => (first | k_asm | ktn_no "m use: Top")
  k_with "m k6" => (first | assumption | exact rfl | ktn_no "m use: kind")
  k_with "m k7" => (first | exact room1 (by with_reducible assumption) (by decide) | exact room2 (by with_reducible assumption) (by decide) | ktr_room | ktn_no "m use: room")
  k_with "m k8" => (first | exact units1 (by with_reducible assumption) (by decide) | exact units2 (by with_reducible assumption) (by decide) | ktr_units | ktn_no "m use: units")
  k_with "m enter" => ((refine wpAny_call ?_; k_dflt cell_enter))
  k_with "m sub" => (first | with_reducible exact fun _ h => h | with_reducible exact fun _ h => List.mem_cons_of_mem _ h | with_reducible exact fun _ h => List.mem_cons_of_mem _ (List.mem_cons_of_mem _ h) | with_reducible exact fun _ h => List.mem_cons_of_mem _ (List.mem_cons_of_mem _ (List.mem_cons_of_mem _ h)) | kcj_all)
  k_with "m drop" => (first | with_reducible assumption | exact cb_drop (by with_reducible assumption) (by k_extra "m sub") | k_asm | (refine' cb_drop (by assumption) (by kcj_all)) | ktn_no "m drop: the ledger")
  k_with "m fact" => (first | assumption | (constructor <;> assumption) | omega | (simp only [decide_eq_true_eq, decide_eq_false_iff_not, Int.not_lt, Int.not_le, gt_iff_lt, ge_iff_le] at *; omega) | ktn_no "m fact")
  k_with "!call ref" => ((k_here; (with_reducible show wpAny _ _ (PySem.call (Value.ref 44) _) _ _ _); k_dflt (refine' Does.use (by k_asm) (does_figs _ _ _ _ (by k_extra "m fact")) (by k_extra "m k1") (by k_extra "m k2") (by k_extra "m k3") (by k_extra "m k5") (by k_extra "m k6") (by k_extra "m k7") (by k_extra "m k8") ?_; intro r9 tl9 h9 tk9 F9 N9 l9 o9; cases o9; (try simp only [List.nil_append] at N9); clear l9; (try dsimp only); (try k_fold))))
  k_with "!call ref" => ((k_here; (with_reducible show wpAny _ _ (PySem.call (Value.ref 51) _) _ _ _); k_dflt (refine' Does.use (by k_asm) (does_rnd _ _ _ _ _ _ (by k_extra "m fact") (by k_extra "m fact") (by k_extra "m fact") (by k_extra "m fact")) (by k_extra "m k1") (by k_extra "m k2") (by k_extra "m k3") (by k_extra "m k5") (by k_extra "m k6") (by k_extra "m k7") (by k_extra "m k8") ?_; intro r9 tl9 h9 tk9 F9 N9 l9 o9; cases o9; (try simp only [List.nil_append] at N9); clear l9; (try dsimp only); (try k_fold))))
  k_with "m lt" => (first | assumption | exact ktn_ltOf (by assumption) | ((with_reducible rename _ ∧ AllLt _ _ => hlt); exact ktn_ltOf hlt.2) | exact ktn_ltOf (And.right (by assumption)) | exact ktn_ltOf (And.right (And.right (by assumption))) | exact ktn_ltOf (And.right (And.right (And.right (by assumption)))) | exact ktn_ltOf (And.right (And.right (And.right (And.right (by assumption))))) | exact ktn_ltOf (And.right (And.right (And.right (And.right (And.right (by assumption)))))) | exact ktn_ltOf (And.right (And.right (And.right (And.right (And.right (And.right (by assumption))))))) | ktn_no "m lt")
  k_with "m back" => ((intro r9 tl9 h9 tk9 F9 N9 l9 o9; cases o9; all_goals ((try simp only [List.nil_append, List.cons_append] at N9); (first | (replace l9 := newLt l9; (try k_lt l9)) | clear l9); (try dsimp only); (try k_fold))))
  k_with "!call ref" => ((k_here; (with_reducible show wpAny _ _ (PySem.call (Value.ref 58) _) _ _ _); k_dflt (refine' Does.use (by k_asm) (does_made _ _ _ _ _ _ _ _ (by k_extra "m fact") (by k_extra "m fact") (by k_extra "m fact")) (by k_extra "m k1") (by k_extra "m k2") (by k_extra "m k3") (by k_extra "m k5") (by k_extra "m k6") (by k_extra "m k7") (by k_extra "m k8") ?_; k_extra "m back")))
  k_with "m sm" => (first | assumption | exact Sm.of45 (by assumption) | exact Sm.p10 (by k_extra "m fact") | exact Sm.lit (by omega) | ktn_no "m sm")
  k_with "!binaryOp Mult int int" => ((k_here; (with_reducible refine PyProof.Rows.mul_int ?_ (IntMulOk.of_bits (Sm.bits (by k_extra "m sm")) (Sm.bits (by k_extra "m sm"))))))
  k_with "!call ref" => ((k_here; (with_reducible show wpAny _ _ (PySem.call (Value.ref 72) _) _ _ _); k_dflt (refine' Does.use (by k_asm) (does_fits _ _ _ _ _ _ (by k_extra "m fact")) (by k_extra "m k1") (by k_extra "m k2") (by k_extra "m k3") (by k_extra "m k5") (by k_extra "m k6") (by k_extra "m k7") (by k_extra "m k8") ?_; k_extra "m back")))
  k_with "!call ref" => ((k_here; (with_reducible show wpAny _ _ (PySem.call (Value.ref 86) _) _ _ _); k_dflt (refine' Does.use (by k_asm) (does_decimal_int _ _ _ _ _ _ (by k_extra "m fact") (by k_extra "m fact")) (by k_extra "m k1") (by k_extra "m k2") (by k_extra "m k3") (by k_extra "m k5") (by k_extra "m k6") (by k_extra "m k7") (by k_extra "m k8") ?_; k_extra "m back")))
  k_with "!call ref" => ((k_here; (with_reducible show wpAny _ _ (PySem.call (Value.ref 86) _) _ _ _); k_dflt (refine' Does.use (by k_asm) (does_decimal_tup _ _ _ _ _ _ _ _ _ (by k_mem) (by k_extra "m fact") (by k_extra "m fact") (by k_extra "m fact")) (by k_extra "m k1") (by k_extra "m k2") (by k_extra "m k3") (by k_extra "m k5") (by k_extra "m k6") (by k_extra "m k7") (by k_extra "m k8") ?_; k_extra "m back")))
  k_with "!call ref" => ((k_here; (with_reducible show wpAny _ _ (PySem.call (Value.ref 94) _) _ _ _); k_dflt (refine' Does.use (by k_asm) (does_negated _ _ _ _ _ _ _ (by k_mem)) (by k_extra "m k1") (by k_extra "m k2") (by k_extra "m k3") (by k_extra "m k5") (by k_extra "m k6") (by k_extra "m k7") (by k_extra "m k8") ?_; k_extra "m back")))
  k_with "!call ref" => ((k_here; (with_reducible show wpAny _ _ (PySem.call (Value.ref 101) _) _ _ _); k_dflt (refine' Does.use (by k_asm) (does_alike _ _ _ _ _ _ _ _ _ _ _ _ (by k_mem) (by k_mem) (by k_extra "m fact") (by k_extra "m fact") (by k_extra "m fact") (by k_extra "m fact")) (by k_extra "m k1") (by k_extra "m k2") (by k_extra "m k3") (by k_extra "m k5") (by k_extra "m k6") (by k_extra "m k7") (by k_extra "m k8") ?_; k_extra "m back")))
  k_with "!call ref" => ((k_here; (with_reducible show wpAny _ _ (PySem.call (Value.ref 108) _) _ _ _); k_dflt (refine' Does.use (by k_asm) (does_add _ _ _ _ _ _ _ _ _ _ _ _ _ _ (by k_mem) (by k_mem) (by k_extra "m fact") (by k_extra "m fact") (by k_extra "m fact") (by k_extra "m fact") (by k_extra "m fact") (by k_extra "m fact")) (by k_extra "m k1") (by k_extra "m k2") (by k_extra "m k3") (by k_extra "m k5") (by k_extra "m k6") (by k_extra "m k7") (by k_extra "m k8") ?_; k_extra "m back")))
  k_with "!call ref" => ((k_here; (with_reducible show wpAny _ _ (PySem.call (Value.ref 122) _) _ _ _); k_dflt (refine' Does.use (by k_asm) (does_mul _ _ _ _ _ _ _ _ _ _ _ _ _ _ (by k_mem) (by k_mem) (by k_extra "m fact") (by k_extra "m fact") (by k_extra "m fact") (by k_extra "m fact") (by k_extra "m fact")) (by k_extra "m k1") (by k_extra "m k2") (by k_extra "m k3") (by k_extra "m k5") (by k_extra "m k6") (by k_extra "m k7") (by k_extra "m k8") ?_; k_extra "m back")))
  k_with "!call ref" => ((k_here; (with_reducible show wpAny _ _ (PySem.call (Value.ref 129) _) _ _ _); k_dflt (refine' Does.use (by k_asm) (does_rest _ _ _ _ _ _ _ _) (by k_extra "m k1") (by k_extra "m k2") (by k_extra "m k3") (by k_extra "m k5") (by k_extra "m k6") (by k_extra "m k7") (by k_extra "m k8") ?_; k_extra "m back")))
  k_with "!call ref" => ((k_here; (with_reducible show wpAny _ _ (PySem.call (Value.ref 164) _) _ _ _); k_dflt (refine' Does.use (by k_asm) (does_is_whole _ _ _ _) (by k_extra "m k1") (by k_extra "m k2") (by k_extra "m k3") (by k_extra "m k5") (by k_extra "m k6") (by k_extra "m k7") (by k_extra "m k8") ?_; k_extra "m back")))
  k_with "!call ref" => ((k_here; (with_reducible show wpAny _ _ (PySem.call (Value.ref 164) _) _ _ _); k_dflt (refine' Does.use (by k_asm) (does_is_dec _ _ _ _ _ _ _ (by k_mem)) (by k_extra "m k1") (by k_extra "m k2") (by k_extra "m k3") (by k_extra "m k5") (by k_extra "m k6") (by k_extra "m k7") (by k_extra "m k8") ?_; k_extra "m back")))
  k_with "!call ref" => ((k_here; (with_reducible show wpAny _ _ (PySem.call (Value.ref 171) _) _ _ _); k_dflt (refine' Does.use (by k_asm) (does_settled _ _ _ _ _ _ _ _ (by k_extra "m fact") (by k_extra "m fact") (by k_extra "m fact")) (by k_extra "m k1") (by k_extra "m k2") (by k_extra "m k3") (by k_extra "m k5") (by k_extra "m k6") (by k_extra "m k7") (by k_extra "m k8") ?_; k_extra "m back")))
  k_with "!call ref" => ((k_here; (with_reducible show wpAny _ _ (PySem.call (Value.ref 115) _) _ _ _); k_dflt (refine' Does.use (by k_asm) (does_sub _ _ _ _ _ _ _ _ _ _ _ _ _ _ (by k_mem) (by k_mem) (by k_extra "m fact") (by k_extra "m fact") (by k_extra "m fact") (by k_extra "m fact") (by k_extra "m fact") (by k_extra "m fact")) (by k_extra "m k1") (by k_extra "m k2") (by k_extra "m k3") (by k_extra "m k5") (by k_extra "m k6") (by k_extra "m k7") (by k_extra "m k8") ?_; k_extra "m back")))
  k_with "!call ref" => ((k_here; (with_reducible show wpAny _ _ (PySem.call (Value.ref 143) _) _ _ _); k_dflt (refine' Does.use (by k_asm) (does_compare _ _ _ _ _ _ _ _ _ _ _ _ (by k_mem) (by k_mem) (by k_extra "m fact") (by k_extra "m fact") (by k_extra "m fact") (by k_extra "m fact")) (by k_extra "m k1") (by k_extra "m k2") (by k_extra "m k3") (by k_extra "m k5") (by k_extra "m k6") (by k_extra "m k7") (by k_extra "m k8") ?_; k_extra "m back")))
  k_with "!call ref" => ((k_here; (with_reducible show wpAny _ _ (PySem.call (Value.ref 136) _) _ _ _); k_dflt (refine' Does.use (by k_asm) (does_div _ _ _ _ _ _ _ _ _ _ _ _ _ _ (by k_mem) (by k_mem) (by k_extra "m fact") (by k_extra "m fact") (by k_extra "m fact") (by k_extra "m fact") (by k_extra "m fact")) (by k_extra "m k1") (by k_extra "m k2") (by k_extra "m k3") (by k_extra "m k5") (by k_extra "m k6") (by k_extra "m k7") (by k_extra "m k8") ?_; k_extra "m back")))
  k_with "!call ref" => ((k_here; (with_reducible show wpAny _ _ (PySem.call (Value.ref 178) _) _ _ _); k_dflt (refine' Does.use (by k_asm) (does_whole _ _ _ _ _ _ _ _ _ _ _ _ _ (by assumption) (by k_extra "m fact") (by k_extra "m fact") (by k_extra "m fact") (by k_extra "m fact") (by k_extra "m fact")) (by k_extra "m k1") (by k_extra "m k2") (by k_extra "m k3") (by k_extra "m k5") (by k_extra "m k6") (by k_extra "m k7") (by k_extra "m k8") ?_; k_extra "m back")))
  k_with "!call ref" => ((k_here; (with_reducible show wpAny _ _ (PySem.call (Value.ref 220) _) _ _ _); k_dflt (refine' Does.use (by k_asm) (does_rk_int _ _ _ _ _ _ _ _ _ _ _ _ _ (by assumption) (by k_extra "m fact") (by k_extra "m fact") (by k_extra "m fact") (by k_extra "m fact") (by k_extra "m fact")) (by k_extra "m k1") (by k_extra "m k2") (by k_extra "m k3") (by k_extra "m k5") (by k_extra "m k6") (by k_extra "m k7") (by k_extra "m k8") ?_; k_extra "m back")))
  k_with "!call ref" => ((k_here; (with_reducible show wpAny _ _ (PySem.call (Value.ref 234) _) _ _ _); k_dflt (refine' draw_use (by k_asm) (by k_updF) (by k_mem) (by assumption) (by assumption) (by assumption) (by k_extra "m fact") (by k_extra "m fact") (by k_extra "m fact") (by k_extra "m k1") (by k_extra "m k2") (by k_extra "m k3") (by k_extra "m k5") (by k_extra "m k6") (by k_extra "m k7") (by k_extra "m k8") ?_; intro x9 t9 u9 h9 tk9 g0 g1 F9 N9; (try dsimp only at N9 ⊢))))
  k_with "!exec Raise some none" => (refine Raise_exc rfl ?_)
  k_with "!leaving ref" => ((first | (refine' leave_excE (by assumption) (by assumption) (by assumption) (by assumption) (by assumption) (by assumption) ?_; intro h' R' U'; (try dsimp only at R' U' ⊢)) | ((rename RaisedE _ _ _ _ _ _ _ _ => rkX); refine' leave_onE (by assumption) (by assumption) rkX (by assumption) ?_; intro h' R' U'; (try dsimp only at R' U' ⊢))))
  k_with "!call ref" => (((with_reducible show wpAny _ _ (PySem.call (Value.ref 34) _) _ _ _); refine' exc_use (by k_asm) (by k_extra "m k1") (by k_extra "m k2") (by k_extra "m k3") (by k_extra "m k5") (by k_extra "m k6") (by k_extra "m k7") (by k_extra "m k8") ?_; intro e t dx od h' tk' F' N' C' n1 n2 n3; (try dsimp only)))
  k_with "m esc" => ((intro e dx tc g h' tk' F' U' R'; (try dsimp only)))
  k_with "!call ref" => ((k_here; (with_reducible show wpAny _ _ (PySem.call (Value.ref 79) _) _ _ _); k_dflt (refine' DoesR.use (by k_asm) (raises_whole_of _ _ _ _ _ _ (by assumption) (by k_extra "m fact")) (by k_extra "m k1") (by k_extra "m k2") (by k_extra "m k3") (by k_extra "m k5") (by k_extra "m k6") (by k_extra "m k7") (by k_extra "m k8") ?_; k_extra "m esc")))
  k_with "!call ref" => ((k_here; (with_reducible show wpAny _ _ (PySem.call (Value.ref 79) _) _ _ _); k_dflt (refine' Does.use (by k_asm) (does_whole_of _ _ _ _ _ _ (by assumption) (by k_extra "m fact")) (by k_extra "m k1") (by k_extra "m k2") (by k_extra "m k3") (by k_extra "m k5") (by k_extra "m k6") (by k_extra "m k7") (by k_extra "m k8") ?_; k_extra "m back")))
  k_with "!call ref" => ((k_here; (with_reducible show wpAny _ _ (PySem.call (Value.ref 185) _) _ _ _); k_dflt (refine' DoesR.use (by k_asm) (raises_cut_quotient _ _ _ _ _ _ (by assumption)) (by k_extra "m k1") (by k_extra "m k2") (by k_extra "m k3") (by k_extra "m k5") (by k_extra "m k6") (by k_extra "m k7") (by k_extra "m k8") ?_; k_extra "m esc")))
  k_with "!call ref" => ((k_here; (with_reducible show wpAny _ _ (PySem.call (Value.ref 185) _) _ _ _); k_dflt (refine' Does.use (by k_asm) (does_cut_quotient _ _ _ _ _ _ (by assumption) (by k_extra "m fact") (by k_extra "m fact")) (by k_extra "m k1") (by k_extra "m k2") (by k_extra "m k3") (by k_extra "m k5") (by k_extra "m k6") (by k_extra "m k7") (by k_extra "m k8") ?_; k_extra "m back")))
  k_with "!getAttr ref" => ((refine' x_get (by k_asm) (by k_asm) (by k_asm) ?_ ?_ (by assumption) (by assumption) (by assumption) ?_; k_mem; k_mem))
  k_with "!noteFrame ref" => (((rename RaisedE _ _ _ _ _ _ _ _ => rkX); refine' caught_E rkX (by assumption) (by assumption) (by assumption) (by assumption) (by assumption) (by assumption) (by first | assumption | exact KtsTurn.refl) (by k_is) ?_; intro h' g' oe od tk T' F' N' c1 c2 c3 K' X' P' D'))
  k_with "m enterS" => ((refine wpAny_call ?_; k_dflt (refine' enterS (g₀ := _) (by k_asm) (by k_asm) (by k_asm) (by k_asm) (by k_asm) (by assumption) (by assumption) (by assumption) KtsTurn.refl (by exact rfl) (by exact rfl) (by assumption) (by k_is) (by k_is) (by k_extra "m k7") (by exact BindsTo.of_eq rfl) (by exact locs rfl) ?_ (by exact rfl) (by exact rfl) (by exact rfl) (by decide); intro g' L' h' FG' F' N' B' X' T' D' l1; (try dsimp only); (try k_lift B'); (try k_fold))))
  k_with "!call ref" => ((k_here; (with_reducible show wpAny _ _ (PySem.call (Value.ref 192) _) _ _ _); k_dflt (refine' DoesR.use (by k_asm) (raises_cut_rest _ _ _ _ _ _ (by assumption)) (by k_extra "m k1") (by k_extra "m k2") (by k_extra "m k3") (by k_extra "m k5") (by k_extra "m k6") (by k_extra "m k7") (by k_extra "m k8") ?_; k_extra "m esc")))
  k_with "!call ref" => ((k_here; (with_reducible show wpAny _ _ (PySem.call (Value.ref 192) _) _ _ _); k_dflt (refine' Does.use (by k_asm) (does_cut_rest _ _ _ _ _ _ (by assumption) (by k_extra "m fact") (by k_extra "m fact")) (by k_extra "m k1") (by k_extra "m k2") (by k_extra "m k3") (by k_extra "m k5") (by k_extra "m k6") (by k_extra "m k7") (by k_extra "m k8") ?_; k_extra "m back")))
  k_with "m ne" => (with_reducible first | assumption | exact Ne.symm (by assumption) | exact Nat.ne_of_lt (by assumption) | exact Nat.ne_of_gt (by assumption) | exact (And.left (by assumption)) | exact Ne.symm (And.left (by assumption)) | exact Nat.ne_of_lt (And.left (by assumption)) | exact Nat.ne_of_gt (And.left (by assumption)) | exact (And.left (And.right (by assumption))) | exact Ne.symm (And.left (And.right (by assumption))) | exact Nat.ne_of_lt (And.left (And.right (by assumption))) | exact Nat.ne_of_gt (And.left (And.right (by assumption))) | exact (And.right (by assumption)) | exact Ne.symm (And.right (by assumption)) | exact Nat.ne_of_lt (And.right (by assumption)) | exact Nat.ne_of_gt (And.right (by assumption)) | exact (And.left (And.right (And.right (by assumption)))) | exact Ne.symm (And.left (And.right (And.right (by assumption)))) | exact Nat.ne_of_lt (And.left (And.right (And.right (by assumption)))) | exact Nat.ne_of_gt (And.left (And.right (And.right (by assumption)))) | exact (And.right (And.right (by assumption))) | exact Ne.symm (And.right (And.right (by assumption))) | exact Nat.ne_of_lt (And.right (And.right (by assumption))) | exact Nat.ne_of_gt (And.right (And.right (by assumption))) | exact (And.left (And.right (And.right (And.right (by assumption))))) | exact Ne.symm (And.left (And.right (And.right (And.right (by assumption))))) | exact Nat.ne_of_lt (And.left (And.right (And.right (And.right (by assumption))))) | exact Nat.ne_of_gt (And.left (And.right (And.right (And.right (by assumption))))) | exact (And.right (And.right (And.right (by assumption)))) | exact Ne.symm (And.right (And.right (And.right (by assumption)))) | exact Nat.ne_of_lt (And.right (And.right (And.right (by assumption)))) | exact Nat.ne_of_gt (And.right (And.right (And.right (by assumption)))) | exact (And.left (And.right (And.right (And.right (And.right (by assumption)))))) | exact Ne.symm (And.left (And.right (And.right (And.right (And.right (by assumption)))))) | exact Nat.ne_of_lt (And.left (And.right (And.right (And.right (And.right (by assumption)))))) | exact Nat.ne_of_gt (And.left (And.right (And.right (And.right (And.right (by assumption)))))) | exact (And.right (And.right (And.right (And.right (by assumption))))) | exact Ne.symm (And.right (And.right (And.right (And.right (by assumption))))) | exact Nat.ne_of_lt (And.right (And.right (And.right (And.right (by assumption))))) | exact Nat.ne_of_gt (And.right (And.right (And.right (And.right (by assumption))))) | exact (And.left (And.right (And.right (And.right (And.right (And.right (by assumption))))))) | exact Ne.symm (And.left (And.right (And.right (And.right (And.right (And.right (by assumption))))))) | exact Nat.ne_of_lt (And.left (And.right (And.right (And.right (And.right (And.right (by assumption))))))) | exact Nat.ne_of_gt (And.left (And.right (And.right (And.right (And.right (And.right (by assumption))))))) | exact (And.right (And.right (And.right (And.right (And.right (by assumption)))))) | exact Ne.symm (And.right (And.right (And.right (And.right (And.right (by assumption)))))) | exact Nat.ne_of_lt (And.right (And.right (And.right (And.right (And.right (by assumption)))))) | exact Nat.ne_of_gt (And.right (And.right (And.right (And.right (And.right (by assumption)))))) | exact (And.left (And.right (And.right (And.right (And.right (And.right (And.right (by assumption)))))))) | exact Ne.symm (And.left (And.right (And.right (And.right (And.right (And.right (And.right (by assumption)))))))) | exact Nat.ne_of_lt (And.left (And.right (And.right (And.right (And.right (And.right (And.right (by assumption)))))))) | exact Nat.ne_of_gt (And.left (And.right (And.right (And.right (And.right (And.right (And.right (by assumption)))))))) | exact (And.right (And.right (And.right (And.right (And.right (And.right (by assumption))))))) | exact Ne.symm (And.right (And.right (And.right (And.right (And.right (And.right (by assumption))))))) | exact Nat.ne_of_lt (And.right (And.right (And.right (And.right (And.right (And.right (by assumption))))))) | exact Nat.ne_of_gt (And.right (And.right (And.right (And.right (And.right (And.right (by assumption))))))) | exact (And.left (And.right (And.right (And.right (And.right (And.right (And.right (And.right (by assumption))))))))) | exact Ne.symm (And.left (And.right (And.right (And.right (And.right (And.right (And.right (And.right (by assumption))))))))) | exact Nat.ne_of_lt (And.left (And.right (And.right (And.right (And.right (And.right (And.right (And.right (by assumption))))))))) | exact Nat.ne_of_gt (And.left (And.right (And.right (And.right (And.right (And.right (And.right (And.right (by assumption))))))))) | exact (And.right (And.right (And.right (And.right (And.right (And.right (And.right (by assumption)))))))) | exact Ne.symm (And.right (And.right (And.right (And.right (And.right (And.right (And.right (by assumption)))))))) | exact Nat.ne_of_lt (And.right (And.right (And.right (And.right (And.right (And.right (And.right (by assumption)))))))) | exact Nat.ne_of_gt (And.right (And.right (And.right (And.right (And.right (And.right (And.right (by assumption)))))))) | exact (And.left (And.right (And.right (And.right (And.right (And.right (And.right (And.right (And.right (by assumption)))))))))) | exact Ne.symm (And.left (And.right (And.right (And.right (And.right (And.right (And.right (And.right (And.right (by assumption)))))))))) | exact Nat.ne_of_lt (And.left (And.right (And.right (And.right (And.right (And.right (And.right (And.right (And.right (by assumption)))))))))) | exact Nat.ne_of_gt (And.left (And.right (And.right (And.right (And.right (And.right (And.right (And.right (And.right (by assumption)))))))))) | exact (And.right (And.right (And.right (And.right (And.right (And.right (And.right (And.right (by assumption))))))))) | exact Ne.symm (And.right (And.right (And.right (And.right (And.right (And.right (And.right (And.right (by assumption))))))))) | exact Nat.ne_of_lt (And.right (And.right (And.right (And.right (And.right (And.right (And.right (And.right (by assumption))))))))) | exact Nat.ne_of_gt (And.right (And.right (And.right (And.right (And.right (And.right (And.right (And.right (by assumption))))))))) | exact (And.left (And.right (And.right (And.right (And.right (And.right (And.right (And.right (And.right (And.right (by assumption))))))))))) | exact Ne.symm (And.left (And.right (And.right (And.right (And.right (And.right (And.right (And.right (And.right (And.right (by assumption))))))))))) | exact Nat.ne_of_lt (And.left (And.right (And.right (And.right (And.right (And.right (And.right (And.right (And.right (And.right (by assumption))))))))))) | exact Nat.ne_of_gt (And.left (And.right (And.right (And.right (And.right (And.right (And.right (And.right (And.right (And.right (by assumption))))))))))) | exact (And.right (And.right (And.right (And.right (And.right (And.right (And.right (And.right (And.right (by assumption)))))))))) | exact Ne.symm (And.right (And.right (And.right (And.right (And.right (And.right (And.right (And.right (And.right (by assumption)))))))))) | exact Nat.ne_of_lt (And.right (And.right (And.right (And.right (And.right (And.right (And.right (And.right (And.right (by assumption)))))))))) | exact Nat.ne_of_gt (And.right (And.right (And.right (And.right (And.right (And.right (And.right (And.right (And.right (by assumption)))))))))) | exact (And.left (And.right (And.right (And.right (And.right (And.right (And.right (And.right (And.right (And.right (And.right (by assumption)))))))))))) | exact Ne.symm (And.left (And.right (And.right (And.right (And.right (And.right (And.right (And.right (And.right (And.right (And.right (by assumption)))))))))))) | exact Nat.ne_of_lt (And.left (And.right (And.right (And.right (And.right (And.right (And.right (And.right (And.right (And.right (And.right (by assumption)))))))))))) | exact Nat.ne_of_gt (And.left (And.right (And.right (And.right (And.right (And.right (And.right (And.right (And.right (And.right (And.right (by assumption)))))))))))) | exact (And.right (And.right (And.right (And.right (And.right (And.right (And.right (And.right (And.right (And.right (by assumption))))))))))) | exact Ne.symm (And.right (And.right (And.right (And.right (And.right (And.right (And.right (And.right (And.right (And.right (by assumption))))))))))) | exact Nat.ne_of_lt (And.right (And.right (And.right (And.right (And.right (And.right (And.right (And.right (And.right (And.right (by assumption))))))))))) | exact Nat.ne_of_gt (And.right (And.right (And.right (And.right (And.right (And.right (And.right (And.right (And.right (And.right (by assumption))))))))))) | exact (And.left (And.right (And.right (And.right (And.right (And.right (And.right (And.right (And.right (And.right (And.right (And.right (by assumption))))))))))))) | exact Ne.symm (And.left (And.right (And.right (And.right (And.right (And.right (And.right (And.right (And.right (And.right (And.right (And.right (by assumption))))))))))))) | exact Nat.ne_of_lt (And.left (And.right (And.right (And.right (And.right (And.right (And.right (And.right (And.right (And.right (And.right (And.right (by assumption))))))))))))) | exact Nat.ne_of_gt (And.left (And.right (And.right (And.right (And.right (And.right (And.right (And.right (And.right (And.right (And.right (And.right (by assumption))))))))))))) | exact (And.right (And.right (And.right (And.right (And.right (And.right (And.right (And.right (And.right (And.right (And.right (by assumption)))))))))))) | exact Ne.symm (And.right (And.right (And.right (And.right (And.right (And.right (And.right (And.right (And.right (And.right (And.right (by assumption)))))))))))) | exact Nat.ne_of_lt (And.right (And.right (And.right (And.right (And.right (And.right (And.right (And.right (And.right (And.right (And.right (by assumption)))))))))))) | exact Nat.ne_of_gt (And.right (And.right (And.right (And.right (And.right (And.right (And.right (And.right (And.right (And.right (And.right (by assumption)))))))))))) | exact (And.left (And.right (And.right (And.right (And.right (And.right (And.right (And.right (And.right (And.right (And.right (And.right (And.right (by assumption)))))))))))))) | exact Ne.symm (And.left (And.right (And.right (And.right (And.right (And.right (And.right (And.right (And.right (And.right (And.right (And.right (And.right (by assumption)))))))))))))) | exact Nat.ne_of_lt (And.left (And.right (And.right (And.right (And.right (And.right (And.right (And.right (And.right (And.right (And.right (And.right (And.right (by assumption)))))))))))))) | exact Nat.ne_of_gt (And.left (And.right (And.right (And.right (And.right (And.right (And.right (And.right (And.right (And.right (And.right (And.right (And.right (by assumption)))))))))))))) | exact (And.right (And.right (And.right (And.right (And.right (And.right (And.right (And.right (And.right (And.right (And.right (And.right (by assumption))))))))))))) | exact Ne.symm (And.right (And.right (And.right (And.right (And.right (And.right (And.right (And.right (And.right (And.right (And.right (And.right (by assumption))))))))))))) | exact Nat.ne_of_lt (And.right (And.right (And.right (And.right (And.right (And.right (And.right (And.right (And.right (And.right (And.right (And.right (by assumption))))))))))))) | exact Nat.ne_of_gt (And.right (And.right (And.right (And.right (And.right (And.right (And.right (And.right (And.right (And.right (And.right (And.right (by assumption))))))))))))) | k_extra "m nest")
  k_with "m nest" => (with_reducible first | exact (And.left (And.left (by assumption))) | exact Ne.symm (And.left (And.left (by assumption))) | exact (And.left (And.right (And.left (by assumption)))) | exact Ne.symm (And.left (And.right (And.left (by assumption)))) | exact (And.right (And.right (And.left (by assumption)))) | exact Ne.symm (And.right (And.right (And.left (by assumption)))) | exact (And.left (And.left (And.right (by assumption)))) | exact Ne.symm (And.left (And.left (And.right (by assumption)))) | exact (And.left (And.right (And.left (And.right (by assumption))))) | exact Ne.symm (And.left (And.right (And.left (And.right (by assumption))))) | exact (And.right (And.right (And.left (And.right (by assumption))))) | exact Ne.symm (And.right (And.right (And.left (And.right (by assumption))))) | exact (And.left (And.left (And.right (And.right (by assumption))))) | exact Ne.symm (And.left (And.left (And.right (And.right (by assumption))))) | exact (And.left (And.right (And.left (And.right (And.right (by assumption)))))) | exact Ne.symm (And.left (And.right (And.left (And.right (And.right (by assumption)))))) | exact (And.right (And.right (And.left (And.right (And.right (by assumption)))))) | exact Ne.symm (And.right (And.right (And.left (And.right (And.right (by assumption)))))) | exact (And.left (And.left (And.right (And.right (And.right (by assumption)))))) | exact Ne.symm (And.left (And.left (And.right (And.right (And.right (by assumption)))))) | exact (And.left (And.right (And.left (And.right (And.right (And.right (by assumption))))))) | exact Ne.symm (And.left (And.right (And.left (And.right (And.right (And.right (by assumption))))))) | exact (And.right (And.right (And.left (And.right (And.right (And.right (by assumption))))))) | exact Ne.symm (And.right (And.right (And.left (And.right (And.right (And.right (by assumption))))))) | exact (And.left (And.left (And.right (And.right (And.right (And.right (by assumption))))))) | exact Ne.symm (And.left (And.left (And.right (And.right (And.right (And.right (by assumption))))))) | exact (And.left (And.right (And.left (And.right (And.right (And.right (And.right (by assumption)))))))) | exact Ne.symm (And.left (And.right (And.left (And.right (And.right (And.right (And.right (by assumption)))))))) | exact (And.right (And.right (And.left (And.right (And.right (And.right (And.right (by assumption)))))))) | exact Ne.symm (And.right (And.right (And.left (And.right (And.right (And.right (And.right (by assumption)))))))) | exact (And.left (And.left (And.right (And.right (And.right (And.right (And.right (by assumption)))))))) | exact Ne.symm (And.left (And.left (And.right (And.right (And.right (And.right (And.right (by assumption)))))))) | exact (And.left (And.right (And.left (And.right (And.right (And.right (And.right (And.right (by assumption))))))))) | exact Ne.symm (And.left (And.right (And.left (And.right (And.right (And.right (And.right (And.right (by assumption))))))))) | exact (And.right (And.right (And.left (And.right (And.right (And.right (And.right (And.right (by assumption))))))))) | exact Ne.symm (And.right (And.right (And.left (And.right (And.right (And.right (And.right (And.right (by assumption))))))))) | exact (And.left (And.left (And.right (And.right (And.right (And.right (And.right (And.right (by assumption))))))))) | exact Ne.symm (And.left (And.left (And.right (And.right (And.right (And.right (And.right (And.right (by assumption))))))))) | exact (And.left (And.right (And.left (And.right (And.right (And.right (And.right (And.right (And.right (by assumption)))))))))) | exact Ne.symm (And.left (And.right (And.left (And.right (And.right (And.right (And.right (And.right (And.right (by assumption)))))))))) | exact (And.right (And.right (And.left (And.right (And.right (And.right (And.right (And.right (And.right (by assumption)))))))))) | exact Ne.symm (And.right (And.right (And.left (And.right (And.right (And.right (And.right (And.right (And.right (by assumption)))))))))) | exact (And.left (And.left (And.right (And.right (And.right (And.right (And.right (And.right (And.right (by assumption)))))))))) | exact Ne.symm (And.left (And.left (And.right (And.right (And.right (And.right (And.right (And.right (And.right (by assumption)))))))))) | exact (And.left (And.right (And.left (And.right (And.right (And.right (And.right (And.right (And.right (And.right (by assumption))))))))))) | exact Ne.symm (And.left (And.right (And.left (And.right (And.right (And.right (And.right (And.right (And.right (And.right (by assumption))))))))))) | exact (And.right (And.right (And.left (And.right (And.right (And.right (And.right (And.right (And.right (And.right (by assumption))))))))))) | exact Ne.symm (And.right (And.right (And.left (And.right (And.right (And.right (And.right (And.right (And.right (And.right (by assumption))))))))))) | exact (And.left (And.left (And.right (And.right (And.right (And.right (And.right (And.right (And.right (And.right (by assumption))))))))))) | exact Ne.symm (And.left (And.left (And.right (And.right (And.right (And.right (And.right (And.right (And.right (And.right (by assumption))))))))))) | exact (And.left (And.right (And.left (And.right (And.right (And.right (And.right (And.right (And.right (And.right (And.right (by assumption)))))))))))) | exact Ne.symm (And.left (And.right (And.left (And.right (And.right (And.right (And.right (And.right (And.right (And.right (And.right (by assumption)))))))))))) | exact (And.right (And.right (And.left (And.right (And.right (And.right (And.right (And.right (And.right (And.right (And.right (by assumption)))))))))))) | exact Ne.symm (And.right (And.right (And.left (And.right (And.right (And.right (And.right (And.right (And.right (And.right (And.right (by assumption)))))))))))))
  k_with "!call ref" => ((k_here; (with_reducible show wpAny _ _ (PySem.call (Value.ref 220) _) _ _ _); k_dflt (refine' DoesR.use (by k_asm) (raises_c_ov (by assumption) _ _ _ _ _ _ _ (by assumption) (by k_extra "m fact")) (by k_extra "m k1") (by k_extra "m k2") (by k_extra "m k3") (by k_extra "m k5") (by k_extra "m k6") (by k_extra "m k7") (by k_extra "m k8") ?_; k_extra "m esc")))
  k_with "!call ref" => ((k_here; (with_reducible show wpAny _ _ (PySem.call (Value.ref 220) _) _ _ _); k_dflt (refine' DoesR.use (by k_asm) (raises_c_dz (by assumption) _ _ _ _ _ _ _ (by assumption) (by assumption) (by assumption) (by k_extra "m fact")) (by k_extra "m k1") (by k_extra "m k2") (by k_extra "m k3") (by k_extra "m k5") (by k_extra "m k6") (by k_extra "m k7") (by k_extra "m k8") ?_; k_extra "m esc")))
  k_with "!call ref" => ((k_here; (with_reducible show wpAny _ _ (PySem.call (Value.ref 220) _) _ _ _); k_dflt (refine' Does.use (by k_asm) (does_rk_c (by assumption) _ _ _ _ _ _ _ (by assumption) (by assumption) (by assumption) (by k_extra "m fact") (by k_extra "m fact") (by k_extra "m fact") (by k_extra "m fact")) (by k_extra "m k1") (by k_extra "m k2") (by k_extra "m k3") (by k_extra "m k5") (by k_extra "m k6") (by k_extra "m k7") (by k_extra "m k8") ?_; k_extra "m back")))
  k_with "m enterC" => ((refine wpAny_call ?_; k_dflt (refine' code_defC (by k_asm) (by k_asm) (by k_asm) (by k_asm) (by k_asm) (by exact rfl) (by exact rfl) (by assumption) (by k_is) (by k_is) (by k_extra "m k7") (by exact BindsTo.of_eq rfl) (by exact rfl) (by decide +kernel) ?_ (by exact rfl) (by exact rfl) (by exact rfl); k_whole; intro g' L' h' tk' cells' FG' F' N' Y' B' X' T' l1; (try k_lt l1); k_cells Y'; (try simp only [List.cons_append, List.nil_append] at N'); (try dsimp only); (try k_lift B'); (try k_fold))))
  k_with "!eval ListComp" => ((k_here; k_dflt (refine LCg.ListComp_U (F₀ := by k_asm) (by with_unfolding_all rfl) (by decide) (by rfl) (by decide) (by rfl) ?_); k_dflt lcg_toSrc))
  k_with "!exec Assign cons ListComp" => ((k_here; k_dflt (refine LCg.Assign_ListComp_U (F₀ := by k_asm) (by rfl) (by with_unfolding_all rfl) (by with_unfolding_all rfl) (by decide) (by rfl) (by decide) (by rfl) (by rfl) (by rfl) ?_); k_dflt lcg_toSrc))
  k_with "!CompSrc" => ((k_here; k_dflt (first | (refine LCg.CompSrc.ledger (by rfl) (by k_asm) (by k_asm) (by k_mem) (by first | size_fits | exact Nat.le_of_ble_eq_true rfl) ?_; intro g'; lcg_lit) | (refine LCg.CompSrc.base (by rfl) (by k_asm) (by k_asm) (by assumption) (by first | size_fits | exact Nat.le_of_ble_eq_true rfl) ?_; intro g'; lcg_lit) | (refine LCg.CompSrc.range (by rfl) (by k_asm) (by k_asm) (by assumption) (by first | decide | rfl) (by first | rfl | decide) (by first | size_fits | exact Nat.le_of_ble_eq_true rfl) ?_; intro g'; lcg_lit))))
  k_with "m enterSC" => ((refine wpAny_call ?_; k_dflt (refine' enterSC (g₀ := _) (by k_asm) (by k_asm) (by k_asm) (by k_asm) (by k_asm) (by assumption) (by assumption) (by assumption) KtsTurn.refl (by exact rfl) (by exact rfl) (by assumption) (by k_is) (by k_is) (by k_extra "m k7") (by exact BindsTo.of_eq rfl) (by exact rfl) (by decide +kernel) ?_ (by exact rfl) (by exact rfl) (by exact rfl); k_whole; intro g' L' h' tk' cells' FG' F' N' Y' B' X' T' D' l1; (try k_lt l1); k_cells Y'; (try simp only [List.cons_append, List.nil_append] at N'); (try dsimp only); (try k_lift B'); (try k_fold))))
  k_with "!exec Assign cons ListComp" => ((k_here; k_dflt (refine Assign_ListComp_K (F₀ := by k_asm) (B := by k_asm) (X := by k_asm) (T := by k_asm) (XB := by assumption) (TB := by assumption) (DD := by assumption) (by rfl) (by with_unfolding_all rfl) (by with_unfolding_all rfl) (by decide) (by rfl) (by decide) (by rfl) (by rfl) (by rfl) ?_)))
  k_with "!SrcK" => ((k_dflt (refine SrcK.intro (by rfl) (by k_asm) (by k_asm) (by k_mem) (by first | size_fits | exact Nat.le_of_ble_eq_true rfl) ?_; intro g9)))
  k_with "!RestK" => ((with_unfolding_all first | (refine RestK.succ ?_; intro v' I' oI' C' oC' D' m' g' h' tk' E' hv' hC' hx' G' F' N' off' ne'; lcg_open hv'; obtain ⟨T', B', X', P', DD'⟩ := G'; (try dsimp only)) | refine RestK.zero ?_))
  k_with "!FinK" => (((unfold FinK); intro g' D' h' tk' G' F' N' o1'; obtain ⟨T', B', X', P', DD'⟩ := G'; (try simp only [LCg.Off1, and_true] at o1'); (try simp only [List.nil_append, List.cons_append] at N'); (try dsimp only)))
  trivial
def opZ (op : Str) (x y : Int) : Int := if op = Str.ofString "\\" then cutQ x y else x - y * cutQ x y
theorem opc_of {x y : Int} {op : Str} (h : op = Str.ofString "\\" ∨ op = Str.ofString "MOD") : OpC x y op (opZ op x y) := by
  rcases h with rfl | rfl
  · unfold opZ; rw [if_pos rfl]; exact .cut
  · unfold opZ; rw [if_neg (by decide)]; exact .mod
theorem words93_b : True := by
  k_with "!subscriptTail" => ((k_here; (with_reducible show wpAny _ _ (subscriptTail _ _ (Value.ref _) (Value.int _ _)) _ _ _); k_dflt (refine' item_two (by k_asm) (by k_mem) (by assumption) (by assumption) ?_; intro op9 t9 hop9)))
  k_with "!call ref" => ((k_here; (with_reducible show wpAny _ _ (PySem.call (Value.ref 251) _) _ _ _); k_dflt (refine' told_turn16 (by assumption) (by assumption) ⟨_, _, rfl⟩ (by assumption) (by k_mem) (by assumption) (by assumption) (by assumption) (by assumption) (by assumption) (by assumption) (by assumption) (told_16 _ _ (opc_of (by assumption)) _ _ _ _ (by omega) (by omega) (by decide)) (by first | assumption | exact rfl) (by k_extra "m k7") (by k_extra "m k8") ?_; intro r9 hT9; (try dsimp only))))
  k_with "!call ref" => ((k_here; (with_reducible show wpAny _ _ (PySem.call (Value.ref 251) _) _ _ _); k_dflt (refine' told_turn8 (by assumption) (by assumption) ⟨_, _, rfl⟩ (by assumption) (by k_mem) (by assumption) (by assumption) (by assumption) (by assumption) (by assumption) (by assumption) (by assumption) (told_8 _ _ (opc_of (by assumption)) _ _ _ _ (by omega) (by omega)) (by first | assumption | exact rfl) (by k_extra "m k7") (by k_extra "m k8") ?_; intro r9 b9 o9 hT9; (try dsimp only))))
  k_with "!exec For Tuple Call" => ((k_here; (rename Fr _ _ _ _ => lF'); (with_unfolding_all refine' For_turns lF' ?_; k_whole)))
  trivial
theorem ne_tup_str {prog : Program} {w : World} {A : Around} {E : Value → Shared → Prop} {s : Shared} {h₀ : Heap} {L l : Addr} {news : Led} {its : Array Value} {b : Str} {u : Tok} {Q : Value → Shared → Prop}
    (N : News h₀ L s.heap news) (hm : (l, tupO its) ∈ news) (hu : A.units < cLine) (h : Q (.bool true) s) : wpAny (model prog w) A (compareOp .NotEq (.ref l) (.str b u)) Q E s :=
  (PySem.SeqAt.RcNeAt.tuple_str b u ⟨_, (N _ hm).1, rfl, _, rfl⟩ hu) prog w E Q h
theorem eq_tup_str {prog : Program} {w : World} {A : Around} {E : Value → Shared → Prop} {s : Shared} {h₀ : Heap} {L l : Addr} {news : Led} {its : Array Value} {b : Str} {u : Tok} {Q : Value → Shared → Prop}
    (N : News h₀ L s.heap news) (hm : (l, tupO its) ∈ news) (hu : A.units < cLine) (h : Q (.bool false) s) : wpAny (model prog w) A (compareOp .Eq (.ref l) (.str b u)) Q E s :=
  (PySem.SeqAt.RcAt.tuple_str b u ⟨_, (N _ hm).1, rfl, _, rfl⟩ hu) prog w E Q h
theorem words93_c : True := by
  k_with "!compareOp NotEq ref str" => ((k_here; (with_reducible show wpAny _ _ (compareOp CmpOp.NotEq (Value.ref _) (Value.str _ _)) _ _ _); k_dflt (refine' ne_tup_str (by k_asm) (by k_mem) (by k_extra "m k8") ?_)))
  k_with "!compareOp Eq ref str" => ((k_here; (with_reducible show wpAny _ _ (compareOp CmpOp.Eq (Value.ref _) (Value.str _ _)) _ _ _); k_dflt (refine' eq_tup_str (by k_asm) (by k_mem) (by k_extra "m k8") ?_)))
  trivial
set_option maxRecDepth 100000
section
variable {w : World} {A : Around} {E : Value → Shared → Prop} {s : Shared} {Q : Value → Shared → Prop} {x y z : Int} {v v' : Value} {u : Tok} {h₀ : Heap} {L b : Addr} {o : Obj} {news : Led}
theorem isinst16 (h : Told16V y z v) (k : ∀ tk, Q (.bool (decide (y = 0))) { s with toks := tk }) : wpAny (model PySem.Challenge.rw_xm0050_01.row.prog w) A (call (.builtin "isinstance") [v, .type "str"]) Q E s := by
  cases h with
  | dz t h0 => rw [decide_eq_true h0] at k; walk1; exact k _
  | whole t h0 hz => rw [decide_eq_false h0] at k; walk1; exact k _
theorem isinst8 {m : Str → Option Value} (h : Told8V x y z v b o) (F : Fr h₀ L s.heap m) (N : News h₀ L s.heap news) (X : (hd.heap_1 w.params).In h₀) (hm : (b, o) ∈ news) (hf : fitsB x 8 = true) (k : ∀ tk, Q (.bool (decide (y = 0))) { s with toks := tk }) : wpAny (model PySem.Challenge.rw_xm0050_01.row.prog w) A (call (.builtin "isinstance") [v, .type "str"]) Q E s := by
  cases h with
  | ov t h => rw [h] at hf; cases hf
  | dz t h h0 => rw [decide_eq_true h0] at k; walk1; exact k _
  | whole t h h0 hz => rw [decide_eq_false h0] at k; walk1; exact k _
  | dec a t u h h0 hz => rw [decide_eq_false h0] at k; walk1; (try exact k _); all_goals exact k _
theorem ne_ov16 (h : Told16V y z v) (k : Q (.bool true) s) : wpAny (model PySem.Challenge.rw_xm0050_01.row.prog w) A (compareOp .NotEq v (.str "OV" u)) Q E s := by
  cases h with
  | dz t h0 => walk1; exact k
  | whole t h0 hz => walk1; exact k
theorem ne_ov8 (h : Told8V x y z v b o) (N : News h₀ L s.heap news) (hm : (b, o) ∈ news) (hu : A.units < cLine) (k : Q (.bool (fitsB x 8)) s) : wpAny (model PySem.Challenge.rw_xm0050_01.row.prog w) A (compareOp .NotEq v (.str "OV" u)) Q E s := by
  cases h with
  | ov t h => rw [h] at k; walk1; exact k
  | dz t h h0 => rw [h] at k; walk1; exact k
  | whole t h h0 hz => rw [h] at k; walk1; exact k
  | dec a t u h h0 hz => rw [h] at k; exact ne_tup_str N hm hu k
theorem eq_ov8 (h : Told8V x y z v b o) (N : News h₀ L s.heap news) (hm : (b, o) ∈ news) (hu : A.units < cLine) (k : Q (.bool (!fitsB x 8)) s) : wpAny (model PySem.Challenge.rw_xm0050_01.row.prog w) A (compareOp .Eq v (.str "OV" u)) Q E s := by
  cases h with
  | ov t h => rw [h] at k; walk1; exact k
  | dz t h h0 => rw [h] at k; walk1; exact k
  | whole t h h0 hz => rw [h] at k; walk1; exact k
  | dec a t u h h0 hz => rw [h] at k; exact eq_tup_str N hm hu k
theorem ne_8 (h : Told8V x y z v b o) (h' : Told16V y z v') (hf : fitsB x 8 = true) (h0 : y = 0) (k : Q (.bool false) s) : wpAny (model PySem.Challenge.rw_xm0050_01.row.prog w) A (compareOp .NotEq v v') Q E s := by
  cases h with
  | ov t h => rw [h] at hf; cases hf
  | dz t h _ => cases h' with
    | dz t' _ => walk1; exact k
    | whole t' hn hz => exact absurd h0 hn
  | whole t h hn hz => exact absurd h0 hn
  | dec a t u h hn hz => exact absurd h0 hn
theorem ne_16 (h : Told16V y z v) (h' : Told16V y z v') (h0 : y = 0) (k : Q (.bool false) s) : wpAny (model PySem.Challenge.rw_xm0050_01.row.prog w) A (compareOp .NotEq v v') Q E s := by
  cases h with
  | dz t _ => cases h' with
    | dz t' _ => walk1; exact k
    | whole t' hn hz => exact absurd h0 hn
  | whole t hn hz => exact absurd h0 hn
end
theorem Told8V.rep {x y z : Int} {v : Value} {b : Addr} {o : Obj} {news : Led} (h : Told8V x y z v b o) (hm : (b, o) ∈ news) (hf : fitsB x 8 = true) (hn : ¬ y = 0) : CellRep news z v := by
  cases h with
  | ov t h => rw [h] at hf; cases hf
  | dz t h h0 => exact absurd h0 hn
  | whole t h _ hz => exact .int t
  | dec a t u h _ hz => exact .dec _ t u hm
theorem Told16V.rep {y z : Int} {v : Value} {news : Led} (h : Told16V y z v) (hn : ¬ y = 0) : CellRep news z v := by
  cases h with
  | dz t h0 => exact absurd h0 hn
  | whole t _ hz => exact .int t
theorem Told16V.le {y z : Int} {v : Value} (h : Told16V y z v) (hn : ¬ y = 0) : z.natAbs ≤ 1200 := by
  cases h with
  | dz t h0 => exact absurd h0 hn
  | whole t _ hz => exact hz
theorem le_good {z : Int} (h : z.natAbs ≤ 1200) : Good z := good_small (by omega)
theorem le_32 {z : Int} (h : z.natAbs ≤ 1200) : z.natAbs ≤ 10 ^ 32 := Nat.le_trans h (by decide)
theorem no_i {y : Int} (h : (decide (y = 0) != (y == 0)) = true) : False := by
  by_cases q : y = 0
  · subst q; revert h; decide
  · rw [decide_eq_false q, show (y == 0) = false from by simpa using q] at h; cases h
theorem end_b {b : Bool} : ((!b) == !b) = true := by cases b <;> rfl
local macro_rules | `(tactic| k_in) => `(tactic| exact Frag.In.keeps (by k_asm) (Fr.keep (by k_asm)))
theorem words93_d : True := by
  k_with "m y0" => (first | with_reducible assumption | exact of_decide_eq_true (by with_reducible assumption))
  k_with "m yn" => (first | with_reducible assumption | exact of_decide_eq_false (by with_reducible assumption) | exact of_decide_eq_false (Bool.eq_false_of_not_eq_true (by with_reducible assumption)))
  k_with "!call builtin:isinstance" => ((k_here; (with_reducible show wpAny _ _ (PySem.call (Value.builtin "isinstance") [_, Value.type "str"]) _ _ _); first | (with_reducible refine isinst16 (by assumption) ?_; intro tk9) | (refine isinst8 (by with_reducible assumption) (by k_asm) (by k_asm) (by k_asm) (by k_mem) (by with_reducible assumption) ?_; intro tk9); (try dsimp only)))
  k_with "!compareOp NotEq" => ((k_here; (with_reducible show wpAny _ _ (compareOp CmpOp.NotEq _ _) _ _ _); first | with_reducible refine ne_ov16 (by assumption) ?_ | refine ne_ov8 (by with_reducible assumption) (by k_asm) (by k_mem) (by k_extra "m k8") ?_ | refine ne_16 (by with_reducible assumption) (by with_reducible assumption) (by k_extra "m y0") ?_ | refine ne_8 (by with_reducible assumption) (by with_reducible assumption) (by with_reducible assumption) (by k_extra "m y0") ?_))
  k_with "!compareOp Eq" => ((k_here; (with_reducible show wpAny _ _ (compareOp CmpOp.Eq _ (Value.str _ _)) _ _ _); refine eq_ov8 (by with_reducible assumption) (by k_asm) (by k_mem) (by k_extra "m k8") ?_))
  k_with "m fin" => (first | exact k9 _ _ (by k_asm) (by k_extra "m drop") | (exfalso; exact no_i (by with_reducible assumption)))
  k_with "!exec If" => (((fail_if_success (with_reducible rename JoinMark _ => jm9)); (with_reducible rename Told8V _ _ _ _ _ _ => hT9); k_here; k_dflt (refine' join_next (by k_asm) (by k_asm) ?_ (by (intro Q9 j9 k9; k_steps; (all_goals k_extra "m fin"))); intro h9 tk9 F9 N9; (try dsimp only))))
  k_with "m cell" => (first | (with_reducible refine Told16V.rep (by assumption) ?_; k_extra "m yn") | (refine Told8V.rep (by with_reducible assumption) (by k_mem) (by with_reducible assumption) (by k_extra "m yn")))
  k_with "m le" => (exact Told16V.le (by with_reducible assumption) (by k_extra "m yn"))
  k_with "!call ref" => ((k_here; (with_reducible show wpAny _ _ (PySem.call (Value.ref 227) _) _ _ _); k_dflt (refine' Does.use (by k_asm) (does_order _ _ _ _ _ _ (by k_extra "m cell") (by k_extra "m cell") (fun _ h => h) (le_good (by k_extra "m le")) (le_32 (by k_extra "m le"))) (by k_extra "m k1") (by k_extra "m k2") (by k_extra "m k3") (by k_extra "m k5") (by k_extra "m k6") (by k_extra "m k7") (by k_extra "m k8") ?_; k_extra "m back")))
  trivial
set_option maxRecDepth 100000 in
set_option maxHeartbeats 8000000 in
theorem does_bits (w : World) (ns : List Int) (vs : List Value) (bag l : Addr) (spot : Int) (ts : Tok) (n n' : Nat) (hlb : l ≠ bag) (hi : IntsAre vs ns) (hlen : ns.length ≤ 63) (h0 : 0 ≤ spot) (h2 : spot ≤ 100) :
   DoesToK w 30 256 [.ref bag] [(bag, lst2 l spot ts n), (l, W.listOf vs.toArray n')] (OkBag bag l (spot + 1 + 1 + 1) n n' vs) := by
  unfold DoesToK
  intro mean mg mb dp un gd cn cs a ccd cl outer A₀ base h₀ L m s Q E B F X N T XB TB D hk hd hu ret
  k_extra "m enterSC"
  k_steps
  all_goals first
    | exact ret _ _ _ _ _ (by with_reducible assumption) (by with_reducible assumption) (bag_ret (by with_reducible assumption) (by k_mem) (by k_mem)) (by with_reducible assumption) (by with_reducible assumption) (by with_reducible assumption) (by with_reducible assumption) (OkBag.of _ end_b)
    | (exfalso; exact no_i (by with_reducible assumption))
end
section
/-- a turn's end: the loop's word holds of the new map and the new ledger; the iterator and what is kept stand -/
inductive TurnJ (h₀ : Heap) (L : Addr) (Jn : (Str → Option Value) → Led → Prop) (I : Addr) (oI : Obj) (keep : Led) (s₁ : Shared) : Flow → Shared → Prop
  | mk (h' : Heap) (tk : Nat) (m₂ : Str → Option Value) (news₂ : Led) (F : Fr h₀ L h' m₂) (N : News h₀ L h' ((I, oI) :: news₂)) (off : ∀ p ∈ news₂, p.1 ≠ I) (hk : ∀ p ∈ keep, p ∈ news₂) (J : Jn m₂ news₂) : TurnJ h₀ L Jn I oI keep s₁ .next { s₁ with heap := h', toks := tk }
section
variable {prog : Program} {w : World} {A : Around} {E : Value → Shared → Prop} {s : Shared} {h₀ : Heap} {env : Env} {m : Str → Option Value} {news : Led} {Q : Flow → Shared → Prop} {body : List Stmt}
theorem iter_rangeJ {x : Str} {pos : Pos} {r : Addr} {t u v : Tok} {k : Nat} (J : Nat → (Str → Option Value) → Led → Prop) (hh : A.handled = none) (hr : IsRange s.heap r 0 (k : Int) 1 t u v) (hsm : Builtin.Range.small 0 (k : Int) 1 = true) (hn : Builtin.Range.rangeSize 0 (k : Int) 1 = (k : Int))
    (F : Fr h₀ env.locals s.heap m) (N : News h₀ env.locals s.heap news) (h0 : J 0 m news) (hy : env.kindOf x = some .local) (hp : (env.scope.kind == .class || (env.scope.kind == .module && env.locals != env.globals)) = false)
    (turn : ∀ i t m₁ news₁ h₁ tk₁ I oI, i < k → J i m₁ news₁ → Fr h₀ env.locals h₁ (fun z => if z = x then some (.int (i : Int) t) else m₁ z) → News h₀ env.locals h₁ ((I, oI) :: news₁) → (∀ p ∈ news₁, p.1 ≠ I) →
      wpAny (model prog w) A (execs body env) (TurnJ h₀ env.locals (J (i + 1)) I oI [] { s with heap := h₁, toks := tk₁ }) E { s with heap := h₁, toks := tk₁ })
    (done : ∀ h' tk m' news', Fr h₀ env.locals h' m' → News h₀ env.locals h' news' → J k m' news' → Q .next { s with heap := h', toks := tk }) :
    wpAny (model prog w) A (pyIter (.ref r)) (fun it s₂ => TurnsAt prog w A h₀ env (.Name x pos) body Q E it s₂) E s := by
  refine wpAny_pyIter_range hr hsm ?_
  rw [hn]
  have WT := KTurns.ofWalks (target := .Name x pos) (LCg.range_walks (prog := prog) (w := w) (I := s.heap.objs.size) hh 0 k) fun i v s Q E st q => wpAny_pure q
  refine ⟨s.heap.objs.size, [s.heap.objs.size], [s.heap.objs.size], k, _, _, _, m, news, J, rfl, WT, ?_, ?_, ?_, ?_, F.push _, fun p hp => ⟨Heap.get?_push_of_some _ (N p hp).1, (N p hp).2⟩, h0, ?_, ?_⟩
  · intro hm
    exact absurd F.ns.lt ((List.mem_singleton.mp hm) ▸ Nat.lt_irrefl _)
  · intro b hb; rw [List.mem_singleton.mp hb]; exact next_is_new F
  · intro p hp hI
    exact absurd (Heap.lt_size (N p hp).1) ((List.mem_singleton.mp hI) ▸ Nat.lt_irrefl _)
  · show IsRangeIter _ _ _ _ _
    simpa using Heap.get?_push_size _ rfl
  · intro i v m₁ news₁ h₁ tk₁ own hi hP hJ hoff hown1 hown2 hown3 hst F₁ N₁
    obtain ⟨t', rfl⟩ := hP
    have hst' : h₁.get? s.heap.objs.size = some _ := hst
    have hmem := hown3 s.heap.objs.size (.head _) (next_is_new F) _ hst'
    have N₁' : News h₀ env.locals h₁ ((s.heap.objs.size, _) :: news₁) := fun p hp => by
      rcases List.mem_cons.mp hp with rfl | hp
      · exact N₁ _ (List.mem_append_left _ hmem)
      · exact N₁ _ (List.mem_append_right _ hp)
    have hL₀ : h₀.get? env.locals = none := Heap.get?_none_of_le F₁.above
    rw [Int.zero_add]
    refine wpAny_assign_Name (wpAny_storeName_local hy F₁.ns (fun h₂ hn₂ hs₂ => ?_) hp)
    have F₂ : Fr h₀ env.locals h₂ (fun z => if z = x then some (.int (i : Int) t') else m₁ z) := ⟨hn₂, fun b o e => hs₂.extBut b o (fun q => by rw [q, hL₀] at e; cases e) (F₁.keep b o e), F₁.above⟩
    refine wpAny_mono (turn i t' m₁ news₁ h₂ _ _ _ hi hJ F₂ (fun p hp => ⟨hs₂.extBut _ _ (N₁' p hp).2.1 (N₁' p hp).1, (N₁' p hp).2⟩) (fun p hp q => hoff p hp (by rw [q]; exact .head _))) (fun f s₃ h₃ => ?_) fun _ _ e => e
    cases h₃ with
    | mk h' tk m₂ news₂ F N off hk J =>
      refine LoopStepU.intro F (fun p hp => ?_) (fun p hp q => off p hp (List.mem_singleton.mp q)) J
      rcases List.mem_append.mp hp with hp | hp
      · have e1 := List.mem_singleton.mp (hown1 p hp)
        have e2 := hown2 p hp
        rw [e1, hst'] at e2
        have : p = (s.heap.objs.size, _) := Prod.ext e1 (Option.some.inj e2).symm
        rw [this]; exact N _ (.head _)
      · exact N _ (.tail _ hp)
  · intro h' tk m' news' F' N' _ J'
    exact done h' tk m' news' F' N' J'
theorem iter_listJ {target : Expr} {ax : Addr} {vs : List Value} {n : Nat} (J : Nat → (Str → Option Value) → Led → Prop) (hh : A.handled = none) (F : Fr h₀ env.locals s.heap m) (N : News h₀ env.locals s.heap news) (hm : (ax, W.listOf vs.toArray n) ∈ news) (h0 : J 0 m news)
    (hkeep : ∀ i m₁ news₁, J i m₁ news₁ → (ax, W.listOf vs.toArray n) ∈ news₁)
    (turn : ∀ i v m₁ news₁ h₁ tk₁ I oI, vs[i]? = some v → J i m₁ news₁ → Fr h₀ env.locals h₁ m₁ → News h₀ env.locals h₁ ((I, oI) :: news₁) → (∀ p ∈ news₁, p.1 ≠ I) →
      wpAny (model prog w) A (assign target env v) (fun _ s₃ => wpAny (model prog w) A (execs body env) (TurnJ h₀ env.locals (J (i + 1)) I oI [] { s with heap := h₁, toks := tk₁ }) E s₃) E { s with heap := h₁, toks := tk₁ })
    (done : ∀ h' tk m' news', Fr h₀ env.locals h' m' → News h₀ env.locals h' news' → J vs.length m' news' → Q .next { s with heap := h', toks := tk }) :
    wpAny (model prog w) A (pyIter (.ref ax)) (fun it s₂ => TurnsAt prog w A h₀ env target body Q E it s₂) E s := by
  have hax := N _ hm
  have hl : s.heap.IsList ax vs.toArray := ⟨_, hax.1, rfl, n, rfl⟩
  have hlt : ax < s.heap.objs.size := Heap.lt_size hax.1
  have hne : ax ≠ s.heap.objs.size := Nat.ne_of_lt hlt
  refine wpAny_pyIter_list hl ?_
  have WT := KTurns.ofWalks (target := target) (Walks.list (prog := prog) (w := w) hh s.heap.objs.size ax hne vs.toArray) fun i v s Q E st q => letGo_listiter st.1 q
  refine ⟨s.heap.objs.size, _, _, vs.toArray.size, _, _, _, m, news, J, rfl, WT, ?_, ?_, ?_, ⟨⟨_, Heap.get?_push_size _ rfl, rfl, rfl⟩, hl.push _⟩, F.push _, fun p hp => ⟨Heap.get?_push_of_some _ (N p hp).1, (N p hp).2⟩, h0, ?_, ?_⟩
  · intro hI
    rcases List.mem_cons.mp hI with e | hI
    · exact absurd F.ns.lt (e ▸ Nat.lt_irrefl _)
    · exact hax.2.1 (List.mem_singleton.mp hI).symm
  · intro b hb; rw [List.mem_singleton.mp hb]; exact next_is_new F
  · intro p hp hI
    exact absurd (Heap.lt_size (N p hp).1) ((List.mem_singleton.mp hI) ▸ Nat.lt_irrefl _)
  · intro i v m₁ news₁ h₁ tk₁ own hi hP hJ hoff hown1 hown2 hown3 hst F₁ N₁
    obtain ⟨oI, hI, _⟩ := hst.1
    have hmem := hown3 s.heap.objs.size (.head _) (next_is_new F) _ hI
    have N₁' : News h₀ env.locals h₁ ((s.heap.objs.size, oI) :: news₁) := fun p hp => by
      rcases List.mem_cons.mp hp with rfl | hp
      · exact N₁ _ (List.mem_append_left _ hmem)
      · exact N₁ _ (List.mem_append_right _ hp)
    refine wpAny_mono (turn i v m₁ news₁ h₁ tk₁ _ oI (by simpa using hP) hJ F₁ N₁' (fun p hp q => hoff p hp (by rw [q]; exact .head _))) (fun _ s₃ h₃ => wpAny_mono h₃ (fun f s₄ h₄ => ?_) fun _ _ e => e) fun _ _ e => e
    cases h₄ with
    | mk h' tk m₂ news₂ F N off hk J =>
      refine LoopStepU.intro F (fun p hp => ?_) (fun p hp q => off p hp (List.mem_singleton.mp q)) J
      rcases List.mem_append.mp hp with hp | hp
      · have e2 := hown2 p hp
        rcases List.mem_cons.mp (hown1 p hp) with e1 | e1
        · rw [e1, hI] at e2
          have : p = (s.heap.objs.size, oI) := Prod.ext e1 (Option.some.inj e2).symm
          rw [this]; exact N _ (.head _)
        · have e1 := List.mem_singleton.mp e1
          have hk1 := hkeep _ _ _ hJ
          rw [e1, (N₁ _ (List.mem_append_right _ hk1)).1] at e2
          have : p = (ax, W.listOf vs.toArray n) := Prod.ext e1 (Option.some.inj e2).symm
          rw [this]; exact N _ (.tail _ (hkeep _ _ _ J))
      · exact N _ (.tail _ hp)
  · intro h' tk m' news' F' N' _ J'
    exact done h' tk m' news' F' N' (by simpa using J')
end
end
section
def updN (N : Nat → Int) (a : Nat) (z : Int) : Nat → Int := fun j => if j = a then z else N j
def updV (V : Nat → List Value) (k : Nat) (q : List Value) : Nat → List Value := fun j => if j = k then q else V j
/-- a side's three cells bear the numbers N -/
structure CellsAt (news : Led) (N : Nat → Int) (vs : List Value) : Prop where
  len : vs.length = 3
  rep : ∀ j v, vs[j]? = some v → CellRep news (N j) v
theorem CellsAt.mono {news news' : Led} {N : Nat → Int} {vs : List Value} (h : CellsAt news N vs) (hs : ∀ p ∈ news, p ∈ news') : CellsAt news' N vs := ⟨h.len, fun j v e => (h.rep j v e).mono hs⟩
theorem CellsAt.set {news : Led} {N : Nat → Int} {vs : List Value} (h : CellsAt news N vs) {a : Nat} {z : Int} {v : Value} (r : CellRep news z v) : CellsAt news (updN N a z) (vs.set a v) := by
  refine ⟨by rw [List.length_set]; exact h.len, fun j u e => ?_⟩
  unfold updN
  by_cases hj : j = a
  · rw [if_pos hj]
    subst hj
    rw [List.getElem?_set] at e
    rw [if_pos rfl] at e
    split at e
    · cases e; exact r
    · cases e
  · rw [if_neg hj]
    rw [List.getElem?_set, if_neg (fun q => hj q.symm)] at e
    exact h.rep j u e
/-- what stands in front: the three sides' cells and the bag -/
abbrev frontL (c : Nat → Addr) (nk : Nat → Nat) (V : Nat → List Value) (bag : Addr) (B : Obj) (rest : Led) : Led := (c 0, W.listOf (V 0).toArray (nk 0)) :: (c 1, W.listOf (V 1).toArray (nk 1)) :: (c 2, W.listOf (V 2).toArray (nk 2)) :: (bag, B) :: rest
/-- the three sides' cells stand apart from each other and from all else -/
structure ApartL (c : Nat → Addr) (bag : Addr) (rest : Led) : Prop where
  c01 : c 0 ≠ c 1
  c02 : c 0 ≠ c 2
  c12 : c 1 ≠ c 2
  b0 : c 0 ≠ bag
  b1 : c 1 ≠ bag
  b2 : c 2 ≠ bag
  r0 : ∀ p ∈ rest, p.1 ≠ c 0
  r1 : ∀ p ∈ rest, p.1 ≠ c 1
  r2 : ∀ p ∈ rest, p.1 ≠ c 2
  rb : ∀ p ∈ rest, p.1 ≠ bag
theorem three {k : Nat} (hk : k < 3) : k = 0 ∨ k = 1 ∨ k = 2 := by omega
theorem upd_front {c : Nat → Addr} {nk : Nat → Nat} {V : Nat → List Value} {bag : Addr} {B : Obj} {rest : Led} {k : Nat} {q : List Value} (hk : k < 3) (A : ApartL c bag rest) :
    Upd (c k) (W.listOf (V k).toArray (nk k)) (W.listOf q.toArray (nk k)) (frontL c nk V bag B rest) (frontL c nk (updV V k q) bag B rest) := by
  have hb : ∀ j, j ≠ k → updV V k q j = V j := fun j hj => by unfold updV; rw [if_neg hj]
  have hs : updV V k q k = q := by unfold updV; rw [if_pos rfl]
  rcases three hk with rfl | rfl | rfl
  · unfold frontL; rw [hs, hb 1 (by decide), hb 2 (by decide)]
    refine .head fun p hp => ?_
    rcases List.mem_cons.mp hp with rfl | hp
    · exact A.c01.symm
    rcases List.mem_cons.mp hp with rfl | hp
    · exact A.c02.symm
    rcases List.mem_cons.mp hp with rfl | hp
    · exact A.b0.symm
    · exact A.r0 p hp
  · unfold frontL; rw [hs, hb 0 (by decide), hb 2 (by decide)]
    refine .tail A.c01 (.head fun p hp => ?_)
    rcases List.mem_cons.mp hp with rfl | hp
    · exact A.c12.symm
    rcases List.mem_cons.mp hp with rfl | hp
    · exact A.b1.symm
    · exact A.r1 p hp
  · unfold frontL; rw [hs, hb 0 (by decide), hb 1 (by decide)]
    refine .tail A.c02 (.tail A.c12 (.head fun p hp => ?_))
    rcases List.mem_cons.mp hp with rfl | hp
    · exact A.b2.symm
    · exact A.r2 p hp
theorem mem_front {c : Nat → Addr} {nk : Nat → Nat} {V : Nat → List Value} {bag : Addr} {B : Obj} {rest : Led} {k : Nat} (hk : k < 3) : (c k, W.listOf (V k).toArray (nk k)) ∈ frontL c nk V bag B rest := by
  rcases three hk with rfl | rfl | rfl
  · exact .head _
  · exact .tail _ (.head _)
  · exact .tail _ (.tail _ (.head _))
theorem ki_setL_some : ∀ (vs : List Value) (k : Nat) (v : Value), k < vs.length → ki_setL vs k v = some (vs.set k v)
  | [], _, _, h => absurd h (Nat.not_lt_zero _)
  | _ :: _, 0, _, _ => rfl
  | x :: xs, k + 1, v, h => by
    have ih := ki_setL_some xs k v (Nat.lt_of_succ_lt_succ h)
    simp [ki_setL, ih]
theorem item_any {prog : Program} {w : World} {A : Around} {E : Value → Shared → Prop} {s : Shared} {h₀ : Heap} {L l : Addr} {news : Led} {vs : List Value} {n : Nat} {Q : Value → Shared → Prop} {value slice : Expr} {k : Int} {u : Tok}
    (N : News h₀ L s.heap news) (hm : (l, W.listOf vs.toArray n) ∈ news) (hlen : vs.length = 3) (h0 : 0 ≤ k) (h1 : k < 3) (h : ∀ v, vs[k.toNat]? = some v → Q v s)
    (hs : subscripted slice false (.ref l) (.int k u) = operate [.ref l, .int k u] (getItem (.ref l) (.int k u)) := by with_unfolding_all rfl) :
    wpAny (model prog w) A (subscriptTail value slice (.ref l) (.int k u)) Q E s := by
  have hl := News.isList N hm
  have hx : vs[k.toNat]? = some (vs[k.toNat]'(by omega)) := by simp
  exact tail_any hl.typeIs slot_list_getitem.lookup (wpAny_getItem_list hl h0 (by omega) (by simpa using hx) (h _ hx)) hs
def op3Z (x a b : Int) : Int := if x = 0 then a + b else if x = 1 then a - b else a * b
theorem p3_0 : Txt.item (Str.ofString "+-*") 0 = Str.ofString "+" := by decide +kernel
theorem p3_1 : Txt.item (Str.ofString "+-*") 1 = Str.ofString "-" := by decide +kernel
theorem p3_2 : Txt.item (Str.ofString "+-*") 2 = Str.ofString "*" := by decide +kernel
theorem op3_of {x a b : Int} (h0 : 0 ≤ x) (h1 : x < 3) : Op3 a b (Txt.item (Str.ofString "+-*") x) (op3Z x a b) := by
  obtain rfl | rfl | rfl : x = 0 ∨ x = 1 ∨ x = 2 := by omega
  · rw [p3_0]; exact .add
  · rw [p3_1]; exact .sub
  · rw [p3_2]; exact .mul
theorem op3Z_le {x a b : Int} {k : Nat} (hk : 1 ≤ k) (ha : a.natAbs ≤ 10 ^ k) (hb : b.natAbs ≤ 10 ^ k) : (op3Z x a b).natAbs ≤ 10 ^ (2 * k) := by
  have e : 10 ^ (2 * k) = 10 ^ k * 10 ^ k := by rw [← Nat.pow_add]; congr 1; omega
  have h2 : 2 ≤ 10 ^ k := Nat.le_trans (by decide) (pow10_mono hk)
  have h3 : 10 ^ k + 10 ^ k ≤ 10 ^ k * 10 ^ k := by
    have := Nat.mul_le_mul_right (10 ^ k) h2
    omega
  unfold op3Z
  rw [e]
  split
  · omega
  split
  · omega
  · rw [Int.natAbs_mul]; exact Nat.mul_le_mul ha hb
/-- the numbers of a turn -/
structure NumOk (k : Nat) (N : Nat → Int) : Prop where
  good : ∀ j, j < 3 → Good (N j)
  le : ∀ j, j < 3 → (N j).natAbs ≤ 10 ^ k
theorem NumOk.next {k : Nat} {N : Nat → Int} {x : Int} {a b : Nat} (hk : 1 ≤ k) (h : NumOk k N) (ha : a < 3) (hb : b < 3) : NumOk (2 * k) (updN N a (cutI (op3Z x (N a) (N b)))) := by
  have hz := op3Z_le (x := x) hk (h.le a ha) (h.le b hb)
  refine ⟨fun j hj => ?_, fun j hj => ?_⟩
  · unfold updN
    split
    · exact cutI_good _
    · exact h.good j hj
  · unfold updN
    split
    · exact cutI_le hz
    · exact Nat.le_trans (h.le j hj) (pow10_mono (by omega))
theorem tl_move {tl pre rest : Led} {h₀ h : Heap} {L : Addr} (N : News h₀ L h (tl ++ (pre ++ rest))) : News h₀ L h (pre ++ (tl ++ rest)) := fun p hp => N p (by
  rcases List.mem_append.mp hp with hp | hp
  · exact List.mem_append_right _ (List.mem_append_left _ hp)
  rcases List.mem_append.mp hp with hp | hp
  · exact List.mem_append_left _ hp
  · exact List.mem_append_right _ (List.mem_append_right _ hp))
end
section
/-- the front, folded -/
def frontD (c : Nat → Addr) (nk : Nat → Nat) (V : Nat → List Value) (bag : Addr) (B : Obj) (rest : Led) : Led := frontL c nk V bag B rest
section
variable {c : Nat → Addr} {nk : Nat → Nat} {V : Nat → List Value} {bag : Addr} {B : Obj} {rest tl : Led} {k : Nat}
theorem fd_mem (hk : k < 3) : (c k, W.listOf (V k).toArray (nk k)) ∈ frontD c nk V bag B rest := mem_front hk
theorem fd_rest {p : Addr × Obj} (h : p ∈ rest) : p ∈ frontD c nk V bag B rest := .tail _ (.tail _ (.tail _ (.tail _ h)))
theorem fd_upd {q : List Value} (hk : k < 3) (A : ApartL c bag rest) : Upd (c k) (W.listOf (V k).toArray (nk k)) (W.listOf q.toArray (nk k)) (frontD c nk V bag B rest) (frontD c nk (updV V k q) bag B rest) := upd_front hk A
theorem fd_updF (A : ApartL c bag rest) : UpdF bag B (frontD c nk V bag B rest) (fun o' => frontD c nk V bag o' rest) :=
  .tail A.b0 (.tail A.b1 (.tail A.b2 (.head A.rb)))
theorem fd_off {I : Addr} (h : ∀ p ∈ frontD c nk V bag B rest, p.1 ≠ I) {V' : Nat → List Value} {B' : Obj} (ht : ∀ q ∈ tl, q.1 ≠ I) : ∀ p ∈ frontD c nk V' bag B' (tl ++ rest), p.1 ≠ I := by
  intro p hp
  rcases List.mem_cons.mp hp with rfl | hp
  · exact h (c 0, W.listOf (V 0).toArray (nk 0)) (.head _)
  rcases List.mem_cons.mp hp with rfl | hp
  · exact h (c 1, W.listOf (V 1).toArray (nk 1)) (.tail _ (.head _))
  rcases List.mem_cons.mp hp with rfl | hp
  · exact h (c 2, W.listOf (V 2).toArray (nk 2)) (.tail _ (.tail _ (.head _)))
  rcases List.mem_cons.mp hp with rfl | hp
  · exact h (bag, B) (.tail _ (.tail _ (.tail _ (.head _))))
  rcases List.mem_append.mp hp with hp | hp
  · exact ht p hp
  · exact h _ (fd_rest hp)
theorem fd_apart {I J : Addr} {oI oJ : Obj} (A : ApartL c bag rest) (l : ∀ p ∈ (I, oI) :: (J, oJ) :: frontD c nk V bag B rest, ∀ q ∈ tl, p.1 < q.1) : ApartL c bag (tl ++ rest) := by
  have h : ∀ x : Addr, (∃ o, (x, o) ∈ (I, oI) :: (J, oJ) :: frontD c nk V bag B rest) → (∀ p ∈ rest, p.1 ≠ x) → ∀ p ∈ tl ++ rest, p.1 ≠ x := fun x ⟨o, hx⟩ hr p hp => by
    rcases List.mem_append.mp hp with hp | hp
    · exact Ne.symm (Nat.ne_of_lt (l _ hx p hp))
    · exact hr p hp
  exact ⟨A.c01, A.c02, A.c12, A.b0, A.b1, A.b2, h _ ⟨_, .tail _ (.tail _ (.head _))⟩ A.r0, h _ ⟨_, .tail _ (.tail _ (.tail _ (.head _)))⟩ A.r1, h _ ⟨_, .tail _ (.tail _ (.tail _ (.tail _ (.head _))))⟩ A.r2,
    h _ ⟨_, .tail _ (.tail _ (.tail _ (.tail _ (.tail _ (.head _)))))⟩ A.rb⟩
theorem fd_move {p q : Addr × Obj} {h₀ h : Heap} {L : Addr} (N : News h₀ L h (tl ++ p :: q :: frontD c nk V bag B rest)) : News h₀ L h (p :: q :: frontD c nk V bag B (tl ++ rest)) :=
  tl_move (pre := [p, q, (c 0, W.listOf (V 0).toArray (nk 0)), (c 1, W.listOf (V 1).toArray (nk 1)), (c 2, W.listOf (V 2).toArray (nk 2)), (bag, B)]) N
theorem upd_get {i a : Nat} {r v : Value} (hl : (V i).length = 3) (ha : a < 3) (hv : (updV V i ((V i).set a r) i)[a]? = some v) : v = r := by
  unfold updV at hv
  rw [if_pos rfl, List.getElem?_set, if_pos rfl, if_pos (by omega)] at hv
  exact (Option.some.inj hv).symm
theorem upd_len {i a : Nat} {r : Value} (hl : (V i).length = 3) : (updV V i ((V i).set a r) i).length = 3 := by
  unfold updV; rw [if_pos rfl, List.length_set]; exact hl
end
/-- what never changes -/
structure RestOk (l S : Addr) (p c : Nat → Addr) (bits : Nat → Int) (tb : Nat → Tok) (Lb : Addr) (ob : Obj) (vs : List Value) (n' : Nat) (rest : Led) : Prop where
  hl : (l, W.listOf vs.toArray n') ∈ rest
  hS : (S, W.listOf [Value.ref (p 0), Value.ref (p 1), Value.ref (p 2)].toArray 3) ∈ rest
  hp : ∀ k, k < 3 → (p k, W.listOf #[.int (bits k) (tb k), .ref (c k)] 0) ∈ rest
  hb : (Lb, ob) ∈ rest
theorem RestOk.mono {l S : Addr} {p c : Nat → Addr} {bits : Nat → Int} {tb : Nat → Tok} {Lb : Addr} {ob : Obj} {vs : List Value} {n' : Nat} {rest rest' : Led} (R : RestOk l S p c bits tb Lb ob vs n' rest) (hs : ∀ q ∈ rest, q ∈ rest') : RestOk l S p c bits tb Lb ob vs n' rest' :=
  ⟨hs _ R.hl, hs _ R.hS, fun k hk => hs _ (R.hp k hk), hs _ R.hb⟩
/-- between two turns -/
structure JO (l S : Addr) (p c : Nat → Addr) (nk : Nat → Nat) (bits : Nat → Int) (tb : Nat → Tok) (Lb : Addr) (ob : Obj) (vs : List Value) (n n' : Nat) (bag : Addr) (spot : Int) (i : Nat) (m₁ : Str → Option Value) (news₁ : Led) : Prop where
  ex : ∃ N V rest sp t, news₁ = frontD c nk V bag (lst2 l sp t n) rest ∧ ApartL c bag rest ∧ (∀ k, k < 3 → CellsAt rest N (V k)) ∧ NumOk (2 ^ (i + 1)) N ∧ 0 ≤ sp ∧ sp ≤ spot + 3 * i ∧ RestOk l S p c bits tb Lb ob vs n' rest
  hm : m₁ "sides" = some (.ref S)
/-- between two sides, reckoning -/
structure J1 (l S : Addr) (p c : Nat → Addr) (nk : Nat → Nat) (bits : Nat → Int) (tb : Nat → Tok) (Lb : Addr) (ob : Obj) (vs : List Value) (n' : Nat) (bag : Addr) (B : Obj) (I : Addr) (oI : Obj) (N N' : Nat → Int) (at' sp' : Value) (op : Value) (k : Nat) (m₁ : Str → Option Value) (news₁ : Led) : Prop where
  ex : ∃ V rest, news₁ = (I, oI) :: frontD c nk V bag B rest ∧ ApartL c bag rest ∧ (∀ j, j < 3 → j < k → CellsAt rest N' (V j)) ∧ (∀ j, j < 3 → k ≤ j → CellsAt rest N (V j)) ∧ RestOk l S p c bits tb Lb ob vs n' rest ∧ (∀ q ∈ frontD c nk V bag B rest, q.1 ≠ I)
  h1 : m₁ "at" = some at'
  h2 : m₁ "spot" = some sp'
  h3 : m₁ "op" = some op
  hm : m₁ "sides" = some (.ref S)
/-- between two sides, comparing -/
structure J2 (at' sd : Value) (news : Led) (k : Nat) (m₁ : Str → Option Value) (news₁ : Led) : Prop where
  ex : news₁ = news
  h1 : m₁ "at" = some at'
  hm : m₁ "sides" = some sd
theorem side_of {p : Nat → Addr} {i : Nat} {v : Value} (h : [Value.ref (p 0), Value.ref (p 1), Value.ref (p 2)][i]? = some v) : i < 3 ∧ v = .ref (p i) := by
  match i, h with
  | 0, h => exact ⟨by decide, (Option.some.inj h).symm⟩
  | 1, h => exact ⟨by decide, (Option.some.inj h).symm⟩
  | 2, h => exact ⟨by decide, (Option.some.inj h).symm⟩
def pick {α : Type} (a b c : α) : Nat → α := fun j => if j = 0 then a else if j = 1 then b else c
theorem bits_in {k : Nat} (hk : k < 3) : 1 ≤ pick (8 : Int) 16 32 k ∧ pick (8 : Int) 16 32 k ≤ 32 := by
  rcases three hk with rfl | rfl | rfl <;> decide
theorem num16 {i j : Nat} {N : Nat → Int} (h : NumOk (2 ^ (i + 1)) N) (hi : i < 4) (hj : j < 3) : (N j).natAbs ≤ 10 ^ 16 := by
  have h1 := h.le j hj
  have h2 : 2 ^ (i + 1) ≤ 2 ^ 4 := Nat.pow_le_pow_right (by decide) (by omega)
  exact Nat.le_trans h1 (pow10_mono h2)
theorem num32 {i j : Nat} {N : Nat → Int} (h : NumOk (2 ^ (i + 1 + 1)) N) (hi : i < 4) (hj : j < 3) : (N j).natAbs ≤ 10 ^ 32 := by
  have h1 := h.le j hj
  have h2 : 2 ^ (i + 1 + 1) ≤ 2 ^ 5 := Nat.pow_le_pow_right (by decide) (by omega)
  exact Nat.le_trans h1 (pow10_mono h2)
theorem num_next {i : Nat} {N : Nat → Int} {x : Int} {a b : Nat} (h : NumOk (2 ^ (i + 1)) N) (ha : a < 3) (hb : b < 3) : NumOk (2 ^ (i + 1 + 1)) (updN N a (cutI (op3Z x (N a) (N b)))) := by
  have := h.next (x := x) (Nat.one_le_two_pow) ha hb
  rw [show 2 * 2 ^ (i + 1) = 2 ^ (i + 1 + 1) from by rw [Nat.pow_succ 2 (i + 1), Nat.mul_comm]] at this
  exact this
theorem does_side (w : World) {news rest : Led} {N : Nat → Int} {vs : List Value} {i k : Nat} {x xa xb : Int} {v1 v2 : Value} {to tb td : Tok} (h1 : vs[xa.toNat]? = some v1) (h2 : vs[xb.toNat]? = some v2) (hC : CellsAt rest N vs) (hN : NumOk (2 ^ (i + 1)) N) (hi : i < 4)
    (ha : xa.toNat < 3) (hb : xb.toNat < 3) (hx0 : 0 ≤ x) (hx : x < 3) (hk : k < 3) (sub : ∀ q ∈ rest, q ∈ news) :
    Does w 14 220 [.str (Txt.item (Str.ofString "+-*") x) to, v1, v2, .int (pick 8 16 32 k) tb, .int 12 td] news (CellOk (cutI (op3Z x (N xa.toNat) (N xb.toNat))) (pick 8 16 32 k)) := by
  have ba := num16 hN hi ha
  have bb := num16 hN hi hb
  have bz := op3Z_le (x := x) (k := 16) (by decide) ba bb
  exact does_cell w news rest _ v1 v2 _ _ _ _ to tb td (hC.rep _ _ h1) (hC.rep _ _ h2) sub (op3_of hx0 hx) (hN.good _ ha) (hN.good _ hb) ba bb bz (bits_in hk)
theorem fd_neI {c : Nat → Addr} {nk : Nat → Nat} {V : Nat → List Value} {bag : Addr} {B : Obj} {rest : Led} {I : Addr} {k : Nat} (h : ∀ q ∈ frontD c nk V bag B rest, q.1 ≠ I) (hk : k < 3) : I ≠ c k := fun e => h _ (fd_mem hk) e.symm
theorem fd_nebag {c : Nat → Addr} {nk : Nat → Nat} {V : Nat → List Value} {bag : Addr} {B : Obj} {rest : Led} {I : Addr} (h : ∀ q ∈ frontD c nk V bag B rest, q.1 ≠ I) : I ≠ bag := fun e => h (bag, B) (.tail _ (.tail _ (.tail _ (.head _)))) e.symm
theorem fd_offB {c : Nat → Addr} {nk : Nat → Nat} {V : Nat → List Value} {bag : Addr} {B : Obj} {rest : Led} {I : Addr} (h : ∀ q ∈ frontD c nk V bag B rest, q.1 ≠ I) (B' : Obj) : ∀ q ∈ frontD c nk V bag B' rest, q.1 ≠ I := fd_off (tl := []) h (fun _ hq => nomatch hq)
theorem store_side {prog : Program} {w : World} {A : Around} {E : Value → Shared → Prop} {s : Shared} {h₀ : Heap} {L : Addr} {m : Str → Option Value} {Q : Unit → Shared → Prop} {c : Nat → Addr} {nk : Nat → Nat} {V : Nat → List Value} {bag : Addr} {B : Obj} {rest : Led} {p q : Addr × Obj} {k : Nat} {x : Int} {t : Tok} {v : Value}
    (F : Fr h₀ L s.heap m) (N : News h₀ L s.heap (p :: q :: frontD c nk V bag B rest)) (hk : k < 3) (Ap : ApartL c bag rest) (n1 : p.1 ≠ c k) (n2 : q.1 ≠ c k) (hl : (V k).length = 3) (h0 : 0 ≤ x) (h1 : x < 3)
    (h : ∀ h', Fr h₀ L h' m → News h₀ L h' (p :: q :: frontD c nk (updV V k ((V k).set x.toNat v)) bag B rest) → Q () { s with heap := h' }) : wpAny (model prog w) A (setItem (.ref (c k)) (.int x t) v) Q E s :=
  ki_set (its := (V k).toArray) F N h0 (by omega) (ki_setL_some (V k) x.toNat v (by omega)) (.tail n1 (.tail n2 (fd_upd hk Ap))) h
/-- the first loop over the sides is behind -/
def Second : Prop := True
section
variable {prog : Program} {w : World} {A : Around} {E : Value → Shared → Prop} {s : Shared} {h₀ : Heap} {env : Env} {m : Str → Option Value} {Q : Flow → Shared → Prop} {body : List Stmt} {target : Expr}
  {l S : Addr} {p c : Nat → Addr} {nk : Nat → Nat} {bits : Nat → Int} {tb : Nat → Tok} {Lb : Addr} {ob : Obj} {vs : List Value} {n' : Nat} {bag : Addr} {B : Obj} {I : Addr} {oI : Obj} {Nn : Nat → Int} {at' sp' op : Value} {news : Led} {V : Nat → List Value} {rest : Led}
theorem side1 (N' : Nat → Int) (hh : A.handled = none) (F : Fr h₀ env.locals s.heap m) (N : News h₀ env.locals s.heap news) (sub : ∀ q ∈ (I, oI) :: frontD c nk V bag B rest, q ∈ news) (Ap : ApartL c bag rest) (hC : ∀ k, k < 3 → CellsAt rest Nn (V k)) (R : RestOk l S p c bits tb Lb ob vs n' rest)
    (off : ∀ q ∈ frontD c nk V bag B rest, q.1 ≠ I) (h1 : m "at" = some at') (h2 : m "spot" = some sp') (h3 : m "op" = some op) (hm : m "sides" = some (.ref S))
    (turn : ∀ (i : Nat) (V : Nat → List Value) (rest : Led) (m₁ : Str → Option Value) (h₁ : Heap) (tk₁ : Nat) (I1 : Addr) (oI1 : Obj), i < 3 → ApartL c bag rest → (∀ j, j < 3 → j < i → CellsAt rest N' (V j)) → (∀ j, j < 3 → i < j → CellsAt rest Nn (V j)) → CellsAt rest Nn (V i) → (V i).length = 3 → RestOk l S p c bits tb Lb ob vs n' rest → (p i, W.listOf #[.int (bits i) (tb i), .ref (c i)] 0) ∈ rest →
      m₁ "at" = some at' → m₁ "spot" = some sp' → m₁ "op" = some op → m₁ "sides" = some (.ref S) → (∀ q ∈ frontD c nk V bag B rest, q.1 ≠ I) → (∀ q ∈ frontD c nk V bag B rest, q.1 ≠ I1) → I ≠ I1 →
      Fr h₀ env.locals h₁ m₁ → News h₀ env.locals h₁ ((I1, oI1) :: (I, oI) :: frontD c nk V bag B rest) →
      wpAny (model prog w) A (assign target env (.ref (p i))) (fun _ s₃ => wpAny (model prog w) A (execs body env) (TurnJ h₀ env.locals (J1 l S p c nk bits tb Lb ob vs n' bag B I oI Nn N' at' sp' op (i + 1)) I1 oI1 [] { s with heap := h₁, toks := tk₁ }) E s₃) E { s with heap := h₁, toks := tk₁ })
    (fin : ∀ (V : Nat → List Value) (rest : Led) (m₁ : Str → Option Value) (h₁ : Heap) (tk₁ : Nat), ApartL c bag rest → (∀ k, k < 3 → CellsAt rest N' (V k)) → RestOk l S p c bits tb Lb ob vs n' rest → m₁ "at" = some at' → m₁ "sides" = some (.ref S) → (∀ q ∈ frontD c nk V bag B rest, q.1 ≠ I) → Second →
      Fr h₀ env.locals h₁ m₁ → News h₀ env.locals h₁ ((I, oI) :: frontD c nk V bag B rest) → Q .next { s with heap := h₁, toks := tk₁ }) :
    wpAny (model prog w) A (pyIter (.ref S)) (fun it s₂ => TurnsAt prog w A h₀ env target body Q E it s₂) E s := by
  refine iter_listJ (vs := [.ref (p 0), .ref (p 1), .ref (p 2)]) (n := 3) (J1 l S p c nk bits tb Lb ob vs n' bag B I oI Nn N' at' sp' op) hh F (fun q hq => N q (sub q hq)) (.tail _ (fd_rest R.hS)) ⟨⟨V, rest, rfl, Ap, fun j _ hj => absurd hj (Nat.not_lt_zero _), fun j hj _ => hC j hj, R, off⟩, h1, h2, h3, hm⟩ ?_ ?_ ?_
  · intro i m₁ news₁ J
    obtain ⟨V, rest, rfl, _, _, _, R, _⟩ := J.ex
    exact .tail _ (fd_rest R.hS)
  · intro i v m₁ news₁ h₁ tk₁ I1 oI1 hv J F₁ N₁ off1
    obtain ⟨hi, rfl⟩ := side_of hv
    obtain ⟨V, rest, rfl, Ap, lo, hi', R, off⟩ := J.ex
    exact turn i V rest m₁ h₁ tk₁ I1 oI1 hi Ap lo (fun j hj hij => hi' j hj (Nat.le_of_lt hij)) (hi' i hi (Nat.le_refl _)) (hi' i hi (Nat.le_refl _)).len R (R.hp i hi) J.h1 J.h2 J.h3 J.hm off (fun q hq => off1 q (.tail _ hq)) (off1 (I, oI) (.head _)) F₁ N₁
  · intro h' tk m' news' F' N'' J
    obtain ⟨V, rest, rfl, Ap, lo, _, R, off⟩ := J.ex
    exact fin V rest m' h' tk Ap (fun k hk => lo k hk hk) R J.h1 J.hm off trivial F' N''
theorem side1_end {L : Addr} {N' : Nat → Int} {I1 : Addr} {oI1 : Obj} {i : Nat} {x : Int} {z bi : Int} {r : Value} {tl : Led} {s₁ : Shared} {h' : Heap} {tk : Nat} {m₂ : Str → Option Value} {oI' oI1' : Obj}
    (F : Fr h₀ L h' m₂) (N : News h₀ L h' ((I1, oI1) :: (I, oI) :: frontD c nk (updV V i ((V i).set x.toNat r)) bag B (tl ++ rest))) (o : CellOk z bi r tl) (l9 : ∀ p ∈ (I1, oI1') :: (I, oI') :: frontD c nk V bag B rest, ∀ q ∈ tl, p.1 < q.1) (hi : i < 3) (Ap : ApartL c bag rest)
    (lo : ∀ j, j < 3 → j < i → CellsAt rest N' (V j)) (hi' : ∀ j, j < 3 → i < j → CellsAt rest Nn (V j)) (hCi : CellsAt rest Nn (V i)) (hN' : N' = updN Nn x.toNat z) (R : RestOk l S p c bits tb Lb ob vs n' rest) (off : ∀ q ∈ frontD c nk V bag B rest, q.1 ≠ I) (off1 : ∀ q ∈ frontD c nk V bag B rest, q.1 ≠ I1) (hII : I ≠ I1)
    (h1 : m₂ "at" = some at') (h2 : m₂ "spot" = some sp') (h3 : m₂ "op" = some op) (hm : m₂ "sides" = some (.ref S)) :
    TurnJ h₀ L (J1 l S p c nk bits tb Lb ob vs n' bag B I oI Nn N' at' sp' op (i + 1)) I1 oI1 [] s₁ .next { s₁ with heap := h', toks := tk } := by
  have tI : ∀ q ∈ tl, q.1 ≠ I := fun q hq => Ne.symm (Nat.ne_of_lt (l9 _ (.tail _ (.head _)) q hq))
  have tI1 : ∀ q ∈ tl, q.1 ≠ I1 := fun q hq => Ne.symm (Nat.ne_of_lt (l9 _ (.head _) q hq))
  have sub : ∀ q ∈ rest, q ∈ tl ++ rest := fun q hq => List.mem_append_right _ hq
  refine .mk h' tk m₂ _ F N (fun q hq => ?_) (fun _ hq => nomatch hq) ⟨⟨_, _, rfl, fd_apart Ap l9, fun j hj hji => ?_, fun j hj hij => ?_, R.mono sub, fd_off off tI⟩, h1, h2, h3, hm⟩
  · rcases List.mem_cons.mp hq with rfl | hq
    · exact hII
    · exact fd_off off1 tI1 q hq
  · by_cases e : j = i
    · subst e
      show CellsAt _ N' (updV V j ((V j).set x.toNat r) j)
      unfold updV
      rw [if_pos rfl, hN']
      exact (hCi.mono sub).set o.rep
    · unfold updV
      rw [if_neg e]
      exact (lo j hj (by omega)).mono sub
  · unfold updV
    rw [if_neg (by omega)]
    exact (hi' j hj (by omega)).mono sub
theorem side2 (hh : A.handled = none) (F : Fr h₀ env.locals s.heap m) (N : News h₀ env.locals s.heap ((I, oI) :: frontD c nk V bag B rest)) (hC : ∀ k, k < 3 → CellsAt rest Nn (V k)) (R : RestOk l S p c bits tb Lb ob vs n' rest) (h1 : m "at" = some at') (hm : m "sides" = some (.ref S))
    (turn : ∀ (i : Nat) (m₁ : Str → Option Value) (h₁ : Heap) (tk₁ : Nat) (I1 : Addr) (oI1 : Obj), i < 3 → CellsAt rest Nn (V i) → CellsAt rest Nn (V 2) → (p i, W.listOf #[.int (bits i) (tb i), .ref (c i)] 0) ∈ rest → (p 2, W.listOf #[.int (bits 2) (tb 2), .ref (c 2)] 0) ∈ rest → (S, W.listOf #[Value.ref (p 0), Value.ref (p 1), Value.ref (p 2)] 3) ∈ rest →
      m₁ "at" = some at' → m₁ "sides" = some (.ref S) → (∀ q ∈ (I, oI) :: frontD c nk V bag B rest, q.1 ≠ I1) →
      Fr h₀ env.locals h₁ m₁ → News h₀ env.locals h₁ ((I1, oI1) :: (I, oI) :: frontD c nk V bag B rest) →
      wpAny (model prog w) A (assign target env (.ref (p i))) (fun _ s₃ => wpAny (model prog w) A (execs body env) (TurnJ h₀ env.locals (J2 at' (.ref S) ((I, oI) :: frontD c nk V bag B rest) (i + 1)) I1 oI1 [] { s with heap := h₁, toks := tk₁ }) E s₃) E { s with heap := h₁, toks := tk₁ })
    (fin : ∀ (m₁ : Str → Option Value) (h₁ : Heap) (tk₁ : Nat), m₁ "at" = some at' → m₁ "sides" = some (.ref S) → Fr h₀ env.locals h₁ m₁ → News h₀ env.locals h₁ ((I, oI) :: frontD c nk V bag B rest) → Q .next { s with heap := h₁, toks := tk₁ }) :
    wpAny (model prog w) A (pyIter (.ref S)) (fun it s₂ => TurnsAt prog w A h₀ env target body Q E it s₂) E s := by
  refine iter_listJ (vs := [.ref (p 0), .ref (p 1), .ref (p 2)]) (n := 3) (J2 at' (.ref S) ((I, oI) :: frontD c nk V bag B rest)) hh F N (.tail _ (fd_rest R.hS)) ⟨rfl, h1, hm⟩ ?_ ?_ ?_
  · intro i m₁ news₁ J
    rw [J.ex]
    exact .tail _ (fd_rest R.hS)
  · intro i v m₁ news₁ h₁ tk₁ I1 oI1 hv J F₁ N₁ off1
    obtain ⟨hi, rfl⟩ := side_of hv
    obtain ⟨rfl, h1, hm⟩ := J
    exact turn i m₁ h₁ tk₁ I1 oI1 hi (hC i hi) (hC 2 (by decide)) (R.hp i hi) (R.hp 2 (by decide)) R.hS h1 hm off1 F₁ N₁
  · intro h' tk m' news' F' N'' J
    obtain ⟨rfl, h1, hm⟩ := J
    exact fin m' h' tk h1 hm F' N''
end
theorem item_pair1 {prog : Program} {w : World} {A : Around} {E : Value → Shared → Prop} {s : Shared} {h₀ : Heap} {L a : Addr} {news : Led} {n : Nat} {Q : Value → Shared → Prop} {value slice : Expr} {u : Tok} {x y : Value}
    (N : News h₀ L s.heap news) (hm : (a, W.listOf #[x, y] n) ∈ news) (h : Q y s)
    (hs : subscripted slice false (.ref a) (.int 1 u) = operate [.ref a, .int 1 u] (getItem (.ref a) (.int 1 u)) := by with_unfolding_all rfl) :
    wpAny (model prog w) A (subscriptTail value slice (.ref a) (.int 1 u)) Q E s := by
  have hl := News.isList N hm
  exact tail_any hl.typeIs slot_list_getitem.lookup (wpAny_getItem_list hl (by decide) (by decide) (x := y) rfl h) hs
theorem item_three2 {prog : Program} {w : World} {A : Around} {E : Value → Shared → Prop} {s : Shared} {h₀ : Heap} {L a : Addr} {news : Led} {n : Nat} {Q : Value → Shared → Prop} {value slice : Expr} {u : Tok} {x y z : Value}
    (N : News h₀ L s.heap news) (hm : (a, W.listOf #[x, y, z] n) ∈ news) (h : Q z s)
    (hs : subscripted slice false (.ref a) (.int 2 u) = operate [.ref a, .int 2 u] (getItem (.ref a) (.int 2 u)) := by with_unfolding_all rfl) :
    wpAny (model prog w) A (subscriptTail value slice (.ref a) (.int 2 u)) Q E s := by
  have hl := News.isList N hm
  exact tail_any hl.typeIs slot_list_getitem.lookup (wpAny_getItem_list hl (by decide) (by decide) (x := z) rfl h) hs
theorem CellsAt.rep' {news : Led} {N : Nat → Int} {vs : List Value} {j : Nat} {v : Value} (e : vs[j]? = some v) (h : CellsAt news N vs) : CellRep news (N j) v := h.rep j v e
section
variable {prog : Program} {w : World} {A : Around} {E : Value → Shared → Prop} {s : Shared} {h₀ : Heap} {env : Env} {m : Str → Option Value} {Q : Flow → Shared → Prop} {body : List Stmt} {target : Expr}
  {l S : Addr} {p c : Nat → Addr} {nk : Nat → Nat} {bits : Nat → Int} {tb : Nat → Tok} {Lb : Addr} {ob : Obj} {vs : List Value} {n' : Nat} {bag : Addr} {B : Obj} {I : Addr} {oI : Obj} {Nn : Nat → Int} {news : Led} {V : Nat → List Value} {rest : Led}
theorem side1x {x y xo : Int} {tx ty to : Tok} {i0 : Nat} (hh : A.handled = none) (F : Fr h₀ env.locals s.heap m) (N : News h₀ env.locals s.heap news) (sub : ∀ q ∈ (I, oI) :: frontD c nk V bag B rest, q ∈ news) (Ap : ApartL c bag rest) (hC : ∀ k, k < 3 → CellsAt rest Nn (V k)) (R : RestOk l S p c bits tb Lb ob vs n' rest)
    (hN : NumOk (2 ^ (i0 + 1)) Nn) (h1 : m "at" = some (.int x tx)) (h2 : m "spot" = some (.int y ty)) (h3 : m "op" = some (.str (Txt.item (Str.ofString "+-*") xo) to)) (hm : m "sides" = some (.ref S)) (hx : x.toNat < 3) (hy : y.toNat < 3) (off : ∀ q ∈ frontD c nk V bag B rest, q.1 ≠ I)
    (turn : ∀ (i : Nat) (V : Nat → List Value) (rest : Led) (m₁ : Str → Option Value) (h₁ : Heap) (tk₁ : Nat) (I1 : Addr) (oI1 : Obj), i < 3 → ApartL c bag rest → (∀ j, j < 3 → j < i → CellsAt rest (updN Nn x.toNat (cutI (op3Z xo (Nn x.toNat) (Nn y.toNat)))) (V j)) → (∀ j, j < 3 → i < j → CellsAt rest Nn (V j)) → CellsAt rest Nn (V i) → (V i).length = 3 → RestOk l S p c bits tb Lb ob vs n' rest → (p i, W.listOf #[.int (bits i) (tb i), .ref (c i)] 0) ∈ rest →
      m₁ "at" = some (.int x tx) → m₁ "spot" = some (.int y ty) → m₁ "op" = some (.str (Txt.item (Str.ofString "+-*") xo) to) → m₁ "sides" = some (.ref S) → (∀ q ∈ frontD c nk V bag B rest, q.1 ≠ I) → (∀ q ∈ frontD c nk V bag B rest, q.1 ≠ I1) → I ≠ I1 →
      Fr h₀ env.locals h₁ m₁ → News h₀ env.locals h₁ ((I1, oI1) :: (I, oI) :: frontD c nk V bag B rest) →
      wpAny (model prog w) A (assign target env (.ref (p i))) (fun _ s₃ => wpAny (model prog w) A (execs body env) (TurnJ h₀ env.locals (J1 l S p c nk bits tb Lb ob vs n' bag B I oI Nn (updN Nn x.toNat (cutI (op3Z xo (Nn x.toNat) (Nn y.toNat)))) (.int x tx) (.int y ty) (.str (Txt.item (Str.ofString "+-*") xo) to) (i + 1)) I1 oI1 [] { s with heap := h₁, toks := tk₁ }) E s₃) E { s with heap := h₁, toks := tk₁ })
    (fin : ∀ (N' : Nat → Int) (V : Nat → List Value) (rest : Led) (m₁ : Str → Option Value) (h₁ : Heap) (tk₁ : Nat), NumOk (2 ^ (i0 + 1 + 1)) N' → ApartL c bag rest → (∀ k, k < 3 → CellsAt rest N' (V k)) → RestOk l S p c bits tb Lb ob vs n' rest → m₁ "at" = some (.int x tx) → m₁ "sides" = some (.ref S) → (∀ q ∈ frontD c nk V bag B rest, q.1 ≠ I) → Second →
      Fr h₀ env.locals h₁ m₁ → News h₀ env.locals h₁ ((I, oI) :: frontD c nk V bag B rest) → Q .next { s with heap := h₁, toks := tk₁ }) :
    wpAny (model prog w) A (pyIter (.ref S)) (fun it s₂ => TurnsAt prog w A h₀ env target body Q E it s₂) E s :=
  side1 _ hh F N sub Ap hC R off h1 h2 h3 hm turn (fun V rest m₁ h₁ tk₁ => fin _ V rest m₁ h₁ tk₁ (num_next hN hx hy))
theorem outer_end {L : Addr} {h' : Heap} {tk : Nat} {m₂ : Str → Option Value} {s₁ : Shared} {N' : Nat → Int} {n : Nat} {sp spot : Int} {t : Tok} {i : Nat} (F : Fr h₀ L h' m₂) (N : News h₀ L h' ((I, oI) :: frontD c nk V bag (lst2 l sp t n) rest)) (hN : NumOk (2 ^ (i + 1 + 1)) N') (Ap : ApartL c bag rest) (hC : ∀ k, k < 3 → CellsAt rest N' (V k))
    (R : RestOk l S p c bits tb Lb ob vs n' rest) (off : ∀ q ∈ frontD c nk V bag (lst2 l sp t n) rest, q.1 ≠ I) (h0 : 0 ≤ sp) (h1 : sp ≤ spot + 3 * (((i + 1 : Nat)) : Int)) (hm : m₂ "sides" = some (.ref S)) :
    TurnJ h₀ L (JO l S p c nk bits tb Lb ob vs n n' bag spot (i + 1)) I oI [] s₁ .next { s₁ with heap := h', toks := tk } :=
  .mk h' tk m₂ _ F N off (fun _ hq => nomatch hq) ⟨⟨N', V, rest, sp, t, rfl, Ap, hC, hN, h0, h1, R⟩, hm⟩
end
theorem side2_end {h₀ : Heap} {L : Addr} {h' : Heap} {tk : Nat} {m₂ : Str → Option Value} {s₁ : Shared} {at' sd : Value} {news : Led} {i : Nat} {I1 : Addr} {oI1 : Obj} (F : Fr h₀ L h' m₂) (N : News h₀ L h' ((I1, oI1) :: news)) (off : ∀ q ∈ news, q.1 ≠ I1) (h1 : m₂ "at" = some at') (hm : m₂ "sides" = some sd) :
    TurnJ h₀ L (J2 at' sd news (i + 1)) I1 oI1 [] s₁ .next { s₁ with heap := h', toks := tk } := .mk h' tk m₂ _ F N off (fun _ hq => nomatch hq) ⟨rfl, h1, hm⟩
theorem bits64 {k : Nat} (hk : k < 3) : 1 ≤ pick (8 : Int) 16 32 k ∧ pick (8 : Int) 16 32 k ≤ 64 := by
  have := bits_in hk
  omega
theorem no_fit {z b : Int} (h : fitsB z b = true) (h' : (!fitsB z b) = true) : False := by rw [h] at h'; cases h'
end
section
theorem words98 : True := by
  k_with_none
  k_with "m k1" => (first | k_asm | ktn_no "m use: Below")
  k_with "m k2" => (first | k_asm | ktn_no "m use: Fr")
  k_with "m k3" => (first | k_asm | ktn_no "m use: In")
  k_with "m k5" => (first | k_asm | ktn_no "m use: Top")
  k_with "m k6" => (first | assumption | exact rfl | ktn_no "m use: kind")
  k_with "m k7" => (first | exact room1 (by with_reducible assumption) (by decide) | exact room2 (by with_reducible assumption) (by decide) | ktr_room | ktn_no "m use: room")
  k_with "m k8" => (first | exact units1 (by with_reducible assumption) (by decide) | exact units2 (by with_reducible assumption) (by decide) | ktr_units | ktn_no "m use: units")
  k_with "m enter" => ((refine wpAny_call ?_; k_dflt cell_enter))
  k_with "m sub" => (first | with_reducible exact fun _ h => h | with_reducible exact fun _ h => List.mem_cons_of_mem _ h | with_reducible exact fun _ h => List.mem_cons_of_mem _ (List.mem_cons_of_mem _ h) | with_reducible exact fun _ h => List.mem_cons_of_mem _ (List.mem_cons_of_mem _ (List.mem_cons_of_mem _ h)) | kcj_all)
  k_with "m drop" => (first | with_reducible assumption | exact cb_drop (by with_reducible assumption) (by k_extra "m sub") | k_asm | (refine' cb_drop (by assumption) (by kcj_all)) | ktn_no "m drop: the ledger")
  k_with "m fact" => (first | assumption | (constructor <;> assumption) | omega | (simp only [decide_eq_true_eq, decide_eq_false_iff_not, Int.not_lt, Int.not_le, gt_iff_lt, ge_iff_le] at *; omega) | ktn_no "m fact")
  k_with "!call ref" => ((k_here; (with_reducible show wpAny _ _ (PySem.call (Value.ref 44) _) _ _ _); k_dflt (refine' Does.use (by k_asm) (does_figs _ _ _ _ (by k_extra "m fact")) (by k_extra "m k1") (by k_extra "m k2") (by k_extra "m k3") (by k_extra "m k5") (by k_extra "m k6") (by k_extra "m k7") (by k_extra "m k8") ?_; intro r9 tl9 h9 tk9 F9 N9 l9 o9; cases o9; (try simp only [List.nil_append] at N9); clear l9; (try dsimp only); (try k_fold))))
  k_with "!call ref" => ((k_here; (with_reducible show wpAny _ _ (PySem.call (Value.ref 51) _) _ _ _); k_dflt (refine' Does.use (by k_asm) (does_rnd _ _ _ _ _ _ (by k_extra "m fact") (by k_extra "m fact") (by k_extra "m fact") (by k_extra "m fact")) (by k_extra "m k1") (by k_extra "m k2") (by k_extra "m k3") (by k_extra "m k5") (by k_extra "m k6") (by k_extra "m k7") (by k_extra "m k8") ?_; intro r9 tl9 h9 tk9 F9 N9 l9 o9; cases o9; (try simp only [List.nil_append] at N9); clear l9; (try dsimp only); (try k_fold))))
  k_with "m lt" => (first | assumption | exact ktn_ltOf (by assumption) | ((with_reducible rename _ ∧ AllLt _ _ => hlt); exact ktn_ltOf hlt.2) | exact ktn_ltOf (And.right (by assumption)) | exact ktn_ltOf (And.right (And.right (by assumption))) | exact ktn_ltOf (And.right (And.right (And.right (by assumption)))) | exact ktn_ltOf (And.right (And.right (And.right (And.right (by assumption))))) | exact ktn_ltOf (And.right (And.right (And.right (And.right (And.right (by assumption)))))) | exact ktn_ltOf (And.right (And.right (And.right (And.right (And.right (And.right (by assumption))))))) | ktn_no "m lt")
  k_with "m back" => ((intro r9 tl9 h9 tk9 F9 N9 l9 o9; cases o9; all_goals ((try simp only [List.nil_append, List.cons_append] at N9); (first | (replace l9 := newLt l9; (try k_lt l9)) | clear l9); (try dsimp only); (try k_fold))))
  k_with "!call ref" => ((k_here; (with_reducible show wpAny _ _ (PySem.call (Value.ref 58) _) _ _ _); k_dflt (refine' Does.use (by k_asm) (does_made _ _ _ _ _ _ _ _ (by k_extra "m fact") (by k_extra "m fact") (by k_extra "m fact")) (by k_extra "m k1") (by k_extra "m k2") (by k_extra "m k3") (by k_extra "m k5") (by k_extra "m k6") (by k_extra "m k7") (by k_extra "m k8") ?_; k_extra "m back")))
  k_with "m sm" => (first | assumption | exact Sm.of45 (by assumption) | exact Sm.p10 (by k_extra "m fact") | exact Sm.lit (by omega) | ktn_no "m sm")
  k_with "!binaryOp Mult int int" => ((k_here; (with_reducible refine PyProof.Rows.mul_int ?_ (IntMulOk.of_bits (Sm.bits (by k_extra "m sm")) (Sm.bits (by k_extra "m sm"))))))
  k_with "!call ref" => ((k_here; (with_reducible show wpAny _ _ (PySem.call (Value.ref 72) _) _ _ _); k_dflt (refine' Does.use (by k_asm) (does_fits _ _ _ _ _ _ (by k_extra "m fact")) (by k_extra "m k1") (by k_extra "m k2") (by k_extra "m k3") (by k_extra "m k5") (by k_extra "m k6") (by k_extra "m k7") (by k_extra "m k8") ?_; k_extra "m back")))
  k_with "!call ref" => ((k_here; (with_reducible show wpAny _ _ (PySem.call (Value.ref 86) _) _ _ _); k_dflt (refine' Does.use (by k_asm) (does_decimal_int _ _ _ _ _ _ (by k_extra "m fact") (by k_extra "m fact")) (by k_extra "m k1") (by k_extra "m k2") (by k_extra "m k3") (by k_extra "m k5") (by k_extra "m k6") (by k_extra "m k7") (by k_extra "m k8") ?_; k_extra "m back")))
  k_with "!call ref" => ((k_here; (with_reducible show wpAny _ _ (PySem.call (Value.ref 86) _) _ _ _); k_dflt (refine' Does.use (by k_asm) (does_decimal_tup _ _ _ _ _ _ _ _ _ (by k_mem) (by k_extra "m fact") (by k_extra "m fact") (by k_extra "m fact")) (by k_extra "m k1") (by k_extra "m k2") (by k_extra "m k3") (by k_extra "m k5") (by k_extra "m k6") (by k_extra "m k7") (by k_extra "m k8") ?_; k_extra "m back")))
  k_with "!call ref" => ((k_here; (with_reducible show wpAny _ _ (PySem.call (Value.ref 94) _) _ _ _); k_dflt (refine' Does.use (by k_asm) (does_negated _ _ _ _ _ _ _ (by k_mem)) (by k_extra "m k1") (by k_extra "m k2") (by k_extra "m k3") (by k_extra "m k5") (by k_extra "m k6") (by k_extra "m k7") (by k_extra "m k8") ?_; k_extra "m back")))
  k_with "!call ref" => ((k_here; (with_reducible show wpAny _ _ (PySem.call (Value.ref 101) _) _ _ _); k_dflt (refine' Does.use (by k_asm) (does_alike _ _ _ _ _ _ _ _ _ _ _ _ (by k_mem) (by k_mem) (by k_extra "m fact") (by k_extra "m fact") (by k_extra "m fact") (by k_extra "m fact")) (by k_extra "m k1") (by k_extra "m k2") (by k_extra "m k3") (by k_extra "m k5") (by k_extra "m k6") (by k_extra "m k7") (by k_extra "m k8") ?_; k_extra "m back")))
  k_with "!call ref" => ((k_here; (with_reducible show wpAny _ _ (PySem.call (Value.ref 108) _) _ _ _); k_dflt (refine' Does.use (by k_asm) (does_add _ _ _ _ _ _ _ _ _ _ _ _ _ _ (by k_mem) (by k_mem) (by k_extra "m fact") (by k_extra "m fact") (by k_extra "m fact") (by k_extra "m fact") (by k_extra "m fact") (by k_extra "m fact")) (by k_extra "m k1") (by k_extra "m k2") (by k_extra "m k3") (by k_extra "m k5") (by k_extra "m k6") (by k_extra "m k7") (by k_extra "m k8") ?_; k_extra "m back")))
  k_with "!call ref" => ((k_here; (with_reducible show wpAny _ _ (PySem.call (Value.ref 122) _) _ _ _); k_dflt (refine' Does.use (by k_asm) (does_mul _ _ _ _ _ _ _ _ _ _ _ _ _ _ (by k_mem) (by k_mem) (by k_extra "m fact") (by k_extra "m fact") (by k_extra "m fact") (by k_extra "m fact") (by k_extra "m fact")) (by k_extra "m k1") (by k_extra "m k2") (by k_extra "m k3") (by k_extra "m k5") (by k_extra "m k6") (by k_extra "m k7") (by k_extra "m k8") ?_; k_extra "m back")))
  k_with "!call ref" => ((k_here; (with_reducible show wpAny _ _ (PySem.call (Value.ref 129) _) _ _ _); k_dflt (refine' Does.use (by k_asm) (does_rest _ _ _ _ _ _ _ _) (by k_extra "m k1") (by k_extra "m k2") (by k_extra "m k3") (by k_extra "m k5") (by k_extra "m k6") (by k_extra "m k7") (by k_extra "m k8") ?_; k_extra "m back")))
  k_with "!call ref" => ((k_here; (with_reducible show wpAny _ _ (PySem.call (Value.ref 164) _) _ _ _); k_dflt (refine' Does.use (by k_asm) (does_is_whole _ _ _ _) (by k_extra "m k1") (by k_extra "m k2") (by k_extra "m k3") (by k_extra "m k5") (by k_extra "m k6") (by k_extra "m k7") (by k_extra "m k8") ?_; k_extra "m back")))
  k_with "!call ref" => ((k_here; (with_reducible show wpAny _ _ (PySem.call (Value.ref 164) _) _ _ _); k_dflt (refine' Does.use (by k_asm) (does_is_dec _ _ _ _ _ _ _ (by k_mem)) (by k_extra "m k1") (by k_extra "m k2") (by k_extra "m k3") (by k_extra "m k5") (by k_extra "m k6") (by k_extra "m k7") (by k_extra "m k8") ?_; k_extra "m back")))
  k_with "!call ref" => ((k_here; (with_reducible show wpAny _ _ (PySem.call (Value.ref 171) _) _ _ _); k_dflt (refine' Does.use (by k_asm) (does_settled _ _ _ _ _ _ _ _ (by k_extra "m fact") (by k_extra "m fact") (by k_extra "m fact")) (by k_extra "m k1") (by k_extra "m k2") (by k_extra "m k3") (by k_extra "m k5") (by k_extra "m k6") (by k_extra "m k7") (by k_extra "m k8") ?_; k_extra "m back")))
  k_with "!call ref" => ((k_here; (with_reducible show wpAny _ _ (PySem.call (Value.ref 115) _) _ _ _); k_dflt (refine' Does.use (by k_asm) (does_sub _ _ _ _ _ _ _ _ _ _ _ _ _ _ (by k_mem) (by k_mem) (by k_extra "m fact") (by k_extra "m fact") (by k_extra "m fact") (by k_extra "m fact") (by k_extra "m fact") (by k_extra "m fact")) (by k_extra "m k1") (by k_extra "m k2") (by k_extra "m k3") (by k_extra "m k5") (by k_extra "m k6") (by k_extra "m k7") (by k_extra "m k8") ?_; k_extra "m back")))
  k_with "!call ref" => ((k_here; (with_reducible show wpAny _ _ (PySem.call (Value.ref 143) _) _ _ _); k_dflt (refine' Does.use (by k_asm) (does_compare _ _ _ _ _ _ _ _ _ _ _ _ (by k_mem) (by k_mem) (by k_extra "m fact") (by k_extra "m fact") (by k_extra "m fact") (by k_extra "m fact")) (by k_extra "m k1") (by k_extra "m k2") (by k_extra "m k3") (by k_extra "m k5") (by k_extra "m k6") (by k_extra "m k7") (by k_extra "m k8") ?_; k_extra "m back")))
  k_with "!call ref" => ((k_here; (with_reducible show wpAny _ _ (PySem.call (Value.ref 136) _) _ _ _); k_dflt (refine' Does.use (by k_asm) (does_div _ _ _ _ _ _ _ _ _ _ _ _ _ _ (by k_mem) (by k_mem) (by k_extra "m fact") (by k_extra "m fact") (by k_extra "m fact") (by k_extra "m fact") (by k_extra "m fact")) (by k_extra "m k1") (by k_extra "m k2") (by k_extra "m k3") (by k_extra "m k5") (by k_extra "m k6") (by k_extra "m k7") (by k_extra "m k8") ?_; k_extra "m back")))
  k_with "!call ref" => ((k_here; (with_reducible show wpAny _ _ (PySem.call (Value.ref 178) _) _ _ _); k_dflt (refine' Does.use (by k_asm) (does_whole _ _ _ _ _ _ _ _ _ _ _ _ _ (by assumption) (by k_extra "m fact") (by k_extra "m fact") (by k_extra "m fact") (by k_extra "m fact") (by k_extra "m fact")) (by k_extra "m k1") (by k_extra "m k2") (by k_extra "m k3") (by k_extra "m k5") (by k_extra "m k6") (by k_extra "m k7") (by k_extra "m k8") ?_; k_extra "m back")))
  k_with "!call ref" => ((k_here; (with_reducible show wpAny _ _ (PySem.call (Value.ref 220) _) _ _ _); k_dflt (refine' Does.use (by k_asm) (does_rk_int _ _ _ _ _ _ _ _ _ _ _ _ _ (by assumption) (by k_extra "m fact") (by k_extra "m fact") (by k_extra "m fact") (by k_extra "m fact") (by k_extra "m fact")) (by k_extra "m k1") (by k_extra "m k2") (by k_extra "m k3") (by k_extra "m k5") (by k_extra "m k6") (by k_extra "m k7") (by k_extra "m k8") ?_; k_extra "m back")))
  k_with "!call ref" => ((k_here; (with_reducible show wpAny _ _ (PySem.call (Value.ref 234) _) _ _ _); k_dflt (refine' draw_use (by k_asm) (by k_updF) (by k_mem) (by assumption) (by assumption) (by assumption) (by k_extra "m fact") (by k_extra "m fact") (by k_extra "m fact") (by k_extra "m k1") (by k_extra "m k2") (by k_extra "m k3") (by k_extra "m k5") (by k_extra "m k6") (by k_extra "m k7") (by k_extra "m k8") ?_; intro x9 t9 u9 h9 tk9 g0 g1 F9 N9; (try dsimp only at N9 ⊢))))
  k_with "m ne" => (with_reducible first | assumption | exact Ne.symm (by assumption) | exact Nat.ne_of_lt (by assumption) | exact Nat.ne_of_gt (by assumption) | exact (And.left (by assumption)) | exact Ne.symm (And.left (by assumption)) | exact Nat.ne_of_lt (And.left (by assumption)) | exact Nat.ne_of_gt (And.left (by assumption)) | exact (And.left (And.right (by assumption))) | exact Ne.symm (And.left (And.right (by assumption))) | exact Nat.ne_of_lt (And.left (And.right (by assumption))) | exact Nat.ne_of_gt (And.left (And.right (by assumption))) | exact (And.right (by assumption)) | exact Ne.symm (And.right (by assumption)) | exact Nat.ne_of_lt (And.right (by assumption)) | exact Nat.ne_of_gt (And.right (by assumption)) | exact (And.left (And.right (And.right (by assumption)))) | exact Ne.symm (And.left (And.right (And.right (by assumption)))) | exact Nat.ne_of_lt (And.left (And.right (And.right (by assumption)))) | exact Nat.ne_of_gt (And.left (And.right (And.right (by assumption)))) | exact (And.right (And.right (by assumption))) | exact Ne.symm (And.right (And.right (by assumption))) | exact Nat.ne_of_lt (And.right (And.right (by assumption))) | exact Nat.ne_of_gt (And.right (And.right (by assumption))) | exact (And.left (And.right (And.right (And.right (by assumption))))) | exact Ne.symm (And.left (And.right (And.right (And.right (by assumption))))) | exact Nat.ne_of_lt (And.left (And.right (And.right (And.right (by assumption))))) | exact Nat.ne_of_gt (And.left (And.right (And.right (And.right (by assumption))))) | exact (And.right (And.right (And.right (by assumption)))) | exact Ne.symm (And.right (And.right (And.right (by assumption)))) | exact Nat.ne_of_lt (And.right (And.right (And.right (by assumption)))) | exact Nat.ne_of_gt (And.right (And.right (And.right (by assumption)))) | exact (And.left (And.right (And.right (And.right (And.right (by assumption)))))) | exact Ne.symm (And.left (And.right (And.right (And.right (And.right (by assumption)))))) | exact Nat.ne_of_lt (And.left (And.right (And.right (And.right (And.right (by assumption)))))) | exact Nat.ne_of_gt (And.left (And.right (And.right (And.right (And.right (by assumption)))))) | exact (And.right (And.right (And.right (And.right (by assumption))))) | exact Ne.symm (And.right (And.right (And.right (And.right (by assumption))))) | exact Nat.ne_of_lt (And.right (And.right (And.right (And.right (by assumption))))) | exact Nat.ne_of_gt (And.right (And.right (And.right (And.right (by assumption))))) | exact (And.left (And.right (And.right (And.right (And.right (And.right (by assumption))))))) | exact Ne.symm (And.left (And.right (And.right (And.right (And.right (And.right (by assumption))))))) | exact Nat.ne_of_lt (And.left (And.right (And.right (And.right (And.right (And.right (by assumption))))))) | exact Nat.ne_of_gt (And.left (And.right (And.right (And.right (And.right (And.right (by assumption))))))) | exact (And.right (And.right (And.right (And.right (And.right (by assumption)))))) | exact Ne.symm (And.right (And.right (And.right (And.right (And.right (by assumption)))))) | exact Nat.ne_of_lt (And.right (And.right (And.right (And.right (And.right (by assumption)))))) | exact Nat.ne_of_gt (And.right (And.right (And.right (And.right (And.right (by assumption)))))) | exact (And.left (And.right (And.right (And.right (And.right (And.right (And.right (by assumption)))))))) | exact Ne.symm (And.left (And.right (And.right (And.right (And.right (And.right (And.right (by assumption)))))))) | exact Nat.ne_of_lt (And.left (And.right (And.right (And.right (And.right (And.right (And.right (by assumption)))))))) | exact Nat.ne_of_gt (And.left (And.right (And.right (And.right (And.right (And.right (And.right (by assumption)))))))) | exact (And.right (And.right (And.right (And.right (And.right (And.right (by assumption))))))) | exact Ne.symm (And.right (And.right (And.right (And.right (And.right (And.right (by assumption))))))) | exact Nat.ne_of_lt (And.right (And.right (And.right (And.right (And.right (And.right (by assumption))))))) | exact Nat.ne_of_gt (And.right (And.right (And.right (And.right (And.right (And.right (by assumption))))))) | exact (And.left (And.right (And.right (And.right (And.right (And.right (And.right (And.right (by assumption))))))))) | exact Ne.symm (And.left (And.right (And.right (And.right (And.right (And.right (And.right (And.right (by assumption))))))))) | exact Nat.ne_of_lt (And.left (And.right (And.right (And.right (And.right (And.right (And.right (And.right (by assumption))))))))) | exact Nat.ne_of_gt (And.left (And.right (And.right (And.right (And.right (And.right (And.right (And.right (by assumption))))))))) | exact (And.right (And.right (And.right (And.right (And.right (And.right (And.right (by assumption)))))))) | exact Ne.symm (And.right (And.right (And.right (And.right (And.right (And.right (And.right (by assumption)))))))) | exact Nat.ne_of_lt (And.right (And.right (And.right (And.right (And.right (And.right (And.right (by assumption)))))))) | exact Nat.ne_of_gt (And.right (And.right (And.right (And.right (And.right (And.right (And.right (by assumption)))))))) | exact (And.left (And.right (And.right (And.right (And.right (And.right (And.right (And.right (And.right (by assumption)))))))))) | exact Ne.symm (And.left (And.right (And.right (And.right (And.right (And.right (And.right (And.right (And.right (by assumption)))))))))) | exact Nat.ne_of_lt (And.left (And.right (And.right (And.right (And.right (And.right (And.right (And.right (And.right (by assumption)))))))))) | exact Nat.ne_of_gt (And.left (And.right (And.right (And.right (And.right (And.right (And.right (And.right (And.right (by assumption)))))))))) | exact (And.right (And.right (And.right (And.right (And.right (And.right (And.right (And.right (by assumption))))))))) | exact Ne.symm (And.right (And.right (And.right (And.right (And.right (And.right (And.right (And.right (by assumption))))))))) | exact Nat.ne_of_lt (And.right (And.right (And.right (And.right (And.right (And.right (And.right (And.right (by assumption))))))))) | exact Nat.ne_of_gt (And.right (And.right (And.right (And.right (And.right (And.right (And.right (And.right (by assumption))))))))) | exact (And.left (And.right (And.right (And.right (And.right (And.right (And.right (And.right (And.right (And.right (by assumption))))))))))) | exact Ne.symm (And.left (And.right (And.right (And.right (And.right (And.right (And.right (And.right (And.right (And.right (by assumption))))))))))) | exact Nat.ne_of_lt (And.left (And.right (And.right (And.right (And.right (And.right (And.right (And.right (And.right (And.right (by assumption))))))))))) | exact Nat.ne_of_gt (And.left (And.right (And.right (And.right (And.right (And.right (And.right (And.right (And.right (And.right (by assumption))))))))))) | exact (And.right (And.right (And.right (And.right (And.right (And.right (And.right (And.right (And.right (by assumption)))))))))) | exact Ne.symm (And.right (And.right (And.right (And.right (And.right (And.right (And.right (And.right (And.right (by assumption)))))))))) | exact Nat.ne_of_lt (And.right (And.right (And.right (And.right (And.right (And.right (And.right (And.right (And.right (by assumption)))))))))) | exact Nat.ne_of_gt (And.right (And.right (And.right (And.right (And.right (And.right (And.right (And.right (And.right (by assumption)))))))))) | exact (And.left (And.right (And.right (And.right (And.right (And.right (And.right (And.right (And.right (And.right (And.right (by assumption)))))))))))) | exact Ne.symm (And.left (And.right (And.right (And.right (And.right (And.right (And.right (And.right (And.right (And.right (And.right (by assumption)))))))))))) | exact Nat.ne_of_lt (And.left (And.right (And.right (And.right (And.right (And.right (And.right (And.right (And.right (And.right (And.right (by assumption)))))))))))) | exact Nat.ne_of_gt (And.left (And.right (And.right (And.right (And.right (And.right (And.right (And.right (And.right (And.right (And.right (by assumption)))))))))))) | exact (And.right (And.right (And.right (And.right (And.right (And.right (And.right (And.right (And.right (And.right (by assumption))))))))))) | exact Ne.symm (And.right (And.right (And.right (And.right (And.right (And.right (And.right (And.right (And.right (And.right (by assumption))))))))))) | exact Nat.ne_of_lt (And.right (And.right (And.right (And.right (And.right (And.right (And.right (And.right (And.right (And.right (by assumption))))))))))) | exact Nat.ne_of_gt (And.right (And.right (And.right (And.right (And.right (And.right (And.right (And.right (And.right (And.right (by assumption))))))))))) | exact (And.left (And.right (And.right (And.right (And.right (And.right (And.right (And.right (And.right (And.right (And.right (And.right (by assumption))))))))))))) | exact Ne.symm (And.left (And.right (And.right (And.right (And.right (And.right (And.right (And.right (And.right (And.right (And.right (And.right (by assumption))))))))))))) | exact Nat.ne_of_lt (And.left (And.right (And.right (And.right (And.right (And.right (And.right (And.right (And.right (And.right (And.right (And.right (by assumption))))))))))))) | exact Nat.ne_of_gt (And.left (And.right (And.right (And.right (And.right (And.right (And.right (And.right (And.right (And.right (And.right (And.right (by assumption))))))))))))) | exact (And.right (And.right (And.right (And.right (And.right (And.right (And.right (And.right (And.right (And.right (And.right (by assumption)))))))))))) | exact Ne.symm (And.right (And.right (And.right (And.right (And.right (And.right (And.right (And.right (And.right (And.right (And.right (by assumption)))))))))))) | exact Nat.ne_of_lt (And.right (And.right (And.right (And.right (And.right (And.right (And.right (And.right (And.right (And.right (And.right (by assumption)))))))))))) | exact Nat.ne_of_gt (And.right (And.right (And.right (And.right (And.right (And.right (And.right (And.right (And.right (And.right (And.right (by assumption)))))))))))) | exact (And.left (And.right (And.right (And.right (And.right (And.right (And.right (And.right (And.right (And.right (And.right (And.right (And.right (by assumption)))))))))))))) | exact Ne.symm (And.left (And.right (And.right (And.right (And.right (And.right (And.right (And.right (And.right (And.right (And.right (And.right (And.right (by assumption)))))))))))))) | exact Nat.ne_of_lt (And.left (And.right (And.right (And.right (And.right (And.right (And.right (And.right (And.right (And.right (And.right (And.right (And.right (by assumption)))))))))))))) | exact Nat.ne_of_gt (And.left (And.right (And.right (And.right (And.right (And.right (And.right (And.right (And.right (And.right (And.right (And.right (And.right (by assumption)))))))))))))) | exact (And.right (And.right (And.right (And.right (And.right (And.right (And.right (And.right (And.right (And.right (And.right (And.right (by assumption))))))))))))) | exact Ne.symm (And.right (And.right (And.right (And.right (And.right (And.right (And.right (And.right (And.right (And.right (And.right (And.right (by assumption))))))))))))) | exact Nat.ne_of_lt (And.right (And.right (And.right (And.right (And.right (And.right (And.right (And.right (And.right (And.right (And.right (And.right (by assumption))))))))))))) | exact Nat.ne_of_gt (And.right (And.right (And.right (And.right (And.right (And.right (And.right (And.right (And.right (And.right (And.right (And.right (by assumption))))))))))))) | k_extra "m nest")
  k_with "m nest" => (with_reducible first | exact (And.left (And.left (by assumption))) | exact Ne.symm (And.left (And.left (by assumption))) | exact (And.left (And.right (And.left (by assumption)))) | exact Ne.symm (And.left (And.right (And.left (by assumption)))) | exact (And.right (And.right (And.left (by assumption)))) | exact Ne.symm (And.right (And.right (And.left (by assumption)))) | exact (And.left (And.left (And.right (by assumption)))) | exact Ne.symm (And.left (And.left (And.right (by assumption)))) | exact (And.left (And.right (And.left (And.right (by assumption))))) | exact Ne.symm (And.left (And.right (And.left (And.right (by assumption))))) | exact (And.right (And.right (And.left (And.right (by assumption))))) | exact Ne.symm (And.right (And.right (And.left (And.right (by assumption))))) | exact (And.left (And.left (And.right (And.right (by assumption))))) | exact Ne.symm (And.left (And.left (And.right (And.right (by assumption))))) | exact (And.left (And.right (And.left (And.right (And.right (by assumption)))))) | exact Ne.symm (And.left (And.right (And.left (And.right (And.right (by assumption)))))) | exact (And.right (And.right (And.left (And.right (And.right (by assumption)))))) | exact Ne.symm (And.right (And.right (And.left (And.right (And.right (by assumption)))))) | exact (And.left (And.left (And.right (And.right (And.right (by assumption)))))) | exact Ne.symm (And.left (And.left (And.right (And.right (And.right (by assumption)))))) | exact (And.left (And.right (And.left (And.right (And.right (And.right (by assumption))))))) | exact Ne.symm (And.left (And.right (And.left (And.right (And.right (And.right (by assumption))))))) | exact (And.right (And.right (And.left (And.right (And.right (And.right (by assumption))))))) | exact Ne.symm (And.right (And.right (And.left (And.right (And.right (And.right (by assumption))))))) | exact (And.left (And.left (And.right (And.right (And.right (And.right (by assumption))))))) | exact Ne.symm (And.left (And.left (And.right (And.right (And.right (And.right (by assumption))))))) | exact (And.left (And.right (And.left (And.right (And.right (And.right (And.right (by assumption)))))))) | exact Ne.symm (And.left (And.right (And.left (And.right (And.right (And.right (And.right (by assumption)))))))) | exact (And.right (And.right (And.left (And.right (And.right (And.right (And.right (by assumption)))))))) | exact Ne.symm (And.right (And.right (And.left (And.right (And.right (And.right (And.right (by assumption)))))))) | exact (And.left (And.left (And.right (And.right (And.right (And.right (And.right (by assumption)))))))) | exact Ne.symm (And.left (And.left (And.right (And.right (And.right (And.right (And.right (by assumption)))))))) | exact (And.left (And.right (And.left (And.right (And.right (And.right (And.right (And.right (by assumption))))))))) | exact Ne.symm (And.left (And.right (And.left (And.right (And.right (And.right (And.right (And.right (by assumption))))))))) | exact (And.right (And.right (And.left (And.right (And.right (And.right (And.right (And.right (by assumption))))))))) | exact Ne.symm (And.right (And.right (And.left (And.right (And.right (And.right (And.right (And.right (by assumption))))))))) | exact (And.left (And.left (And.right (And.right (And.right (And.right (And.right (And.right (by assumption))))))))) | exact Ne.symm (And.left (And.left (And.right (And.right (And.right (And.right (And.right (And.right (by assumption))))))))) | exact (And.left (And.right (And.left (And.right (And.right (And.right (And.right (And.right (And.right (by assumption)))))))))) | exact Ne.symm (And.left (And.right (And.left (And.right (And.right (And.right (And.right (And.right (And.right (by assumption)))))))))) | exact (And.right (And.right (And.left (And.right (And.right (And.right (And.right (And.right (And.right (by assumption)))))))))) | exact Ne.symm (And.right (And.right (And.left (And.right (And.right (And.right (And.right (And.right (And.right (by assumption)))))))))) | exact (And.left (And.left (And.right (And.right (And.right (And.right (And.right (And.right (And.right (by assumption)))))))))) | exact Ne.symm (And.left (And.left (And.right (And.right (And.right (And.right (And.right (And.right (And.right (by assumption)))))))))) | exact (And.left (And.right (And.left (And.right (And.right (And.right (And.right (And.right (And.right (And.right (by assumption))))))))))) | exact Ne.symm (And.left (And.right (And.left (And.right (And.right (And.right (And.right (And.right (And.right (And.right (by assumption))))))))))) | exact (And.right (And.right (And.left (And.right (And.right (And.right (And.right (And.right (And.right (And.right (by assumption))))))))))) | exact Ne.symm (And.right (And.right (And.left (And.right (And.right (And.right (And.right (And.right (And.right (And.right (by assumption))))))))))) | exact (And.left (And.left (And.right (And.right (And.right (And.right (And.right (And.right (And.right (And.right (by assumption))))))))))) | exact Ne.symm (And.left (And.left (And.right (And.right (And.right (And.right (And.right (And.right (And.right (And.right (by assumption))))))))))) | exact (And.left (And.right (And.left (And.right (And.right (And.right (And.right (And.right (And.right (And.right (And.right (by assumption)))))))))))) | exact Ne.symm (And.left (And.right (And.left (And.right (And.right (And.right (And.right (And.right (And.right (And.right (And.right (by assumption)))))))))))) | exact (And.right (And.right (And.left (And.right (And.right (And.right (And.right (And.right (And.right (And.right (And.right (by assumption)))))))))))) | exact Ne.symm (And.right (And.right (And.left (And.right (And.right (And.right (And.right (And.right (And.right (And.right (And.right (by assumption)))))))))))))
  k_with "m enterC" => ((refine wpAny_call ?_; k_dflt (refine' code_defC (by k_asm) (by k_asm) (by k_asm) (by k_asm) (by k_asm) (by exact rfl) (by exact rfl) (by assumption) (by k_is) (by k_is) (by k_extra "m k7") (by exact BindsTo.of_eq rfl) (by exact rfl) (by decide +kernel) ?_ (by exact rfl) (by exact rfl) (by exact rfl); k_whole; intro g' L' h' tk' cells' FG' F' N' Y' B' X' T' l1; (try k_lt l1); k_cells Y'; (try simp only [List.cons_append, List.nil_append] at N'); (try dsimp only); (try k_lift B'); (try k_fold))))
  k_with "!eval ListComp" => ((k_here; k_dflt (refine LCg.ListComp_U (F₀ := by k_asm) (by with_unfolding_all rfl) (by decide) (by rfl) (by decide) (by rfl) ?_); k_dflt lcg_toSrc))
  k_with "!exec Assign cons ListComp" => ((k_here; k_dflt (refine LCg.Assign_ListComp_U (F₀ := by k_asm) (by rfl) (by with_unfolding_all rfl) (by with_unfolding_all rfl) (by decide) (by rfl) (by decide) (by rfl) (by rfl) (by rfl) ?_); k_dflt lcg_toSrc))
  k_with "!CompSrc" => ((k_here; k_dflt (first | (refine LCg.CompSrc.ledger (by rfl) (by k_asm) (by k_asm) (by k_mem) (by first | size_fits | exact Nat.le_of_ble_eq_true rfl) ?_; intro g'; lcg_lit) | (refine LCg.CompSrc.base (by rfl) (by k_asm) (by k_asm) (by assumption) (by first | size_fits | exact Nat.le_of_ble_eq_true rfl) ?_; intro g'; lcg_lit) | (refine LCg.CompSrc.range (by rfl) (by k_asm) (by k_asm) (by assumption) (by first | decide | rfl) (by first | rfl | decide) (by first | size_fits | exact Nat.le_of_ble_eq_true rfl) ?_; intro g'; lcg_lit))))
  k_with "m enterSC" => ((refine wpAny_call ?_; k_dflt (refine' enterSC (g₀ := _) (by k_asm) (by k_asm) (by k_asm) (by k_asm) (by k_asm) (by assumption) (by assumption) (by assumption) KtsTurn.refl (by exact rfl) (by exact rfl) (by assumption) (by k_is) (by k_is) (by k_extra "m k7") (by exact BindsTo.of_eq rfl) (by exact rfl) (by decide +kernel) ?_ (by exact rfl) (by exact rfl) (by exact rfl); k_whole; intro g' L' h' tk' cells' FG' F' N' Y' B' X' T' D' l1; (try k_lt l1); k_cells Y'; (try simp only [List.cons_append, List.nil_append] at N'); (try dsimp only); (try k_lift B'); (try k_fold))))
  k_with "!exec Assign cons ListComp" => ((k_here; k_dflt (refine Assign_ListComp_K (F₀ := by k_asm) (B := by k_asm) (X := by k_asm) (T := by k_asm) (XB := by assumption) (TB := by assumption) (DD := by assumption) (by rfl) (by with_unfolding_all rfl) (by with_unfolding_all rfl) (by decide) (by rfl) (by decide) (by rfl) (by rfl) (by rfl) ?_)))
  k_with "!SrcK" => ((k_dflt (refine SrcK.intro (by rfl) (by k_asm) (by k_asm) (by k_mem) (by first | size_fits | exact Nat.le_of_ble_eq_true rfl) ?_; intro g9)))
  k_with "!RestK" => ((with_unfolding_all first | (refine RestK.succ ?_; intro v' I' oI' C' oC' D' m' g' h' tk' E' hv' hC' hx' G' F' N' off' ne'; lcg_open hv'; obtain ⟨T', B', X', P', DD'⟩ := G'; (try dsimp only)) | refine RestK.zero ?_))
  k_with "!FinK" => (((unfold FinK); intro g' D' h' tk' G' F' N' o1'; obtain ⟨T', B', X', P', DD'⟩ := G'; (try simp only [LCg.Off1, and_true] at o1'); (try simp only [List.nil_append, List.cons_append] at N'); (try dsimp only)))
  trivial
open LCg in
theorem EndK.intro2 {w : World} {A₀ : Around} {base h₀ g : Heap} {outer : List Env} {mean : ExcName → Option Value} {mg mb : Str → Option Value} {L : Addr} {m : Str → Option Value} {s₀ s : Shared} {src p q : Addr × Obj} {I C D : Addr} {oI oC : Obj} {ys : List Value} {rest : Value → Led → Prop} {news : Led} {y : Value}
    (F : Fr g L s.heap m) (N : News g L s.heap (p :: q :: (I, oI) :: (C, oC) :: (D, lst ys) :: news)) (hs : ∃ h tk, s = { s₀ with heap := h, toks := tk }) (T : KtsTurn (outer.filterMap (·.frame)) h₀ g) (B : Below A₀ base outer g) (X : (hd.heap_1 w.params).In g) (P : Top hdView loose mean mg mb g) (DD : KtsDicts (outer.filterMap (·.frame)) g)
    (off : Off3 I C D news) (hp : p.1 ≠ I ∧ p.1 ≠ C ∧ p.1 ≠ D) (hq : q.1 ≠ I ∧ q.1 ≠ C ∧ q.1 ≠ D) (hsrc : src ∈ news) (r : rest y (p :: q :: news)) : EndK w A₀ base h₀ outer mean mg mb L m s₀ src I oI C oC D ys rest y s := by
  obtain ⟨h, tk, rfl⟩ := hs
  refine ⟨g, h, tk, p :: q :: news, rfl, ⟨T, B, X, P, DD⟩, F, fun z hz => N z ?_, ⟨hp, hq, off⟩, .tail _ (.tail _ hsrc), r⟩
  rcases List.mem_cons.mp hz with rfl | hz
  · exact .tail _ (.tail _ (.head _))
  rcases List.mem_cons.mp hz with rfl | hz
  · exact .tail _ (.tail _ (.tail _ (.head _)))
  rcases List.mem_cons.mp hz with rfl | hz
  · exact .tail _ (.tail _ (.tail _ (.tail _ (.head _))))
  rcases List.mem_cons.mp hz with rfl | hz
  · exact .head _
  rcases List.mem_cons.mp hz with rfl | hz
  · exact .tail _ (.head _)
  · exact .tail _ (.tail _ (.tail _ (.tail _ (.tail _ hz))))
section
variable {prog : Program} {w : World} {A : Around} {E : Value → Shared → Prop} {s : Shared} {h₀ : Heap} {env : Env} {m : Str → Option Value} {Q : Flow → Shared → Prop} {body : List Stmt}
theorem cells_loop {x : Str} {pos : Pos} {r : Addr} {t u v : Tok} {S p0 p1 p2 c0 c1 c2 Lb bag l : Addr} {e1 e2 e3 : Addr × Obj} {ob : Obj} {t0 t1 t2 u0 u1 u2 tsp : Tok} {a0 a1 a2 sp spot : Int} {k0 k1 k2 n n' : Nat} {vs : List Value}
    (hh : A.handled = none) (hr : IsRange s.heap r 0 (4 : Nat) 1 t u v) (F : Fr h₀ env.locals s.heap m)
    (N : News h₀ env.locals s.heap [(S, LCg.lst [.ref p0, .ref p1, .ref p2]), (p2, W.listOf #[.int 32 t2, .ref c2] 0), (c2, W.listOf #[.int a0 u0, .int a1 u1, .int a2 u2] k2), (p1, W.listOf #[.int 16 t1, .ref c1] 0), (c1, W.listOf #[.int a0 u0, .int a1 u1, .int a2 u2] k1),
      (p0, W.listOf #[.int 8 t0, .ref c0] 0), (c0, W.listOf #[.int a0 u0, .int a1 u1, .int a2 u2] k0), e1, e2, e3, (Lb, ob), (bag, lst2 l sp tsp n), (l, W.listOf vs.toArray n')])
    (hc : c0 ≠ c1 ∧ c0 ≠ c2 ∧ c1 ≠ c2 ∧ c0 ≠ bag ∧ c1 ≠ bag ∧ c2 ≠ bag) (hl : l ≠ c0 ∧ l ≠ c1 ∧ l ≠ c2 ∧ l ≠ bag) (hS : S ≠ c0 ∧ S ≠ c1 ∧ S ≠ c2 ∧ S ≠ bag) (h0 : p0 ≠ c0 ∧ p0 ≠ c1 ∧ p0 ≠ c2 ∧ p0 ≠ bag) (h1 : p1 ≠ c0 ∧ p1 ≠ c1 ∧ p1 ≠ c2 ∧ p1 ≠ bag) (h2 : p2 ≠ c0 ∧ p2 ≠ c1 ∧ p2 ≠ c2 ∧ p2 ≠ bag) (hb : Lb ≠ c0 ∧ Lb ≠ c1 ∧ Lb ≠ c2 ∧ Lb ≠ bag)
    (ha0 : a0.natAbs ≤ 99) (ha1 : a1.natAbs ≤ 99) (ha2 : a2.natAbs ≤ 99) (hs0 : 0 ≤ sp) (hs1 : sp ≤ spot) (hm : m "sides" = some (.ref S)) (hy : env.kindOf x = some .local) (hp : (env.scope.kind == .class || (env.scope.kind == .module && env.locals != env.globals)) = false)
    (turn : ∀ (i : Nat) (t : Tok) (m₁ : Str → Option Value) (h₁ : Heap) (tk₁ : Nat) (I : Addr) (oI : Obj) (N : Nat → Int) (V : Nat → List Value) (rest : Led) (sp : Int) (tsp : Tok), i < 4 → ApartL (pick c0 c1 c2) bag rest → (∀ k, k < 3 → CellsAt rest N (V k)) → NumOk (2 ^ (i + 1)) N → 0 ≤ sp → sp ≤ spot + 3 * (i : Int) → RestOk l S (pick p0 p1 p2) (pick c0 c1 c2) (pick 8 16 32) (pick t0 t1 t2) Lb ob vs n' rest → (Lb, ob) ∈ rest → (l, W.listOf vs.toArray n') ∈ rest → m₁ "sides" = some (.ref S) →
      Fr h₀ env.locals h₁ (fun z => if z = x then some (.int (i : Int) t) else m₁ z) → News h₀ env.locals h₁ ((I, oI) :: frontD (pick c0 c1 c2) (pick k0 k1 k2) V bag (lst2 l sp tsp n) rest) → (∀ q ∈ frontD (pick c0 c1 c2) (pick k0 k1 k2) V bag (lst2 l sp tsp n) rest, q.1 ≠ I) →
      wpAny (model prog w) A (execs body env) (TurnJ h₀ env.locals (JO l S (pick p0 p1 p2) (pick c0 c1 c2) (pick k0 k1 k2) (pick 8 16 32) (pick t0 t1 t2) Lb ob vs n n' bag spot (i + 1)) I oI [] { s with heap := h₁, toks := tk₁ }) E { s with heap := h₁, toks := tk₁ })
    (done : ∀ (h' : Heap) (tk : Nat) (m' : Str → Option Value) (sp : Int) (tsp : Tok), 0 ≤ sp → sp ≤ spot + 12 → Fr h₀ env.locals h' m' → News h₀ env.locals h' [(bag, lst2 l sp tsp n), (l, W.listOf vs.toArray n')] → Q .next { s with heap := h', toks := tk }) :
    wpAny (model prog w) A (pyIter (.ref r)) (fun it s₂ => TurnsAt prog w A h₀ env (.Name x pos) body Q E it s₂) E s := by
  have N₀ : News h₀ env.locals s.heap (frontD (pick c0 c1 c2) (pick k0 k1 k2) (fun _ => [.int a0 u0, .int a1 u1, .int a2 u2]) bag (lst2 l sp tsp n) [(l, W.listOf vs.toArray n'), (S, LCg.lst [.ref p0, .ref p1, .ref p2]), (p0, W.listOf #[.int 8 t0, .ref c0] 0), (p1, W.listOf #[.int 16 t1, .ref c1] 0), (p2, W.listOf #[.int 32 t2, .ref c2] 0), (Lb, ob)]) := fun q hq => by
    have hq' : q ∈ [(c0, W.listOf #[.int a0 u0, .int a1 u1, .int a2 u2] k0), (c1, W.listOf #[.int a0 u0, .int a1 u1, .int a2 u2] k1), (c2, W.listOf #[.int a0 u0, .int a1 u1, .int a2 u2] k2), (bag, lst2 l sp tsp n), (l, W.listOf vs.toArray n'), (S, LCg.lst [.ref p0, .ref p1, .ref p2]), (p0, W.listOf #[.int 8 t0, .ref c0] 0), (p1, W.listOf #[.int 16 t1, .ref c1] 0), (p2, W.listOf #[.int 32 t2, .ref c2] 0), (Lb, ob)] := hq
    apply N
    simp only [List.mem_cons, List.not_mem_nil, or_false] at hq' ⊢
    rcases hq' with h | h | h | h | h | h | h | h | h | h <;> simp only [h, true_or, or_true]
  have A₀ : ApartL (pick c0 c1 c2) bag [(l, W.listOf vs.toArray n'), (S, LCg.lst [.ref p0, .ref p1, .ref p2]), (p0, W.listOf #[.int 8 t0, .ref c0] 0), (p1, W.listOf #[.int 16 t1, .ref c1] 0), (p2, W.listOf #[.int 32 t2, .ref c2] 0), (Lb, ob)] := by
    refine ⟨hc.1, hc.2.1, hc.2.2.1, hc.2.2.2.1, hc.2.2.2.2.1, hc.2.2.2.2.2, ?_, ?_, ?_, ?_⟩
    all_goals
      intro q hq
      simp only [List.mem_cons, List.not_mem_nil, or_false] at hq
      rcases hq with rfl | rfl | rfl | rfl | rfl | rfl
    · exact hl.1
    · exact hS.1
    · exact h0.1
    · exact h1.1
    · exact h2.1
    · exact hb.1
    · exact hl.2.1
    · exact hS.2.1
    · exact h0.2.1
    · exact h1.2.1
    · exact h2.2.1
    · exact hb.2.1
    · exact hl.2.2.1
    · exact hS.2.2.1
    · exact h0.2.2.1
    · exact h1.2.2.1
    · exact h2.2.2.1
    · exact hb.2.2.1
    · exact hl.2.2.2
    · exact hS.2.2.2
    · exact h0.2.2.2
    · exact h1.2.2.2
    · exact h2.2.2.2
    · exact hb.2.2.2
  have R₀ : RestOk l S (pick p0 p1 p2) (pick c0 c1 c2) (pick 8 16 32) (pick t0 t1 t2) Lb ob vs n' [(l, W.listOf vs.toArray n'), (S, LCg.lst [.ref p0, .ref p1, .ref p2]), (p0, W.listOf #[.int 8 t0, .ref c0] 0), (p1, W.listOf #[.int 16 t1, .ref c1] 0), (p2, W.listOf #[.int 32 t2, .ref c2] 0), (Lb, ob)] := by
    refine ⟨.head _, .tail _ (.head _), fun k hk => ?_, .tail _ (.tail _ (.tail _ (.tail _ (.tail _ (.head _)))))⟩
    rcases three hk with rfl | rfl | rfl
    · exact .tail _ (.tail _ (.head _))
    · exact .tail _ (.tail _ (.tail _ (.head _)))
    · exact .tail _ (.tail _ (.tail _ (.tail _ (.head _))))
  have C₀ : ∀ rest : Led, CellsAt rest (pick a0 a1 a2) [.int a0 u0, .int a1 u1, .int a2 u2] := fun rest => ⟨rfl, fun j v e => by
    match j, e with
    | 0, e => cases e; exact .int _
    | 1, e => cases e; exact .int _
    | 2, e => cases e; exact .int _⟩
  have NK : NumOk (2 ^ (0 + 1)) (pick a0 a1 a2) := ⟨fun j hj => by
      rcases three hj with rfl | rfl | rfl
      · exact good_small (n := a0) (by omega)
      · exact good_small (n := a1) (by omega)
      · exact good_small (n := a2) (by omega), fun j hj => by
      rcases three hj with rfl | rfl | rfl
      · show a0.natAbs ≤ 10 ^ 2; omega
      · show a1.natAbs ≤ 10 ^ 2; omega
      · show a2.natAbs ≤ 10 ^ 2; omega⟩
  refine iter_rangeJ (k := 4) (JO l S (pick p0 p1 p2) (pick c0 c1 c2) (pick k0 k1 k2) (pick 8 16 32) (pick t0 t1 t2) Lb ob vs n n' bag spot) hh hr (by decide) (by decide) F N₀ ⟨⟨_, _, _, sp, tsp, rfl, A₀, fun k hk => C₀ _, NK, hs0, by simpa using hs1, R₀⟩, hm⟩ hy hp ?_ ?_
  · intro i t m₁ news₁ h₁ tk₁ I oI hi J F₁ N₁ off
    obtain ⟨⟨N, V, rest, sp, tsp, rfl, Ap, hC, hN, g0, g1, R⟩, hm₁⟩ := J
    exact turn i t m₁ h₁ tk₁ I oI N V rest sp tsp hi Ap hC hN g0 g1 R R.hb R.hl hm₁ F₁ N₁ off
  · intro h' tk m' news' F' N' J
    obtain ⟨⟨N, V, rest, sp, tsp, rfl, Ap, hC, hN, g0, g1, R⟩, hm₁⟩ := J
    exact done h' tk m' sp tsp g0 (by simpa using g1) F' (bag_ret N' (.tail _ (.tail _ (.tail _ (.head _)))) (fd_rest R.hl))
end
local macro_rules | `(tactic| k_mem) => `(tactic| ((with_reducible rename ApartL _ _ _ => apx9); first | k_extra "m fd" | (with_reducible refine List.mem_cons_of_mem _ ?_; k_extra "m fd") | (with_reducible refine List.mem_cons_of_mem _ (List.mem_cons_of_mem _ ?_); k_extra "m fd") | (with_reducible refine List.mem_cons_of_mem _ (List.mem_cons_of_mem _ (List.mem_cons_of_mem _ ?_)); k_extra "m fd")))
local macro_rules | `(tactic| k_in) => `(tactic| exact Frag.In.keeps (by k_asm) (Fr.keep (by k_asm)))
theorem words98_b : True := by
  k_with "!EndK" => ((k_dflt (refine EndK.intro2 (by assumption) (by assumption) ⟨_, _, rfl⟩ (by assumption) (by assumption) (by assumption) (by assumption) (by assumption) (by assumption) ⟨by k_ne, by k_ne, by k_ne⟩ ⟨by k_ne, by k_ne, by k_ne⟩ (by k_mem) ?_; (try dsimp only))))
  k_with "!exec For Name Call cons nil" => ((k_here; (rename Fr _ _ _ _ => lF'); (with_unfolding_all refine' For_turns lF' ?_; k_whole)))
  k_with "m four" => (exact ⟨by k_ne, by k_ne, by k_ne, by k_ne⟩)
  k_with "!pyIter ref" => ((k_here; (with_reducible show wpAny _ _ (pyIter (Value.ref _)) (fun it s₂ => TurnsAt _ _ _ _ _ _ _ _ _ it s₂) _ _); k_dflt (refine' cells_loop (by exact rfl) (by assumption) (by assumption) (by assumption) (by exact ⟨by k_ne, by k_ne, by k_ne, by k_ne, by k_ne, by k_ne⟩) (by k_extra "m four") (by k_extra "m four") (by k_extra "m four") (by k_extra "m four") (by k_extra "m four") (by k_extra "m four") (by omega) (by omega) (by omega) (by omega) (by exact Int.le_refl _) (by exact rfl) (by exact rfl) (by exact rfl) (fun i9 t9 m9 h9 tk9 I9 oI9 Nn9 V9 rest9 sp9 tsp9 hi9 Ap9 hC9 hN9 g0 g1 R9 hLb9 hl9 hm9 F9 N9 off9 => ?_) (fun h9 tk9 m9 sp9 tsp9 g0 g1 F9 N9 => ?_); all_goals (try dsimp only))))
  k_with "m fd" => (with_reducible first | exact fd_rest (by with_reducible assumption) | exact fd_mem (by with_reducible assumption))
  k_with "m updF" => (with_reducible exact UpdF.tail (fd_nebag (by with_reducible assumption)) (fd_updF (by with_reducible assumption)))
  k_with "!call ref" => (((with_reducible rename ApartL _ _ _ => apx9); k_here; (with_reducible show wpAny _ _ (PySem.call (Value.ref 234) _) _ _ _); k_dflt (refine' draw_use (by k_asm) (by k_extra "m updF") (by k_mem) (by assumption) (by assumption) (by assumption) (by k_extra "m fact") (by k_extra "m fact") (by k_extra "m fact") (by k_extra "m k1") (by k_extra "m k2") (by k_extra "m k3") (by k_extra "m k5") (by k_extra "m k6") (by k_extra "m k7") (by k_extra "m k8") ?_; intro x9 t9 u9 h9 tk9 g0 g1 F9 N9; (try dsimp only at N9 ⊢))))
  k_with "m look" => (((repeat (refine (if_neg (by decide)).trans ?_)); first | exact if_pos rfl | assumption))
  k_with "!eval Name" => (((with_reducible rename ApartL _ _ _ => apx9); k_here; k_dflt (refine' nameX_L (by k_asm) (by k_extra "m look") ?_ (by rfl) (by rfl); k_whole)))
  k_with "!exec For Tuple Name" => ((k_here; (rename Fr _ _ _ _ => lF'); (with_unfolding_all refine' For_turns lF' ?_; k_whole)))
  k_with "!exec For Tuple Name cons nil" => ((k_here; (rename Fr _ _ _ _ => lF'); (with_unfolding_all refine' For_turns lF' ?_; k_whole)))
  k_with "!pyIter ref" => (((with_reducible rename ApartL _ _ _ => apx9); k_here; (with_reducible show wpAny _ _ (pyIter (Value.ref _)) (fun it s₂ => TurnsAt _ _ _ _ _ _ _ _ _ it s₂) _ _); k_dflt (refine' side1x (by exact rfl) (by assumption) (by assumption) (by (intro _ hq9; exact List.mem_cons_of_mem _ hq9)) (by with_reducible assumption) (by with_reducible assumption) (by with_reducible assumption) (by with_reducible assumption) (by k_extra "m look") (by k_extra "m look") (by k_extra "m look") (by k_extra "m look") (by omega) (by omega) (by exact fd_offB (by with_reducible assumption) _) (fun i9 V9 rest9 m9 h9 tk9 I9 oI9 hi9 Ap9 lo9 hh9 hC9 len9 R9 hp9 l1 l2 l3 l4 off9 offb9 ne9 F9 N9 => ?_) (fun Nn9 V9 rest9 m9 h9 tk9 hN9 Ap9 hC9 R9 l1 l4 off9 sec9 F9 N9 => ?_); all_goals (try dsimp only))))
  k_with "!pyIter ref" => (((with_reducible rename Second => sec9); k_here; (with_reducible show wpAny _ _ (pyIter (Value.ref _)) (fun it s₂ => TurnsAt _ _ _ _ _ _ _ _ _ it s₂) _ _); k_dflt (refine' side2 (by exact rfl) (by assumption) (by assumption) (by with_reducible assumption) (by with_reducible assumption) (by k_extra "m look") (by k_extra "m look") (fun i9 m9 h9 tk9 I9 oI9 hi9 hC9 hC29 hp9 hp29 hS9 l1 l4 off9 F9 N9 => ?_) (fun m9 h9 tk9 l1 l4 F9 N9 => ?_); all_goals (try dsimp only))))
  k_with "m len3" => (first | with_reducible assumption | exact upd_len (by with_reducible assumption) | exact CellsAt.len (by with_reducible assumption))
  k_with "!subscriptTail" => (((with_reducible rename ApartL _ _ _ => apx9); k_here; (with_reducible show wpAny _ _ (subscriptTail _ _ (Value.ref _) (Value.int _ _)) _ _ _); k_dflt (refine' item_any (by k_asm) (by k_mem) (by k_extra "m len3") (by with_reducible assumption) (by with_reducible assumption) ?_; intro v9 hv9; (try (have e9 := upd_get (by with_reducible assumption) (by omega) hv9; subst e9)))))
  k_with "!subscriptTail" => (((with_reducible rename Second => sec9); k_here; (with_reducible show wpAny _ _ (subscriptTail _ _ (Value.ref _) (Value.int 2 _)) _ _ _); k_dflt (refine' item_three2 (by k_asm) (by k_mem) ?_)))
  k_with "!subscriptTail" => (((with_reducible rename Second => sec9); k_here; (with_reducible show wpAny _ _ (subscriptTail _ _ (Value.ref _) (Value.int 1 _)) _ _ _); k_dflt (refine' item_pair1 (by k_asm) (by k_mem) ?_)))
  k_with "m sub2" => ((intro _ hq9; exact List.mem_cons_of_mem _ (List.mem_cons_of_mem _ (fd_rest hq9))))
  k_with "!call ref" => (((with_reducible rename ApartL _ _ _ => apx9); k_here; (with_reducible show wpAny _ _ (PySem.call (Value.ref 220) _) _ _ _); k_dflt (refine' Does.use (by k_asm) (does_side _ (by with_reducible assumption) (by with_reducible assumption) (by with_reducible assumption) (by with_reducible assumption) (by assumption) (by omega) (by omega) (by assumption) (by assumption) (by assumption) (by k_extra "m sub2")) (by k_extra "m k1") (by k_extra "m k2") (by k_extra "m k3") (by k_extra "m k5") (by k_extra "m k6") (by k_extra "m k7") (by k_extra "m k8") ?_; intro r9 tl9 h9 tk9 F9 N9 l9 o9; replace N9 := fd_move N9; have A9 := fd_apart (by with_reducible assumption) l9; (try dsimp only))))
  k_with "!setItem ref int" => (((with_reducible rename ApartL _ _ _ => apx9); k_here; k_dflt (refine' store_side (by k_asm) (by k_asm) (by assumption) (by with_reducible assumption) (by exact fd_neI (by with_reducible assumption) (by assumption)) (by exact fd_neI (by with_reducible assumption) (by assumption)) (by with_reducible assumption) (by with_reducible assumption) (by with_reducible assumption) ?_; intro h9 F9 N9; (try dsimp only))))
  k_with "!exec If" => (((fail_if_success (with_reducible rename JoinMark _ => jm9)); (with_reducible rename CellOk _ _ _ _ => o9); k_here; k_dflt (refine' join_next (by k_asm) (by k_asm) ?_ (by (intro Q9 j9 k9; cases o9; all_goals (k_steps; (all_goals first | exact k9 _ _ (by k_asm) (by assumption) | (exfalso; exact no_fit (by with_reducible assumption) (by with_reducible assumption)))))); intro h9 tk9 F9 N9; (try dsimp only))))
  k_with "!call ref" => (((with_reducible rename Second => sec9); k_here; (with_reducible show wpAny _ _ (PySem.call (Value.ref 227) _) _ _ _); k_dflt (refine' Does.use (by k_asm) (does_order _ _ _ _ _ _ (CellsAt.rep' (by with_reducible assumption) (by with_reducible assumption)) (CellsAt.rep' (by with_reducible assumption) (by with_reducible assumption)) (by k_extra "m sub2") (by exact NumOk.good (by with_reducible assumption) _ (by omega)) (by exact num32 (by with_reducible assumption) (by assumption) (by omega))) (by k_extra "m k1") (by k_extra "m k2") (by k_extra "m k3") (by k_extra "m k5") (by k_extra "m k6") (by k_extra "m k7") (by k_extra "m k8") ?_; k_extra "m back")))
  k_with "!TurnJ" => ((k_dflt (first | (refine' side1_end (by k_asm) (by k_asm) (by with_reducible assumption) (by with_reducible assumption) (by assumption) (by with_reducible assumption) (by with_reducible assumption) (by with_reducible assumption) (by with_reducible assumption) rfl (by with_reducible assumption) (by with_reducible assumption) (by with_reducible assumption) (by assumption) (by k_extra "m look") (by k_extra "m look") (by k_extra "m look") (by k_extra "m look")) | (refine' side2_end (by k_asm) (by k_asm) (by with_reducible assumption) (by k_extra "m look") (by k_extra "m look")) | (refine' outer_end (by k_asm) (by k_asm) (by with_reducible assumption) (by with_reducible assumption) (by with_reducible assumption) (by with_reducible assumption) (by with_reducible assumption) (by omega) (by omega) (by k_extra "m look")))))
  k_with "!call ref" => (((with_reducible rename ApartL _ _ _ => apx9); k_here; (with_reducible show wpAny _ _ (PySem.call (Value.ref 72) _) _ _ _); k_dflt (refine' Does.use (by k_asm) (does_fits _ _ _ _ _ _ (bits64 (by assumption))) (by k_extra "m k1") (by k_extra "m k2") (by k_extra "m k3") (by k_extra "m k5") (by k_extra "m k6") (by k_extra "m k7") (by k_extra "m k8") ?_; k_extra "m back")))
  trivial
inductive OkBagE (bag l : Addr) (hi : Int) (n n' : Nat) (vs : List Value) : Value → Led → Prop
  | mk (sp : Int) (t : Tok) (h0 : 0 ≤ sp) (h1 : sp ≤ hi) : OkBagE bag l hi n n' vs (.bool true) [(bag, lst2 l sp t n), (l, W.listOf vs.toArray n')]
set_option maxRecDepth 100000 in
set_option maxHeartbeats 1500000 in
theorem does_cells (w : World) (ns : List Int) (vs : List Value) (bag l : Addr) (spot : Int) (ts : Tok) (n n' : Nat) (hlb : l ≠ bag) (hi : IntsAre vs ns) (hlen : ns.length ≤ 63) (h0 : 0 ≤ spot) (h2 : spot ≤ 100) :
   DoesToK w 30 239 [.ref bag] [(bag, lst2 l spot ts n), (l, W.listOf vs.toArray n')] (OkBagE bag l (spot + 15) n n' vs) := by
  unfold DoesToK
  intro mean mg mb dp un gd cn cs a ccd cl outer A₀ base h₀ L m s Q E B F X N T XB TB D hk hd hu ret
  k_extra "m enterSC"
  k_steps
  all_goals try exact ret _ _ _ _ _ (by with_reducible assumption) (by with_reducible assumption) (by with_reducible assumption) (by with_reducible assumption) (by with_reducible assumption) (by with_reducible assumption) (by with_reducible assumption) (OkBagE.mk _ _ (by omega) (by omega))
  all_goals first | (with_reducible walk_at "pyIter ref") | skip
  all_goals k_steps
  all_goals first | (with_reducible walk_at "pyIter ref") | skip
  all_goals k_steps
end
section
theorem words99 : True := by
  k_with_none
  k_with "m k1" => (first | k_asm | ktn_no "m use: Below")
  k_with "m k2" => (first | k_asm | ktn_no "m use: Fr")
  k_with "m k3" => (first | k_asm | ktn_no "m use: In")
  k_with "m k5" => (first | k_asm | ktn_no "m use: Top")
  k_with "m k6" => (first | assumption | exact rfl | ktn_no "m use: kind")
  k_with "m k7" => (first | exact room1 (by with_reducible assumption) (by decide) | exact room2 (by with_reducible assumption) (by decide) | ktr_room | ktn_no "m use: room")
  k_with "m k8" => (first | exact units1 (by with_reducible assumption) (by decide) | exact units2 (by with_reducible assumption) (by decide) | ktr_units | ktn_no "m use: units")
  k_with "m enter" => ((refine wpAny_call ?_; k_dflt cell_enter))
  k_with "m sub" => (first | with_reducible exact fun _ h => h | with_reducible exact fun _ h => List.mem_cons_of_mem _ h | with_reducible exact fun _ h => List.mem_cons_of_mem _ (List.mem_cons_of_mem _ h) | with_reducible exact fun _ h => List.mem_cons_of_mem _ (List.mem_cons_of_mem _ (List.mem_cons_of_mem _ h)) | kcj_all)
  k_with "m drop" => (first | with_reducible assumption | exact cb_drop (by with_reducible assumption) (by k_extra "m sub") | k_asm | (refine' cb_drop (by assumption) (by kcj_all)) | ktn_no "m drop: the ledger")
  k_with "m fact" => (first | assumption | (constructor <;> assumption) | omega | (simp only [decide_eq_true_eq, decide_eq_false_iff_not, Int.not_lt, Int.not_le, gt_iff_lt, ge_iff_le] at *; omega) | ktn_no "m fact")
  k_with "!call ref" => ((k_here; (with_reducible show wpAny _ _ (PySem.call (Value.ref 44) _) _ _ _); k_dflt (refine' Does.use (by k_asm) (does_figs _ _ _ _ (by k_extra "m fact")) (by k_extra "m k1") (by k_extra "m k2") (by k_extra "m k3") (by k_extra "m k5") (by k_extra "m k6") (by k_extra "m k7") (by k_extra "m k8") ?_; intro r9 tl9 h9 tk9 F9 N9 l9 o9; cases o9; (try simp only [List.nil_append] at N9); clear l9; (try dsimp only); (try k_fold))))
  k_with "!call ref" => ((k_here; (with_reducible show wpAny _ _ (PySem.call (Value.ref 51) _) _ _ _); k_dflt (refine' Does.use (by k_asm) (does_rnd _ _ _ _ _ _ (by k_extra "m fact") (by k_extra "m fact") (by k_extra "m fact") (by k_extra "m fact")) (by k_extra "m k1") (by k_extra "m k2") (by k_extra "m k3") (by k_extra "m k5") (by k_extra "m k6") (by k_extra "m k7") (by k_extra "m k8") ?_; intro r9 tl9 h9 tk9 F9 N9 l9 o9; cases o9; (try simp only [List.nil_append] at N9); clear l9; (try dsimp only); (try k_fold))))
  k_with "m lt" => (first | assumption | exact ktn_ltOf (by assumption) | ((with_reducible rename _ ∧ AllLt _ _ => hlt); exact ktn_ltOf hlt.2) | exact ktn_ltOf (And.right (by assumption)) | exact ktn_ltOf (And.right (And.right (by assumption))) | exact ktn_ltOf (And.right (And.right (And.right (by assumption)))) | exact ktn_ltOf (And.right (And.right (And.right (And.right (by assumption))))) | exact ktn_ltOf (And.right (And.right (And.right (And.right (And.right (by assumption)))))) | exact ktn_ltOf (And.right (And.right (And.right (And.right (And.right (And.right (by assumption))))))) | ktn_no "m lt")
  k_with "m back" => ((intro r9 tl9 h9 tk9 F9 N9 l9 o9; cases o9; all_goals ((try simp only [List.nil_append, List.cons_append] at N9); (first | (replace l9 := newLt l9; (try k_lt l9)) | clear l9); (try dsimp only); (try k_fold))))
  k_with "!call ref" => ((k_here; (with_reducible show wpAny _ _ (PySem.call (Value.ref 58) _) _ _ _); k_dflt (refine' Does.use (by k_asm) (does_made _ _ _ _ _ _ _ _ (by k_extra "m fact") (by k_extra "m fact") (by k_extra "m fact")) (by k_extra "m k1") (by k_extra "m k2") (by k_extra "m k3") (by k_extra "m k5") (by k_extra "m k6") (by k_extra "m k7") (by k_extra "m k8") ?_; k_extra "m back")))
  k_with "m sm" => (first | assumption | exact Sm.of45 (by assumption) | exact Sm.p10 (by k_extra "m fact") | exact Sm.lit (by omega) | ktn_no "m sm")
  k_with "!binaryOp Mult int int" => ((k_here; (with_reducible refine PyProof.Rows.mul_int ?_ (IntMulOk.of_bits (Sm.bits (by k_extra "m sm")) (Sm.bits (by k_extra "m sm"))))))
  k_with "!call ref" => ((k_here; (with_reducible show wpAny _ _ (PySem.call (Value.ref 72) _) _ _ _); k_dflt (refine' Does.use (by k_asm) (does_fits _ _ _ _ _ _ (by k_extra "m fact")) (by k_extra "m k1") (by k_extra "m k2") (by k_extra "m k3") (by k_extra "m k5") (by k_extra "m k6") (by k_extra "m k7") (by k_extra "m k8") ?_; k_extra "m back")))
  k_with "!call ref" => ((k_here; (with_reducible show wpAny _ _ (PySem.call (Value.ref 86) _) _ _ _); k_dflt (refine' Does.use (by k_asm) (does_decimal_int _ _ _ _ _ _ (by k_extra "m fact") (by k_extra "m fact")) (by k_extra "m k1") (by k_extra "m k2") (by k_extra "m k3") (by k_extra "m k5") (by k_extra "m k6") (by k_extra "m k7") (by k_extra "m k8") ?_; k_extra "m back")))
  k_with "!call ref" => ((k_here; (with_reducible show wpAny _ _ (PySem.call (Value.ref 86) _) _ _ _); k_dflt (refine' Does.use (by k_asm) (does_decimal_tup _ _ _ _ _ _ _ _ _ (by k_mem) (by k_extra "m fact") (by k_extra "m fact") (by k_extra "m fact")) (by k_extra "m k1") (by k_extra "m k2") (by k_extra "m k3") (by k_extra "m k5") (by k_extra "m k6") (by k_extra "m k7") (by k_extra "m k8") ?_; k_extra "m back")))
  k_with "!call ref" => ((k_here; (with_reducible show wpAny _ _ (PySem.call (Value.ref 94) _) _ _ _); k_dflt (refine' Does.use (by k_asm) (does_negated _ _ _ _ _ _ _ (by k_mem)) (by k_extra "m k1") (by k_extra "m k2") (by k_extra "m k3") (by k_extra "m k5") (by k_extra "m k6") (by k_extra "m k7") (by k_extra "m k8") ?_; k_extra "m back")))
  k_with "!call ref" => ((k_here; (with_reducible show wpAny _ _ (PySem.call (Value.ref 101) _) _ _ _); k_dflt (refine' Does.use (by k_asm) (does_alike _ _ _ _ _ _ _ _ _ _ _ _ (by k_mem) (by k_mem) (by k_extra "m fact") (by k_extra "m fact") (by k_extra "m fact") (by k_extra "m fact")) (by k_extra "m k1") (by k_extra "m k2") (by k_extra "m k3") (by k_extra "m k5") (by k_extra "m k6") (by k_extra "m k7") (by k_extra "m k8") ?_; k_extra "m back")))
  k_with "!call ref" => ((k_here; (with_reducible show wpAny _ _ (PySem.call (Value.ref 108) _) _ _ _); k_dflt (refine' Does.use (by k_asm) (does_add _ _ _ _ _ _ _ _ _ _ _ _ _ _ (by k_mem) (by k_mem) (by k_extra "m fact") (by k_extra "m fact") (by k_extra "m fact") (by k_extra "m fact") (by k_extra "m fact") (by k_extra "m fact")) (by k_extra "m k1") (by k_extra "m k2") (by k_extra "m k3") (by k_extra "m k5") (by k_extra "m k6") (by k_extra "m k7") (by k_extra "m k8") ?_; k_extra "m back")))
  k_with "!call ref" => ((k_here; (with_reducible show wpAny _ _ (PySem.call (Value.ref 122) _) _ _ _); k_dflt (refine' Does.use (by k_asm) (does_mul _ _ _ _ _ _ _ _ _ _ _ _ _ _ (by k_mem) (by k_mem) (by k_extra "m fact") (by k_extra "m fact") (by k_extra "m fact") (by k_extra "m fact") (by k_extra "m fact")) (by k_extra "m k1") (by k_extra "m k2") (by k_extra "m k3") (by k_extra "m k5") (by k_extra "m k6") (by k_extra "m k7") (by k_extra "m k8") ?_; k_extra "m back")))
  k_with "!call ref" => ((k_here; (with_reducible show wpAny _ _ (PySem.call (Value.ref 129) _) _ _ _); k_dflt (refine' Does.use (by k_asm) (does_rest _ _ _ _ _ _ _ _) (by k_extra "m k1") (by k_extra "m k2") (by k_extra "m k3") (by k_extra "m k5") (by k_extra "m k6") (by k_extra "m k7") (by k_extra "m k8") ?_; k_extra "m back")))
  k_with "!call ref" => ((k_here; (with_reducible show wpAny _ _ (PySem.call (Value.ref 164) _) _ _ _); k_dflt (refine' Does.use (by k_asm) (does_is_whole _ _ _ _) (by k_extra "m k1") (by k_extra "m k2") (by k_extra "m k3") (by k_extra "m k5") (by k_extra "m k6") (by k_extra "m k7") (by k_extra "m k8") ?_; k_extra "m back")))
  k_with "!call ref" => ((k_here; (with_reducible show wpAny _ _ (PySem.call (Value.ref 164) _) _ _ _); k_dflt (refine' Does.use (by k_asm) (does_is_dec _ _ _ _ _ _ _ (by k_mem)) (by k_extra "m k1") (by k_extra "m k2") (by k_extra "m k3") (by k_extra "m k5") (by k_extra "m k6") (by k_extra "m k7") (by k_extra "m k8") ?_; k_extra "m back")))
  k_with "!call ref" => ((k_here; (with_reducible show wpAny _ _ (PySem.call (Value.ref 171) _) _ _ _); k_dflt (refine' Does.use (by k_asm) (does_settled _ _ _ _ _ _ _ _ (by k_extra "m fact") (by k_extra "m fact") (by k_extra "m fact")) (by k_extra "m k1") (by k_extra "m k2") (by k_extra "m k3") (by k_extra "m k5") (by k_extra "m k6") (by k_extra "m k7") (by k_extra "m k8") ?_; k_extra "m back")))
  k_with "!call ref" => ((k_here; (with_reducible show wpAny _ _ (PySem.call (Value.ref 115) _) _ _ _); k_dflt (refine' Does.use (by k_asm) (does_sub _ _ _ _ _ _ _ _ _ _ _ _ _ _ (by k_mem) (by k_mem) (by k_extra "m fact") (by k_extra "m fact") (by k_extra "m fact") (by k_extra "m fact") (by k_extra "m fact") (by k_extra "m fact")) (by k_extra "m k1") (by k_extra "m k2") (by k_extra "m k3") (by k_extra "m k5") (by k_extra "m k6") (by k_extra "m k7") (by k_extra "m k8") ?_; k_extra "m back")))
  k_with "!call ref" => ((k_here; (with_reducible show wpAny _ _ (PySem.call (Value.ref 143) _) _ _ _); k_dflt (refine' Does.use (by k_asm) (does_compare _ _ _ _ _ _ _ _ _ _ _ _ (by k_mem) (by k_mem) (by k_extra "m fact") (by k_extra "m fact") (by k_extra "m fact") (by k_extra "m fact")) (by k_extra "m k1") (by k_extra "m k2") (by k_extra "m k3") (by k_extra "m k5") (by k_extra "m k6") (by k_extra "m k7") (by k_extra "m k8") ?_; k_extra "m back")))
  k_with "!call ref" => ((k_here; (with_reducible show wpAny _ _ (PySem.call (Value.ref 136) _) _ _ _); k_dflt (refine' Does.use (by k_asm) (does_div _ _ _ _ _ _ _ _ _ _ _ _ _ _ (by k_mem) (by k_mem) (by k_extra "m fact") (by k_extra "m fact") (by k_extra "m fact") (by k_extra "m fact") (by k_extra "m fact")) (by k_extra "m k1") (by k_extra "m k2") (by k_extra "m k3") (by k_extra "m k5") (by k_extra "m k6") (by k_extra "m k7") (by k_extra "m k8") ?_; k_extra "m back")))
  k_with "!call ref" => ((k_here; (with_reducible show wpAny _ _ (PySem.call (Value.ref 178) _) _ _ _); k_dflt (refine' Does.use (by k_asm) (does_whole _ _ _ _ _ _ _ _ _ _ _ _ _ (by assumption) (by k_extra "m fact") (by k_extra "m fact") (by k_extra "m fact") (by k_extra "m fact") (by k_extra "m fact")) (by k_extra "m k1") (by k_extra "m k2") (by k_extra "m k3") (by k_extra "m k5") (by k_extra "m k6") (by k_extra "m k7") (by k_extra "m k8") ?_; k_extra "m back")))
  k_with "!call ref" => ((k_here; (with_reducible show wpAny _ _ (PySem.call (Value.ref 220) _) _ _ _); k_dflt (refine' Does.use (by k_asm) (does_rk_int _ _ _ _ _ _ _ _ _ _ _ _ _ (by assumption) (by k_extra "m fact") (by k_extra "m fact") (by k_extra "m fact") (by k_extra "m fact") (by k_extra "m fact")) (by k_extra "m k1") (by k_extra "m k2") (by k_extra "m k3") (by k_extra "m k5") (by k_extra "m k6") (by k_extra "m k7") (by k_extra "m k8") ?_; k_extra "m back")))
  k_with "!call ref" => ((k_here; (with_reducible show wpAny _ _ (PySem.call (Value.ref 234) _) _ _ _); k_dflt (refine' draw_use (by k_asm) (by k_updF) (by k_mem) (by assumption) (by assumption) (by assumption) (by k_extra "m fact") (by k_extra "m fact") (by k_extra "m fact") (by k_extra "m k1") (by k_extra "m k2") (by k_extra "m k3") (by k_extra "m k5") (by k_extra "m k6") (by k_extra "m k7") (by k_extra "m k8") ?_; intro x9 t9 u9 h9 tk9 g0 g1 F9 N9; (try dsimp only at N9 ⊢))))
  k_with "!exec Raise some none" => (refine Raise_exc rfl ?_)
  k_with "!leaving ref" => ((first | (refine' leave_excE (by assumption) (by assumption) (by assumption) (by assumption) (by assumption) (by assumption) ?_; intro h' R' U'; (try dsimp only at R' U' ⊢)) | ((rename RaisedE _ _ _ _ _ _ _ _ => rkX); refine' leave_onE (by assumption) (by assumption) rkX (by assumption) ?_; intro h' R' U'; (try dsimp only at R' U' ⊢))))
  k_with "!call ref" => (((with_reducible show wpAny _ _ (PySem.call (Value.ref 34) _) _ _ _); refine' exc_use (by k_asm) (by k_extra "m k1") (by k_extra "m k2") (by k_extra "m k3") (by k_extra "m k5") (by k_extra "m k6") (by k_extra "m k7") (by k_extra "m k8") ?_; intro e t dx od h' tk' F' N' C' n1 n2 n3; (try dsimp only)))
  k_with "m esc" => ((intro e dx tc g h' tk' F' U' R'; (try dsimp only)))
  k_with "!call ref" => ((k_here; (with_reducible show wpAny _ _ (PySem.call (Value.ref 79) _) _ _ _); k_dflt (refine' DoesR.use (by k_asm) (raises_whole_of _ _ _ _ _ _ (by assumption) (by k_extra "m fact")) (by k_extra "m k1") (by k_extra "m k2") (by k_extra "m k3") (by k_extra "m k5") (by k_extra "m k6") (by k_extra "m k7") (by k_extra "m k8") ?_; k_extra "m esc")))
  k_with "!call ref" => ((k_here; (with_reducible show wpAny _ _ (PySem.call (Value.ref 79) _) _ _ _); k_dflt (refine' Does.use (by k_asm) (does_whole_of _ _ _ _ _ _ (by assumption) (by k_extra "m fact")) (by k_extra "m k1") (by k_extra "m k2") (by k_extra "m k3") (by k_extra "m k5") (by k_extra "m k6") (by k_extra "m k7") (by k_extra "m k8") ?_; k_extra "m back")))
  k_with "!call ref" => ((k_here; (with_reducible show wpAny _ _ (PySem.call (Value.ref 185) _) _ _ _); k_dflt (refine' DoesR.use (by k_asm) (raises_cut_quotient _ _ _ _ _ _ (by assumption)) (by k_extra "m k1") (by k_extra "m k2") (by k_extra "m k3") (by k_extra "m k5") (by k_extra "m k6") (by k_extra "m k7") (by k_extra "m k8") ?_; k_extra "m esc")))
  k_with "!call ref" => ((k_here; (with_reducible show wpAny _ _ (PySem.call (Value.ref 185) _) _ _ _); k_dflt (refine' Does.use (by k_asm) (does_cut_quotient _ _ _ _ _ _ (by assumption) (by k_extra "m fact") (by k_extra "m fact")) (by k_extra "m k1") (by k_extra "m k2") (by k_extra "m k3") (by k_extra "m k5") (by k_extra "m k6") (by k_extra "m k7") (by k_extra "m k8") ?_; k_extra "m back")))
  k_with "!getAttr ref" => ((refine' x_get (by k_asm) (by k_asm) (by k_asm) ?_ ?_ (by assumption) (by assumption) (by assumption) ?_; k_mem; k_mem))
  k_with "!noteFrame ref" => (((rename RaisedE _ _ _ _ _ _ _ _ => rkX); refine' caught_E rkX (by assumption) (by assumption) (by assumption) (by assumption) (by assumption) (by assumption) (by first | assumption | exact KtsTurn.refl) (by k_is) ?_; intro h' g' oe od tk T' F' N' c1 c2 c3 K' X' P' D'))
  k_with "m enterS" => ((refine wpAny_call ?_; k_dflt (refine' enterS (g₀ := _) (by k_asm) (by k_asm) (by k_asm) (by k_asm) (by k_asm) (by assumption) (by assumption) (by assumption) KtsTurn.refl (by exact rfl) (by exact rfl) (by assumption) (by k_is) (by k_is) (by k_extra "m k7") (by exact BindsTo.of_eq rfl) (by exact locs rfl) ?_ (by exact rfl) (by exact rfl) (by exact rfl) (by decide); intro g' L' h' FG' F' N' B' X' T' D' l1; (try dsimp only); (try k_lift B'); (try k_fold))))
  k_with "!call ref" => ((k_here; (with_reducible show wpAny _ _ (PySem.call (Value.ref 192) _) _ _ _); k_dflt (refine' DoesR.use (by k_asm) (raises_cut_rest _ _ _ _ _ _ (by assumption)) (by k_extra "m k1") (by k_extra "m k2") (by k_extra "m k3") (by k_extra "m k5") (by k_extra "m k6") (by k_extra "m k7") (by k_extra "m k8") ?_; k_extra "m esc")))
  k_with "!call ref" => ((k_here; (with_reducible show wpAny _ _ (PySem.call (Value.ref 192) _) _ _ _); k_dflt (refine' Does.use (by k_asm) (does_cut_rest _ _ _ _ _ _ (by assumption) (by k_extra "m fact") (by k_extra "m fact")) (by k_extra "m k1") (by k_extra "m k2") (by k_extra "m k3") (by k_extra "m k5") (by k_extra "m k6") (by k_extra "m k7") (by k_extra "m k8") ?_; k_extra "m back")))
  k_with "m ne" => (with_reducible first | assumption | exact Ne.symm (by assumption) | exact Nat.ne_of_lt (by assumption) | exact Nat.ne_of_gt (by assumption) | exact (And.left (by assumption)) | exact Ne.symm (And.left (by assumption)) | exact Nat.ne_of_lt (And.left (by assumption)) | exact Nat.ne_of_gt (And.left (by assumption)) | exact (And.left (And.right (by assumption))) | exact Ne.symm (And.left (And.right (by assumption))) | exact Nat.ne_of_lt (And.left (And.right (by assumption))) | exact Nat.ne_of_gt (And.left (And.right (by assumption))) | exact (And.right (by assumption)) | exact Ne.symm (And.right (by assumption)) | exact Nat.ne_of_lt (And.right (by assumption)) | exact Nat.ne_of_gt (And.right (by assumption)) | exact (And.left (And.right (And.right (by assumption)))) | exact Ne.symm (And.left (And.right (And.right (by assumption)))) | exact Nat.ne_of_lt (And.left (And.right (And.right (by assumption)))) | exact Nat.ne_of_gt (And.left (And.right (And.right (by assumption)))) | exact (And.right (And.right (by assumption))) | exact Ne.symm (And.right (And.right (by assumption))) | exact Nat.ne_of_lt (And.right (And.right (by assumption))) | exact Nat.ne_of_gt (And.right (And.right (by assumption))) | exact (And.left (And.right (And.right (And.right (by assumption))))) | exact Ne.symm (And.left (And.right (And.right (And.right (by assumption))))) | exact Nat.ne_of_lt (And.left (And.right (And.right (And.right (by assumption))))) | exact Nat.ne_of_gt (And.left (And.right (And.right (And.right (by assumption))))) | exact (And.right (And.right (And.right (by assumption)))) | exact Ne.symm (And.right (And.right (And.right (by assumption)))) | exact Nat.ne_of_lt (And.right (And.right (And.right (by assumption)))) | exact Nat.ne_of_gt (And.right (And.right (And.right (by assumption)))) | exact (And.left (And.right (And.right (And.right (And.right (by assumption)))))) | exact Ne.symm (And.left (And.right (And.right (And.right (And.right (by assumption)))))) | exact Nat.ne_of_lt (And.left (And.right (And.right (And.right (And.right (by assumption)))))) | exact Nat.ne_of_gt (And.left (And.right (And.right (And.right (And.right (by assumption)))))) | exact (And.right (And.right (And.right (And.right (by assumption))))) | exact Ne.symm (And.right (And.right (And.right (And.right (by assumption))))) | exact Nat.ne_of_lt (And.right (And.right (And.right (And.right (by assumption))))) | exact Nat.ne_of_gt (And.right (And.right (And.right (And.right (by assumption))))) | exact (And.left (And.right (And.right (And.right (And.right (And.right (by assumption))))))) | exact Ne.symm (And.left (And.right (And.right (And.right (And.right (And.right (by assumption))))))) | exact Nat.ne_of_lt (And.left (And.right (And.right (And.right (And.right (And.right (by assumption))))))) | exact Nat.ne_of_gt (And.left (And.right (And.right (And.right (And.right (And.right (by assumption))))))) | exact (And.right (And.right (And.right (And.right (And.right (by assumption)))))) | exact Ne.symm (And.right (And.right (And.right (And.right (And.right (by assumption)))))) | exact Nat.ne_of_lt (And.right (And.right (And.right (And.right (And.right (by assumption)))))) | exact Nat.ne_of_gt (And.right (And.right (And.right (And.right (And.right (by assumption)))))) | exact (And.left (And.right (And.right (And.right (And.right (And.right (And.right (by assumption)))))))) | exact Ne.symm (And.left (And.right (And.right (And.right (And.right (And.right (And.right (by assumption)))))))) | exact Nat.ne_of_lt (And.left (And.right (And.right (And.right (And.right (And.right (And.right (by assumption)))))))) | exact Nat.ne_of_gt (And.left (And.right (And.right (And.right (And.right (And.right (And.right (by assumption)))))))) | exact (And.right (And.right (And.right (And.right (And.right (And.right (by assumption))))))) | exact Ne.symm (And.right (And.right (And.right (And.right (And.right (And.right (by assumption))))))) | exact Nat.ne_of_lt (And.right (And.right (And.right (And.right (And.right (And.right (by assumption))))))) | exact Nat.ne_of_gt (And.right (And.right (And.right (And.right (And.right (And.right (by assumption))))))) | exact (And.left (And.right (And.right (And.right (And.right (And.right (And.right (And.right (by assumption))))))))) | exact Ne.symm (And.left (And.right (And.right (And.right (And.right (And.right (And.right (And.right (by assumption))))))))) | exact Nat.ne_of_lt (And.left (And.right (And.right (And.right (And.right (And.right (And.right (And.right (by assumption))))))))) | exact Nat.ne_of_gt (And.left (And.right (And.right (And.right (And.right (And.right (And.right (And.right (by assumption))))))))) | exact (And.right (And.right (And.right (And.right (And.right (And.right (And.right (by assumption)))))))) | exact Ne.symm (And.right (And.right (And.right (And.right (And.right (And.right (And.right (by assumption)))))))) | exact Nat.ne_of_lt (And.right (And.right (And.right (And.right (And.right (And.right (And.right (by assumption)))))))) | exact Nat.ne_of_gt (And.right (And.right (And.right (And.right (And.right (And.right (And.right (by assumption)))))))) | exact (And.left (And.right (And.right (And.right (And.right (And.right (And.right (And.right (And.right (by assumption)))))))))) | exact Ne.symm (And.left (And.right (And.right (And.right (And.right (And.right (And.right (And.right (And.right (by assumption)))))))))) | exact Nat.ne_of_lt (And.left (And.right (And.right (And.right (And.right (And.right (And.right (And.right (And.right (by assumption)))))))))) | exact Nat.ne_of_gt (And.left (And.right (And.right (And.right (And.right (And.right (And.right (And.right (And.right (by assumption)))))))))) | exact (And.right (And.right (And.right (And.right (And.right (And.right (And.right (And.right (by assumption))))))))) | exact Ne.symm (And.right (And.right (And.right (And.right (And.right (And.right (And.right (And.right (by assumption))))))))) | exact Nat.ne_of_lt (And.right (And.right (And.right (And.right (And.right (And.right (And.right (And.right (by assumption))))))))) | exact Nat.ne_of_gt (And.right (And.right (And.right (And.right (And.right (And.right (And.right (And.right (by assumption))))))))) | exact (And.left (And.right (And.right (And.right (And.right (And.right (And.right (And.right (And.right (And.right (by assumption))))))))))) | exact Ne.symm (And.left (And.right (And.right (And.right (And.right (And.right (And.right (And.right (And.right (And.right (by assumption))))))))))) | exact Nat.ne_of_lt (And.left (And.right (And.right (And.right (And.right (And.right (And.right (And.right (And.right (And.right (by assumption))))))))))) | exact Nat.ne_of_gt (And.left (And.right (And.right (And.right (And.right (And.right (And.right (And.right (And.right (And.right (by assumption))))))))))) | exact (And.right (And.right (And.right (And.right (And.right (And.right (And.right (And.right (And.right (by assumption)))))))))) | exact Ne.symm (And.right (And.right (And.right (And.right (And.right (And.right (And.right (And.right (And.right (by assumption)))))))))) | exact Nat.ne_of_lt (And.right (And.right (And.right (And.right (And.right (And.right (And.right (And.right (And.right (by assumption)))))))))) | exact Nat.ne_of_gt (And.right (And.right (And.right (And.right (And.right (And.right (And.right (And.right (And.right (by assumption)))))))))) | exact (And.left (And.right (And.right (And.right (And.right (And.right (And.right (And.right (And.right (And.right (And.right (by assumption)))))))))))) | exact Ne.symm (And.left (And.right (And.right (And.right (And.right (And.right (And.right (And.right (And.right (And.right (And.right (by assumption)))))))))))) | exact Nat.ne_of_lt (And.left (And.right (And.right (And.right (And.right (And.right (And.right (And.right (And.right (And.right (And.right (by assumption)))))))))))) | exact Nat.ne_of_gt (And.left (And.right (And.right (And.right (And.right (And.right (And.right (And.right (And.right (And.right (And.right (by assumption)))))))))))) | exact (And.right (And.right (And.right (And.right (And.right (And.right (And.right (And.right (And.right (And.right (by assumption))))))))))) | exact Ne.symm (And.right (And.right (And.right (And.right (And.right (And.right (And.right (And.right (And.right (And.right (by assumption))))))))))) | exact Nat.ne_of_lt (And.right (And.right (And.right (And.right (And.right (And.right (And.right (And.right (And.right (And.right (by assumption))))))))))) | exact Nat.ne_of_gt (And.right (And.right (And.right (And.right (And.right (And.right (And.right (And.right (And.right (And.right (by assumption))))))))))) | exact (And.left (And.right (And.right (And.right (And.right (And.right (And.right (And.right (And.right (And.right (And.right (And.right (by assumption))))))))))))) | exact Ne.symm (And.left (And.right (And.right (And.right (And.right (And.right (And.right (And.right (And.right (And.right (And.right (And.right (by assumption))))))))))))) | exact Nat.ne_of_lt (And.left (And.right (And.right (And.right (And.right (And.right (And.right (And.right (And.right (And.right (And.right (And.right (by assumption))))))))))))) | exact Nat.ne_of_gt (And.left (And.right (And.right (And.right (And.right (And.right (And.right (And.right (And.right (And.right (And.right (And.right (by assumption))))))))))))) | exact (And.right (And.right (And.right (And.right (And.right (And.right (And.right (And.right (And.right (And.right (And.right (by assumption)))))))))))) | exact Ne.symm (And.right (And.right (And.right (And.right (And.right (And.right (And.right (And.right (And.right (And.right (And.right (by assumption)))))))))))) | exact Nat.ne_of_lt (And.right (And.right (And.right (And.right (And.right (And.right (And.right (And.right (And.right (And.right (And.right (by assumption)))))))))))) | exact Nat.ne_of_gt (And.right (And.right (And.right (And.right (And.right (And.right (And.right (And.right (And.right (And.right (And.right (by assumption)))))))))))) | exact (And.left (And.right (And.right (And.right (And.right (And.right (And.right (And.right (And.right (And.right (And.right (And.right (And.right (by assumption)))))))))))))) | exact Ne.symm (And.left (And.right (And.right (And.right (And.right (And.right (And.right (And.right (And.right (And.right (And.right (And.right (And.right (by assumption)))))))))))))) | exact Nat.ne_of_lt (And.left (And.right (And.right (And.right (And.right (And.right (And.right (And.right (And.right (And.right (And.right (And.right (And.right (by assumption)))))))))))))) | exact Nat.ne_of_gt (And.left (And.right (And.right (And.right (And.right (And.right (And.right (And.right (And.right (And.right (And.right (And.right (And.right (by assumption)))))))))))))) | exact (And.right (And.right (And.right (And.right (And.right (And.right (And.right (And.right (And.right (And.right (And.right (And.right (by assumption))))))))))))) | exact Ne.symm (And.right (And.right (And.right (And.right (And.right (And.right (And.right (And.right (And.right (And.right (And.right (And.right (by assumption))))))))))))) | exact Nat.ne_of_lt (And.right (And.right (And.right (And.right (And.right (And.right (And.right (And.right (And.right (And.right (And.right (And.right (by assumption))))))))))))) | exact Nat.ne_of_gt (And.right (And.right (And.right (And.right (And.right (And.right (And.right (And.right (And.right (And.right (And.right (And.right (by assumption))))))))))))) | k_extra "m nest")
  k_with "m nest" => (with_reducible first | exact (And.left (And.left (by assumption))) | exact Ne.symm (And.left (And.left (by assumption))) | exact (And.left (And.right (And.left (by assumption)))) | exact Ne.symm (And.left (And.right (And.left (by assumption)))) | exact (And.right (And.right (And.left (by assumption)))) | exact Ne.symm (And.right (And.right (And.left (by assumption)))) | exact (And.left (And.left (And.right (by assumption)))) | exact Ne.symm (And.left (And.left (And.right (by assumption)))) | exact (And.left (And.right (And.left (And.right (by assumption))))) | exact Ne.symm (And.left (And.right (And.left (And.right (by assumption))))) | exact (And.right (And.right (And.left (And.right (by assumption))))) | exact Ne.symm (And.right (And.right (And.left (And.right (by assumption))))) | exact (And.left (And.left (And.right (And.right (by assumption))))) | exact Ne.symm (And.left (And.left (And.right (And.right (by assumption))))) | exact (And.left (And.right (And.left (And.right (And.right (by assumption)))))) | exact Ne.symm (And.left (And.right (And.left (And.right (And.right (by assumption)))))) | exact (And.right (And.right (And.left (And.right (And.right (by assumption)))))) | exact Ne.symm (And.right (And.right (And.left (And.right (And.right (by assumption)))))) | exact (And.left (And.left (And.right (And.right (And.right (by assumption)))))) | exact Ne.symm (And.left (And.left (And.right (And.right (And.right (by assumption)))))) | exact (And.left (And.right (And.left (And.right (And.right (And.right (by assumption))))))) | exact Ne.symm (And.left (And.right (And.left (And.right (And.right (And.right (by assumption))))))) | exact (And.right (And.right (And.left (And.right (And.right (And.right (by assumption))))))) | exact Ne.symm (And.right (And.right (And.left (And.right (And.right (And.right (by assumption))))))) | exact (And.left (And.left (And.right (And.right (And.right (And.right (by assumption))))))) | exact Ne.symm (And.left (And.left (And.right (And.right (And.right (And.right (by assumption))))))) | exact (And.left (And.right (And.left (And.right (And.right (And.right (And.right (by assumption)))))))) | exact Ne.symm (And.left (And.right (And.left (And.right (And.right (And.right (And.right (by assumption)))))))) | exact (And.right (And.right (And.left (And.right (And.right (And.right (And.right (by assumption)))))))) | exact Ne.symm (And.right (And.right (And.left (And.right (And.right (And.right (And.right (by assumption)))))))) | exact (And.left (And.left (And.right (And.right (And.right (And.right (And.right (by assumption)))))))) | exact Ne.symm (And.left (And.left (And.right (And.right (And.right (And.right (And.right (by assumption)))))))) | exact (And.left (And.right (And.left (And.right (And.right (And.right (And.right (And.right (by assumption))))))))) | exact Ne.symm (And.left (And.right (And.left (And.right (And.right (And.right (And.right (And.right (by assumption))))))))) | exact (And.right (And.right (And.left (And.right (And.right (And.right (And.right (And.right (by assumption))))))))) | exact Ne.symm (And.right (And.right (And.left (And.right (And.right (And.right (And.right (And.right (by assumption))))))))) | exact (And.left (And.left (And.right (And.right (And.right (And.right (And.right (And.right (by assumption))))))))) | exact Ne.symm (And.left (And.left (And.right (And.right (And.right (And.right (And.right (And.right (by assumption))))))))) | exact (And.left (And.right (And.left (And.right (And.right (And.right (And.right (And.right (And.right (by assumption)))))))))) | exact Ne.symm (And.left (And.right (And.left (And.right (And.right (And.right (And.right (And.right (And.right (by assumption)))))))))) | exact (And.right (And.right (And.left (And.right (And.right (And.right (And.right (And.right (And.right (by assumption)))))))))) | exact Ne.symm (And.right (And.right (And.left (And.right (And.right (And.right (And.right (And.right (And.right (by assumption)))))))))) | exact (And.left (And.left (And.right (And.right (And.right (And.right (And.right (And.right (And.right (by assumption)))))))))) | exact Ne.symm (And.left (And.left (And.right (And.right (And.right (And.right (And.right (And.right (And.right (by assumption)))))))))) | exact (And.left (And.right (And.left (And.right (And.right (And.right (And.right (And.right (And.right (And.right (by assumption))))))))))) | exact Ne.symm (And.left (And.right (And.left (And.right (And.right (And.right (And.right (And.right (And.right (And.right (by assumption))))))))))) | exact (And.right (And.right (And.left (And.right (And.right (And.right (And.right (And.right (And.right (And.right (by assumption))))))))))) | exact Ne.symm (And.right (And.right (And.left (And.right (And.right (And.right (And.right (And.right (And.right (And.right (by assumption))))))))))) | exact (And.left (And.left (And.right (And.right (And.right (And.right (And.right (And.right (And.right (And.right (by assumption))))))))))) | exact Ne.symm (And.left (And.left (And.right (And.right (And.right (And.right (And.right (And.right (And.right (And.right (by assumption))))))))))) | exact (And.left (And.right (And.left (And.right (And.right (And.right (And.right (And.right (And.right (And.right (And.right (by assumption)))))))))))) | exact Ne.symm (And.left (And.right (And.left (And.right (And.right (And.right (And.right (And.right (And.right (And.right (And.right (by assumption)))))))))))) | exact (And.right (And.right (And.left (And.right (And.right (And.right (And.right (And.right (And.right (And.right (And.right (by assumption)))))))))))) | exact Ne.symm (And.right (And.right (And.left (And.right (And.right (And.right (And.right (And.right (And.right (And.right (And.right (by assumption)))))))))))))
  k_with "!call ref" => ((k_here; (with_reducible show wpAny _ _ (PySem.call (Value.ref 220) _) _ _ _); k_dflt (refine' DoesR.use (by k_asm) (raises_c_ov (by assumption) _ _ _ _ _ _ _ (by assumption) (by k_extra "m fact")) (by k_extra "m k1") (by k_extra "m k2") (by k_extra "m k3") (by k_extra "m k5") (by k_extra "m k6") (by k_extra "m k7") (by k_extra "m k8") ?_; k_extra "m esc")))
  k_with "!call ref" => ((k_here; (with_reducible show wpAny _ _ (PySem.call (Value.ref 220) _) _ _ _); k_dflt (refine' DoesR.use (by k_asm) (raises_c_dz (by assumption) _ _ _ _ _ _ _ (by assumption) (by assumption) (by assumption) (by k_extra "m fact")) (by k_extra "m k1") (by k_extra "m k2") (by k_extra "m k3") (by k_extra "m k5") (by k_extra "m k6") (by k_extra "m k7") (by k_extra "m k8") ?_; k_extra "m esc")))
  k_with "!call ref" => ((k_here; (with_reducible show wpAny _ _ (PySem.call (Value.ref 220) _) _ _ _); k_dflt (refine' Does.use (by k_asm) (does_rk_c (by assumption) _ _ _ _ _ _ _ (by assumption) (by assumption) (by assumption) (by k_extra "m fact") (by k_extra "m fact") (by k_extra "m fact") (by k_extra "m fact")) (by k_extra "m k1") (by k_extra "m k2") (by k_extra "m k3") (by k_extra "m k5") (by k_extra "m k6") (by k_extra "m k7") (by k_extra "m k8") ?_; k_extra "m back")))
  k_with "!call ref" => ((k_here; (with_reducible show wpAny _ _ (PySem.call (Value.ref 220) (Value.str (Txt.item _ _) _ :: _)) _ _ _); k_dflt (refine' Does.use (by k_asm) (does_rk_fig _ _ _ _ _ _ _ _ _ _ _ _ _ _ _ _ _ _ (by k_extra "m fact") (by k_extra "m fact") (by k_mem) (by k_mem) (by k_extra "m fig") (by k_extra "m fig") (by k_extra "m fact")) (by k_extra "m k1") (by k_extra "m k2") (by k_extra "m k3") (by k_extra "m k5") (by k_extra "m k6") (by k_extra "m k7") (by k_extra "m k8") ?_; k_extra "m back"; (try k_extra "m pair"))))
  k_with "m pair" => ((have hFR := fig_pair (by with_reducible assumption) (by with_reducible assumption) (by with_reducible assumption) (by with_reducible assumption) (by k_extra "m fig") (by k_extra "m fig"); have fr1 := hFR.bf; have fr2 := hFR.bf'; have fr3 := hFR.bg; have fr4 := hFR.bg'; have fr5 := hFR.le))
  k_with "m fig" => (exact fig_made (by k_extra "m fact") (by k_extra "m fact"))
  k_with "m enterC" => ((refine wpAny_call ?_; k_dflt (refine' code_defC (by k_asm) (by k_asm) (by k_asm) (by k_asm) (by k_asm) (by exact rfl) (by exact rfl) (by assumption) (by k_is) (by k_is) (by k_extra "m k7") (by exact BindsTo.of_eq rfl) (by exact rfl) (by decide +kernel) ?_ (by exact rfl) (by exact rfl) (by exact rfl); k_whole; intro g' L' h' tk' cells' FG' F' N' Y' B' X' T' l1; (try k_lt l1); k_cells Y'; (try simp only [List.cons_append, List.nil_append] at N'); (try dsimp only); (try k_lift B'); (try k_fold))))
  k_with "!eval ListComp" => ((k_here; k_dflt (refine LCg.ListComp_U (F₀ := by k_asm) (by with_unfolding_all rfl) (by decide) (by rfl) (by decide) (by rfl) ?_); k_dflt lcg_toSrc))
  k_with "!exec Assign cons ListComp" => ((k_here; k_dflt (refine LCg.Assign_ListComp_U (F₀ := by k_asm) (by rfl) (by with_unfolding_all rfl) (by with_unfolding_all rfl) (by decide) (by rfl) (by decide) (by rfl) (by rfl) (by rfl) ?_); k_dflt lcg_toSrc))
  k_with "!CompSrc" => ((k_here; k_dflt (first | (refine LCg.CompSrc.ledger (by rfl) (by k_asm) (by k_asm) (by k_mem) (by first | size_fits | exact Nat.le_of_ble_eq_true rfl) ?_; intro g'; lcg_lit) | (refine LCg.CompSrc.base (by rfl) (by k_asm) (by k_asm) (by assumption) (by first | size_fits | exact Nat.le_of_ble_eq_true rfl) ?_; intro g'; lcg_lit) | (refine LCg.CompSrc.range (by rfl) (by k_asm) (by k_asm) (by assumption) (by first | decide | rfl) (by first | rfl | decide) (by first | size_fits | exact Nat.le_of_ble_eq_true rfl) ?_; intro g'; lcg_lit))))
  k_with "m enterSC" => ((refine wpAny_call ?_; k_dflt (refine' enterSC (g₀ := _) (by k_asm) (by k_asm) (by k_asm) (by k_asm) (by k_asm) (by assumption) (by assumption) (by assumption) KtsTurn.refl (by exact rfl) (by exact rfl) (by assumption) (by k_is) (by k_is) (by k_extra "m k7") (by exact BindsTo.of_eq rfl) (by exact rfl) (by decide +kernel) ?_ (by exact rfl) (by exact rfl) (by exact rfl); k_whole; intro g' L' h' tk' cells' FG' F' N' Y' B' X' T' D' l1; (try k_lt l1); k_cells Y'; (try simp only [List.cons_append, List.nil_append] at N'); (try dsimp only); (try k_lift B'); (try k_fold))))
  k_with "!exec Assign cons ListComp" => ((k_here; k_dflt (refine Assign_ListComp_K (F₀ := by k_asm) (B := by k_asm) (X := by k_asm) (T := by k_asm) (XB := by assumption) (TB := by assumption) (DD := by assumption) (by rfl) (by with_unfolding_all rfl) (by with_unfolding_all rfl) (by decide) (by rfl) (by decide) (by rfl) (by rfl) (by rfl) ?_)))
  k_with "!SrcK" => ((k_dflt (refine SrcK.intro (by rfl) (by k_asm) (by k_asm) (by k_mem) (by first | size_fits | exact Nat.le_of_ble_eq_true rfl) ?_; intro g9)))
  k_with "!RestK" => ((with_unfolding_all first | (refine RestK.succ ?_; intro v' I' oI' C' oC' D' m' g' h' tk' E' hv' hC' hx' G' F' N' off' ne'; lcg_open hv'; obtain ⟨T', B', X', P', DD'⟩ := G'; (try dsimp only)) | refine RestK.zero ?_))
  k_with "!FinK" => (((unfold FinK); intro g' D' h' tk' G' F' N' o1'; obtain ⟨T', B', X', P', DD'⟩ := G'; (try simp only [LCg.Off1, and_true] at o1'); (try simp only [List.nil_append, List.cons_append] at N'); (try dsimp only)))
  trivial
/-- with no frame outside, the ground cannot be turned -/
theorem flat_fr {h₀ g h : Heap} {L : Addr} {m : Str → Option Value} (T : KtsTurn (([] : List Env).filterMap (·.frame)) h₀ g) (F : Fr g L h m) : Fr h₀ L h m :=
  ⟨F.ns, fun b o e => F.keep b o (T.other b o e (fun hm => nomatch hm)), by rw [← T.size]; exact F.above⟩
theorem flat_news {h₀ g h : Heap} {L : Addr} {news : Led} (T : KtsTurn (([] : List Env).filterMap (·.frame)) h₀ g) (N : News g L h news) : News h₀ L h news := fun p hp => by
  refine ⟨(N p hp).1, (N p hp).2.1, ?_⟩
  cases q : h₀.get? p.1 with
  | none => rfl
  | some o => have := T.other _ _ q (fun hm => nomatch hm); rw [(N p hp).2.2] at this; cases this
/-- a def whose call may turn the ground, called from the law's own frame -/
theorem DoesToK.top {w : World} {need : Nat} {f : Addr} {vs : List Value} {news : Led} {ok : Value → Led → Prop}
    {mean : ExcName → Option Value} {mg mb : Str → Option Value} {dp un : Nat} {gd : Option (List Code)} {cn : Str} {cs : Scope} {a : Addr} {ccd : Value} {cl : List (Str × Addr)} {A₀ : Around} {base h₀ : Heap} {L : Addr} {m : Str → Option Value} {s : Shared} {Q E : Value → Shared → Prop}
    (N : News h₀ L s.heap news) (D : DoesToK w need f vs news ok) (B : Below A₀ base [] h₀) (F : Fr h₀ L s.heap m) (X : (hd.heap_1 w.params).In h₀) (T : Top hdView loose mean mg mb h₀) (XB : (hd.heap_1 w.params).In base) (TB : Top hdView loose mean mg mb base) (hk : cs.kind = .function)
    (hd : dp + need < recursionLimit) (hu : un + 8 * need < cLine)
    (ret : ∀ r news' h' tk', Fr h₀ L h' m → News h₀ L h' news' → ok r news' → Q r { s with heap := h', toks := tk' }) :
    wpAny (model PySem.Challenge.rw_xm0050_01.row.prog w) (ktrTop dp un gd cn cs L a ccd cl []) (call (.ref f) vs) Q E s :=
  D mean mg mb dp un gd cn cs a ccd cl [] A₀ base h₀ L m s Q E B F X N T XB TB ktsDicts_nil hk hd hu fun r news' g h' tk' T' F' N' _ _ _ _ o => ret r news' h' tk' (flat_fr T' F') (flat_news T' N') o
/-- between two rounds of figures -/
structure JF (bag l : Addr) (n n' : Nat) (vs : List Value) (i : Nat) (m₁ : Str → Option Value) (news₁ : Led) : Prop where
  ex : ∃ sp t, news₁ = [(bag, lst2 l sp t n), (l, W.listOf vs.toArray n')] ∧ 0 ≤ sp ∧ sp ≤ 15 + 5 * (i : Int)
  hm : m₁ "bag" = some (.ref bag)
section
variable {prog : Program} {w : World} {A : Around} {E : Value → Shared → Prop} {s : Shared} {h₀ : Heap} {env : Env} {m : Str → Option Value} {Q : Flow → Shared → Prop} {body : List Stmt}
theorem fig_loop {x : Str} {pos : Pos} {r : Addr} {t u v : Tok} {bag l : Addr} {n n' : Nat} {vs : List Value} {sp : Int} {tsp : Tok}
    (hh : A.handled = none) (hr : IsRange s.heap r 0 (2 : Nat) 1 t u v) (F : Fr h₀ env.locals s.heap m) (N : News h₀ env.locals s.heap [(bag, lst2 l sp tsp n), (l, W.listOf vs.toArray n')]) (hs0 : 0 ≤ sp) (hs1 : sp ≤ 15) (hm : m "bag" = some (.ref bag))
    (hy : env.kindOf x = some .local) (hp : (env.scope.kind == .class || (env.scope.kind == .module && env.locals != env.globals)) = false)
    (turn : ∀ (i : Nat) (t : Tok) (m₁ : Str → Option Value) (h₁ : Heap) (tk₁ : Nat) (I : Addr) (oI : Obj) (sp : Int) (tsp : Tok), i < 2 → 0 ≤ sp → sp ≤ 15 + 5 * (i : Int) → m₁ "bag" = some (.ref bag) → I ≠ bag → I ≠ l →
      Fr h₀ env.locals h₁ (fun z => if z = x then some (.int (i : Int) t) else m₁ z) → News h₀ env.locals h₁ [(bag, lst2 l sp tsp n), (l, W.listOf vs.toArray n'), (I, oI)] →
      wpAny (model prog w) A (execs body env) (TurnJ h₀ env.locals (JF bag l n n' vs (i + 1)) I oI [] { s with heap := h₁, toks := tk₁ }) E { s with heap := h₁, toks := tk₁ })
    (done : ∀ (h' : Heap) (tk : Nat) (m' : Str → Option Value) (sp : Int) (tsp : Tok), 0 ≤ sp → sp ≤ 25 → m' "bag" = some (.ref bag) → Fr h₀ env.locals h' m' → News h₀ env.locals h' [(bag, lst2 l sp tsp n), (l, W.listOf vs.toArray n')] → Q .next { s with heap := h', toks := tk }) :
    wpAny (model prog w) A (pyIter (.ref r)) (fun it s₂ => TurnsAt prog w A h₀ env (.Name x pos) body Q E it s₂) E s := by
  refine iter_rangeJ (k := 2) (JF bag l n n' vs) hh hr (by decide) (by decide) F N ⟨⟨sp, tsp, rfl, hs0, by simpa using hs1⟩, hm⟩ hy hp ?_ ?_
  · intro i t m₁ news₁ h₁ tk₁ I oI hi J F₁ N₁ off
    obtain ⟨⟨sp, tsp, rfl, g0, g1⟩, hm₁⟩ := J
    exact turn i t m₁ h₁ tk₁ I oI sp tsp hi g0 g1 hm₁ (Ne.symm (off _ (.head _))) (Ne.symm (off _ (.tail _ (.head _)))) F₁ (fun p hp => N₁ p (by simp only [List.mem_cons, List.not_mem_nil, or_false] at hp ⊢; rcases hp with h | h | h <;> simp only [h, true_or, or_true]))
  · intro h' tk m' news' F' N' J
    obtain ⟨⟨sp, tsp, rfl, g0, g1⟩, hm₁⟩ := J
    exact done h' tk m' sp tsp g0 (by simpa using g1) hm₁ F' N'
theorem fig_end {L : Addr} {h' : Heap} {tk : Nat} {m₂ : Str → Option Value} {s₁ : Shared} {bag l I : Addr} {oI : Obj} {n n' : Nat} {vs : List Value} {sp : Int} {t : Tok} {i : Nat} (F : Fr h₀ L h' m₂) (N : News h₀ L h' [(bag, lst2 l sp t n), (l, W.listOf vs.toArray n'), (I, oI)]) (h1 : I ≠ bag) (h2 : I ≠ l)
    (h0 : 0 ≤ sp) (hs : sp ≤ 15 + 5 * (((i + 1 : Nat)) : Int)) (hm : m₂ "bag" = some (.ref bag)) :
    TurnJ h₀ L (JF bag l n n' vs (i + 1)) I oI [] s₁ .next { s₁ with heap := h', toks := tk } :=
  .mk h' tk m₂ [(bag, lst2 l sp t n), (l, W.listOf vs.toArray n')] F (fun p hp => N p (by simp only [List.mem_cons, List.not_mem_nil, or_false] at hp ⊢; rcases hp with h | h | h <;> simp only [h, true_or, or_true]))
    (fun q hq => by
      rcases List.mem_cons.mp hq with rfl | hq
      · exact h1.symm
      · rw [List.mem_singleton.mp hq]; exact h2.symm) (fun _ hq => nomatch hq) ⟨⟨sp, t, rfl, h0, hs⟩, hm⟩
end
theorem take_len {xs : List Int} {k n : Nat} (h : xs.length ≤ n) : (xs.take k).length ≤ n := by rw [List.length_take]; omega
theorem len_63 {xs : List Int} (h : ¬ (63 : Int) < (xs.length : Int)) : (xs.take 31).length ≤ 63 := take_len (by omega)
theorem words99_b : True := by
  k_with "m look" => (((repeat (refine (if_neg (by decide)).trans ?_)); first | exact if_pos rfl | assumption))
  k_with "!call ref" => ((k_here; (with_reducible show wpAny _ _ (PySem.call (Value.ref 239) _) _ _ _); k_dflt (refine' DoesToK.top (by assumption) (does_cells _ _ _ _ _ _ _ _ _ (by k_ne) (by assumption) (by exact len_63 (by assumption)) (by decide) (by decide)) (by assumption) (by assumption) (by assumption) (by assumption) (by assumption) (by assumption) (by exact rfl) (by k_extra "m k7") (by k_extra "m k8") ?_; intro r9 news9 h9 tk9 F9 N9 o9; cases o9 with | mk sp9 t9 g0 g1 => _; (try dsimp only))))
  k_with "!call ref" => ((k_here; (with_reducible show wpAny _ _ (PySem.call (Value.ref 244) _) _ _ _); k_dflt (refine' DoesTo.use (by assumption) (does_figures _ _ _ _ _ _ _ _ _ _ _ (by k_ne) (by assumption) (by assumption) (by exact len_63 (by assumption)) (by omega) (by omega)) (by assumption) (by assumption) (by assumption) (by assumption) (by exact rfl) (by k_extra "m k7") (by k_extra "m k8") ?_; intro r9 news9 h9 tk9 F9 N9 o9; cases o9; (try dsimp only))))
  k_with "!eval Name" => ((k_here; k_dflt (refine' nameX_L (by k_asm) (by k_extra "m look") ?_ (by rfl) (by rfl); k_whole)))
  k_with "!TurnJ" => ((k_dflt (refine' fig_end (by k_asm) (by assumption) (by assumption) (by assumption) (by omega) (by omega) (by k_extra "m look"))))
  k_with "!exec For Name Call" => ((k_here; (rename Fr _ _ _ _ => lF'); (with_unfolding_all refine' For_turns lF' ?_; k_whole)))
  k_with "!exec For Name Call cons nil" => ((k_here; (rename Fr _ _ _ _ => lF'); (with_unfolding_all refine' For_turns lF' ?_; k_whole)))
  k_with "!pyIter ref" => ((k_here; (with_reducible show wpAny _ _ (pyIter (Value.ref _)) (fun it s₂ => TurnsAt _ _ _ _ _ _ _ _ _ it s₂) _ _); k_dflt (refine' fig_loop (by exact rfl) (by assumption) (by assumption) (by assumption) (by omega) (by omega) (by exact rfl) (by exact rfl) (by exact rfl) (fun i9 t9 m9 h9 tk9 I9 oI9 sp9 tsp9 hi9 g0 g1 hm9 ne1 ne2 F9 N9 => ?_) (fun h9 tk9 m9 sp9 tsp9 g0 g1 hm9 F9 N9 => ?_); all_goals (try dsimp only))))
  k_with "!call ref" => ((k_here; (with_reducible show wpAny _ _ (PySem.call (Value.ref 256) _) _ _ _); k_dflt (refine' DoesToK.top (by assumption) (does_bits _ _ _ _ _ _ _ _ _ (by k_ne) (by assumption) (by exact len_63 (by assumption)) (by omega) (by omega)) (by assumption) (by assumption) (by assumption) (by assumption) (by assumption) (by assumption) (by exact rfl) (by k_extra "m k7") (by k_extra "m k8") ?_; intro r9 news9 h9 tk9 F9 N9 o9; cases o9; (try dsimp only))))
  trivial
section
local macro_rules | `(tactic| k_qdec) => `(tactic| decide +kernel)
set_option maxRecDepth 100000 in
set_option maxHeartbeats 1500000 in
theorem law_holds : PySem.Challenge.rw_xm0050_01.Holds := top (by
  k_go0
  all_goals (try k_fold)
  k_steps)
end
end
end Mine
theorem PySem.Challenge.cw_xm0050_01_holds : PySem.Challenge.rw_xm0050_01.Holds :=
  Mine.law_holds

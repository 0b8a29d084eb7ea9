import PyProof.Rows.All
import Wide.All
import OpenK.AllK
import Wide.FinOn
import Lean
import PySem.Challenge.RW_ov0038_01
open PySem PySem.W PyProof.Rows
set_option Elab.async false
set_option maxRecDepth 100000

namespace Mine
set_option maxHeartbeats 8000000 in
open_top hd for PySem.Challenge.rw_ov0038_01
end Mine
open Mine PySem.Spec PySem.Calls

namespace Mine
def nw (n d : Int) : Int :=
  if 2 * (n - n.fdiv d * d) > d ∨ (2 * (n - n.fdiv d * d) = d ∧ (n.fdiv d).fmod 2 = 1) then n.fdiv d + 1 else n.fdiv d
def Near (n d m : Int) : Prop := -d ≤ 2 * (n - m * d) ∧ 2 * (n - m * d) ≤ d ∧ (2 * (n - m * d) = d ∨ 2 * (n - m * d) = -d → m % 2 = 0)
theorem nw_near {n d : Int} (hd : 0 < d) : Near n d (nw n d) := by
  have e : n.fdiv d = n / d := Int.fdiv_eq_ediv_of_nonneg n (by omega)
  have h1 := Int.emod_add_mul_ediv n d
  have h2 := Int.emod_nonneg n (b := d) (by omega)
  have h3 := Int.emod_lt_of_pos n hd
  have e2 : (n / d).fmod 2 = (n / d) % 2 := Int.fmod_eq_emod_of_nonneg _ (by decide)
  unfold nw Near
  rw [e, e2, Int.mul_comm (n / d) d]
  generalize n % d = r at *
  generalize n / d = q at *
  split
  · rw [Int.add_mul, Int.one_mul, Int.mul_comm q d]
    generalize d * q = z at *
    omega
  · rw [Int.mul_comm q d]
    generalize d * q = z at *
    omega
theorem near_mono {n d m n' d' m' : Int} (hd : 0 < d) (hd' : 0 < d') (h : Near n d m) (h' : Near n' d' m') (hle : n * d' ≤ n' * d) : m ≤ m' := by
  obtain ⟨a1, a2, a3⟩ := h
  obtain ⟨b1, b2, b3⟩ := h'
  rcases Int.lt_or_le m' m with hlt | hge
  · exfalso
    have x0 : 0 ≤ 2 * (n - m * d) + d := by omega
    have y0 : 0 ≤ d' - 2 * (n' - m' * d') := by omega
    have z0 : 0 ≤ m - m' - 1 := by omega
    have D0 : 0 < d * d' := Int.mul_pos hd hd'
    have x1 := Int.mul_nonneg x0 (Int.le_of_lt hd')
    have y1 := Int.mul_nonneg y0 (Int.le_of_lt hd)
    have z1 := Int.mul_nonneg z0 (Int.le_of_lt D0)
    have key : (2 * (n - m * d) + d) * d' + (d' - 2 * (n' - m' * d')) * d + 2 * ((m - m' - 1) * (d * d')) = 2 * (n * d' - n' * d) := by grind
    have x2 : (2 * (n - m * d) + d) * d' = 0 := by omega
    have y2 : (d' - 2 * (n' - m' * d')) * d = 0 := by omega
    have z2 : (m - m' - 1) * (d * d') = 0 := by omega
    have x3 := (Int.mul_eq_zero.mp x2).resolve_right (by omega)
    have y3 := (Int.mul_eq_zero.mp y2).resolve_right (by omega)
    have z3 := (Int.mul_eq_zero.mp z2).resolve_right (by omega)
    have := a3 (by omega)
    have := b3 (by omega)
    omega
  · exact hge
theorem near_unique {n d m m' : Int} (hd : 0 < d) (h : Near n d m) (h' : Near n d m') : m = m' :=
  Int.le_antisymm (near_mono hd hd h h' (Int.le_refl _)) (near_mono hd hd h' h (Int.le_refl _))
theorem near_same {n d m n' d' m' : Int} (hd : 0 < d) (hd' : 0 < d') (h : Near n d m) (h' : Near n' d' m') (he : n * d' = n' * d) : m = m' :=
  Int.le_antisymm (near_mono hd hd' h h' (by omega)) (near_mono hd' hd h' h (by omega))
theorem near_exact {m d : Int} (hd : 0 < d) : Near (m * d) d m := by
  unfold Near
  rw [Int.sub_self]; omega
theorem near_neg {n d m : Int} (h : Near n d m) : Near (0 - n) d (0 - m) := by
  obtain ⟨a1, a2, a3⟩ := h
  have e : (0 - m) * d = 0 - m * d := by grind
  unfold Near
  rw [e]
  generalize m * d = z at *
  refine ⟨by omega, by omega, fun h => ?_⟩
  have := a3 (by omega)
  omega
theorem nw_neg {n d : Int} (hd : 0 < d) : nw (0 - n) d = 0 - nw n d := near_unique hd (nw_near hd) (near_neg (nw_near hd))
theorem nw_exact {n d m : Int} (hd : 0 < d) (h : n = m * d) : nw n d = m := by
  subst h; exact near_unique hd (nw_near hd) (near_exact hd)

def rN (a b : Int) : Int := a.fdiv (Int.gcd a b)
def rD (a b : Int) : Int := b.fdiv (Int.gcd a b)
theorem rq_facts {a b : Int} (hb : 0 < b) : ∃ g : Int, 0 < g ∧ a = rN a b * g ∧ b = rD a b * g ∧ 0 < rD a b ∧ Int.gcd (rN a b) (rD a b) = 1 ∧ g = Int.gcd a b := by
  have hg : 0 < Int.gcd a b := Int.gcd_pos_of_ne_zero_right a (by omega)
  have e1 : rN a b = a / (Int.gcd a b : Int) := Int.fdiv_eq_ediv_of_nonneg a (by omega)
  have e2 : rD a b = b / (Int.gcd a b : Int) := Int.fdiv_eq_ediv_of_nonneg b (by omega)
  have f1 : a = rN a b * (Int.gcd a b : Int) := by rw [e1, Int.ediv_mul_cancel (Int.gcd_dvd_left ..)]
  have f2 : b = rD a b * (Int.gcd a b : Int) := by rw [e2, Int.ediv_mul_cancel (Int.gcd_dvd_right ..)]
  refine ⟨Int.gcd a b, by omega, f1, f2, ?_, ?_, rfl⟩
  · rcases Int.lt_or_le 0 (rD a b) with h | h
    · exact h
    · have := Int.mul_nonpos_of_nonpos_of_nonneg h (Int.natCast_nonneg (Int.gcd a b))
      omega
  · rw [e1, e2]
    exact Int.gcd_ediv_gcd_ediv_gcd hg
theorem rq_scale {a b k : Int} (hb : 0 < b) (hk : 0 < k) : rN (a * k) (b * k) = rN a b ∧ rD (a * k) (b * k) = rD a b := by
  obtain ⟨g, hg, ha, hbb, _, _, hgg⟩ := rq_facts (a := a) hb
  have e : (Int.gcd (a * k) (b * k) : Int) = g * k := by
    rw [Int.gcd_mul_right, hgg, Int.natCast_mul, Int.natAbs_of_nonneg (by omega)]
  have hgk := Int.mul_pos hg hk
  constructor
  · show (a * k).fdiv _ = _
    rw [e, Int.fdiv_eq_ediv_of_nonneg _ (by omega)]
    have : a * k = rN a b * (g * k) := by rw [← Int.mul_assoc, ← ha]
    rw [this, Int.mul_ediv_cancel _ (by omega)]
  · show (b * k).fdiv _ = _
    rw [e, Int.fdiv_eq_ediv_of_nonneg _ (by omega)]
    have : b * k = rD a b * (g * k) := by rw [← Int.mul_assoc, ← hbb]
    rw [this, Int.mul_ediv_cancel _ (by omega)]
theorem rq_eq {a b a' b' : Int} (hb : 0 < b) (hb' : 0 < b') (h : a * b' = a' * b) : rN a b = rN a' b' ∧ rD a b = rD a' b' := by
  have h1 := rq_scale (a := a) hb hb'
  have h2 := rq_scale (a := a') hb' hb
  rw [h, Int.mul_comm b b'] at h1
  exact ⟨h1.1.symm.trans h2.1, h1.2.symm.trans h2.2⟩
theorem rq_self {a b : Int} (h : Int.gcd a b = 1) : rN a b = a ∧ rD a b = b := by
  unfold rN rD
  rw [h]
  exact ⟨by simp, by simp⟩
theorem rq_neg {a b : Int} (hb : 0 < b) : rN (0 - a) b = 0 - rN a b ∧ rD (0 - a) b = rD a b := by
  obtain ⟨g, hg, ha, hbb, _, _, hgg⟩ := rq_facts (a := a) hb
  have e : (Int.gcd (0 - a) b : Int) = g := by
    rw [hgg, Int.zero_sub, Int.neg_gcd]
  constructor
  · show (0 - a).fdiv _ = _
    rw [e, Int.fdiv_eq_ediv_of_nonneg _ (by omega)]
    have : 0 - a = (0 - rN a b) * g := by rw [Int.sub_mul, ← ha]; omega
    rw [this, Int.mul_ediv_cancel _ (by omega)]
  · show b.fdiv _ = b.fdiv _
    rw [e, hgg]

-- powers of ten
abbrev pw (z : Int) : Int := 10 ^ z.toNat
theorem pw_pos (z : Int) : 0 < pw z := Int.pow_pos (by decide)
theorem pw_add (a b c : Int) (h : a + b = c) : pw a * pw b * pw (0 - c) = pw (0 - a) * pw (0 - b) * pw c := by
  unfold pw
  rw [← Int.pow_add, ← Int.pow_add, ← Int.pow_add, ← Int.pow_add]
  congr 1
  omega
theorem pw_of_nonpos {z : Int} (h : z ≤ 0) : pw z = 1 := by
  have : z.toNat = 0 := by omega
  unfold pw
  rw [this]; rfl

-- rounding to p places
def rdM (n d p : Int) : Int := nw (n * 10 ^ p.toNat) d
def rdN (n d p : Int) : Int := if 0 ≤ p then (rdM n d p).fdiv (Int.gcd (rdM n d p) (10 ^ p.toNat)) else nw n (d * 10 ^ (0 - p).toNat) * 10 ^ (0 - p).toNat
def rdD (n d p : Int) : Int := if 0 ≤ p then ((10 : Int) ^ p.toNat).fdiv (Int.gcd (rdM n d p) (10 ^ p.toNat)) else 1
def rm (n d p : Int) : Int := nw (n * pw p) (d * pw (0 - p))
theorem rd_red (n d p : Int) : rdN n d p = rN (rm n d p * pw (0 - p)) (pw p) ∧ rdD n d p = rD (rm n d p * pw (0 - p)) (pw p) := by
  unfold rdN rdD rm
  by_cases h : 0 ≤ p
  · rw [if_pos h, if_pos h, pw_of_nonpos (z := 0 - p) (by omega), Int.mul_one, Int.mul_one]
    exact ⟨rfl, rfl⟩
  · rw [if_neg h, if_neg h, pw_of_nonpos (z := p) (by omega), Int.mul_one]
    have := rq_self (a := nw n (d * pw (0 - p)) * pw (0 - p)) (b := 1) (by simp)
    exact ⟨this.1.symm, this.2.symm⟩
theorem rd_facts (n d p : Int) : 0 < rdD n d p ∧ rdN n d p * pw p = rm n d p * pw (0 - p) * rdD n d p ∧ Int.gcd (rdN n d p) (rdD n d p) = 1 := by
  obtain ⟨g, hg, ha, hb, hD, hc, _⟩ := rq_facts (a := rm n d p * pw (0 - p)) (pw_pos p)
  rw [← (rd_red n d p).1] at ha hc
  rw [← (rd_red n d p).2] at hb hD hc
  refine ⟨hD, ?_, hc⟩
  rw [ha, hb]
  grind
theorem rm_near {n d p : Int} (hd : 0 < d) : Near (n * pw p) (d * pw (0 - p)) (rm n d p) := nw_near (Int.mul_pos hd (pw_pos _))
theorem rm_mono {n d n' d' p : Int} (hd : 0 < d) (hd' : 0 < d') (h : n * d' ≤ n' * d) : rm n d p ≤ rm n' d' p := by
  refine near_mono (Int.mul_pos hd (pw_pos _)) (Int.mul_pos hd' (pw_pos _)) (rm_near hd) (rm_near hd') ?_
  have h1 := pw_pos p
  have h2 := pw_pos (0 - p)
  have h3 := Int.mul_le_mul_of_nonneg_right h (Int.le_of_lt (Int.mul_pos h1 h2))
  grind
theorem rd_mono {n d n' d' p : Int} (hd : 0 < d) (hd' : 0 < d') (h : n * d' ≤ n' * d) : rdN n d p * rdD n' d' p ≤ rdN n' d' p * rdD n d p := by
  have h0 := rm_mono (p := p) hd hd' h
  obtain ⟨a1, a2, _⟩ := rd_facts n d p
  obtain ⟨b1, b2, _⟩ := rd_facts n' d' p
  generalize rdN n d p = N at *
  generalize rdD n d p = D at *
  generalize rdN n' d' p = N' at *
  generalize rdD n' d' p = D' at *
  generalize rm n d p = m at *
  generalize rm n' d' p = m' at *
  have hS := pw_pos p
  have hT := pw_pos (0 - p)
  generalize pw p = S at *
  generalize pw (0 - p) = T at *
  have h1 := Int.mul_le_mul_of_nonneg_right h0 (Int.le_of_lt (Int.mul_pos hT (Int.mul_pos a1 b1)))
  have e1 : N * D' * S = m * (T * (D * D')) := by grind
  have e2 : N' * D * S = m' * (T * (D * D')) := by grind
  have h2 : N * D' * S ≤ N' * D * S := by rw [e1, e2]; exact h1
  exact Int.le_of_mul_le_mul_right h2 hS
theorem rd_exact {n d p m : Int} (hd : 0 < d) (hc : Int.gcd n d = 1) (h : n * pw p = m * (d * pw (0 - p))) : rdN n d p = n ∧ rdD n d p = d := by
  have e : rm n d p = m := nw_exact (Int.mul_pos hd (pw_pos _)) h
  have h1 := rd_red n d p
  rw [e] at h1
  have h2 := rq_eq (pw_pos p) hd (a := m * pw (0 - p)) (a' := n) (by grind)
  have h3 := rq_self hc
  exact ⟨h1.1.trans (h2.1.trans h3.1), h1.2.trans (h2.2.trans h3.2)⟩
theorem rd_twice (n d p : Int) : rdN (rdN n d p) (rdD n d p) p = rdN n d p ∧ rdD (rdN n d p) (rdD n d p) p = rdD n d p := by
  obtain ⟨a, b, c⟩ := rd_facts n d p
  exact rd_exact (m := rm n d p) a c (by rw [b]; grind)
theorem rm_neg {n d p : Int} (hd : 0 < d) : rm (0 - n) d p = 0 - rm n d p := by
  unfold rm
  have : (0 - n) * pw p = 0 - n * pw p := by grind
  rw [this]
  exact nw_neg (Int.mul_pos hd (pw_pos _))
theorem rd_neg {n d p : Int} (hd : 0 < d) : rdN (0 - n) d p = 0 - rdN n d p ∧ rdD (0 - n) d p = rdD n d p := by
  obtain ⟨a, b⟩ := rd_red n d p
  obtain ⟨a', b'⟩ := rd_red (0 - n) d p
  have e : (0 - rm n d p) * pw (0 - p) = 0 - rm n d p * pw (0 - p) := by grind
  rw [rm_neg hd, e] at a' b'
  rw [(rq_neg (pw_pos p)).1, ← a] at a'
  rw [(rq_neg (pw_pos p)).2, ← b] at b'
  exact ⟨a', b'⟩
theorem pow_le {p : Int} {k : Nat} (h : p ≤ (k : Int)) : (10 : Int) ^ p.toNat ≤ 10 ^ k := by
  have h1 : p.toNat ≤ k := by omega
  have h2 : (10 : Nat) ^ p.toNat ≤ 10 ^ k := Nat.pow_le_pow_right (by decide) h1
  exact_mod_cast h2
theorem rdD_pos {n d p : Int} (hp1 : p ≤ 12) : 0 < rdD n d p ∧ rdD n d p ≤ 10 ^ 12 := by
  obtain ⟨g, hg, ha, hb, hD, hc, _⟩ := rq_facts (a := rm n d p * pw (0 - p)) (pw_pos p)
  rw [← (rd_red n d p).2] at hb hD
  refine ⟨hD, Int.le_trans ?_ (pow_le (k := 12) hp1)⟩
  show _ ≤ pw p
  have := Int.mul_le_mul_of_nonneg_left (show (1 : Int) ≤ g by omega) (Int.le_of_lt hD)
  omega
def nearP (n d n' d' S T : Int) : Prop :=
  (n' * S).fmod (d' * T) = 0 ∧ ((if n * d' - n' * d < 0 then -(n * d' - n' * d) else n * d' - n' * d) * 2 * S < d * d' * T ∨
    ((if n * d' - n' * d < 0 then -(n * d' - n' * d) else n * d' - n' * d) * 2 * S = d * d' * T ∧ ((n' * S).fdiv (d' * T)).fmod 2 = 0))
theorem near_rd {n d p : Int} (hd0 : 0 < d) : nearP n d (rdN n d p) (rdD n d p) (10 ^ p.toNat) (10 ^ (0 - p).toNat) := by
  have hn := rm_near (n := n) (p := p) hd0
  obtain ⟨hD, hx, _⟩ := rd_facts n d p
  unfold nearP
  have hS := pw_pos p
  have hT := pw_pos (0 - p)
  change (_ * pw p).fmod (_ * pw (0 - p)) = 0 ∧ (_ * 2 * pw p < _ * pw (0 - p) ∨ (_ * 2 * pw p = _ * pw (0 - p) ∧ ((_ * pw p).fdiv (_ * pw (0 - p))).fmod 2 = 0))
  generalize rdN n d p = N at *
  generalize rdD n d p = D at *
  generalize rm n d p = m at *
  generalize pw p = S at *
  generalize pw (0 - p) = T at *
  have hDT := Int.mul_pos hD hT
  have e1 : N * S = m * (D * T) := by rw [hx]; grind
  have e2 : (N * S).fmod (D * T) = 0 := by
    rw [e1, Int.fmod_eq_emod_of_nonneg _ (by omega), Int.mul_emod_left]
  have e3 : (N * S).fdiv (D * T) = m := by
    rw [e1, Int.fdiv_eq_ediv_of_nonneg _ (by omega), Int.mul_ediv_cancel _ (by omega)]
  rw [e2, e3, Int.fmod_eq_emod_of_nonneg m (by decide)]
  refine ⟨rfl, ?_⟩
  obtain ⟨c1, c2, c3⟩ := hn
  have key : (n * D - N * d) * 2 * S = D * (2 * (n * S - m * (d * T))) := by grind
  have key2 : d * D * T = D * (d * T) := by grind
  rw [key2]
  have k1 := Int.mul_le_mul_of_nonneg_left c1 (Int.le_of_lt hD)
  have k2 := Int.mul_le_mul_of_nonneg_left c2 (Int.le_of_lt hD)
  have k3 : D * -(d * T) = -(D * (d * T)) := by grind
  have habs : (if n * D - N * d < 0 then -(n * D - N * d) else n * D - N * d) * 2 * S = D * (2 * (n * S - m * (d * T))) ∨ (if n * D - N * d < 0 then -(n * D - N * d) else n * D - N * d) * 2 * S = - (D * (2 * (n * S - m * (d * T)))) := by
    split
    · right; rw [← key]; grind
    · left; exact key
  rcases habs with h | h
  · rw [h]
    rcases Int.lt_or_eq_of_le k2 with h2 | h2
    · exact .inl h2
    · exact .inr ⟨h2, c3 (.inl (Int.eq_of_mul_eq_mul_left (by omega) h2))⟩
  · rw [h]
    rcases Int.lt_or_eq_of_le k1 with h2 | h2
    · exact .inl (by omega)
    · exact .inr ⟨by omega, c3 (.inr (Int.eq_of_mul_eq_mul_left (by omega) h2.symm))⟩
end Mine

namespace Mine
theorem pw_succ (e : Int) : pw (e + 1) * pw (0 - e) = 10 * pw e * pw (0 - (e + 1)) := by
  have h := pw_add e 1 (e + 1) rfl
  have h1 : pw 1 = 10 := by decide
  have h2 : pw (0 - 1) = 1 := by decide
  rw [h1, h2] at h
  grind
theorem pw_mono {a b : Int} (h : a ≤ b) : pw a * pw (0 - b) ≤ pw b * pw (0 - a) := by
  have h1 := pw_add b (0 - a) (b - a) (by omega)
  have e1 : pw (0 - (0 - a)) = pw a := by congr 1; omega
  have e2 : pw (0 - (b - a)) = 1 := pw_of_nonpos (by omega)
  rw [e1, e2, Int.mul_one] at h1
  rw [h1]
  have h2 := pw_pos (b - a)
  have h3 := Int.mul_pos (pw_pos a) (pw_pos (0 - b))
  have h4 := Int.mul_le_mul_of_nonneg_left (show (1 : Int) ≤ pw (b - a) by omega) (Int.le_of_lt h3)
  rw [Int.mul_comm (pw (0 - b)) (pw a)]
  omega
def IsExp (n d e : Int) : Prop := if 0 ≤ e then d * 10 ^ e.toNat ≤ n ∧ n < 10 * (d * 10 ^ e.toNat) else d ≤ n * 10 ^ (0 - e).toNat ∧ n * 10 ^ (0 - e).toNat < 10 * d
theorem isExp_iff {n d e : Int} : IsExp n d e ↔ d * pw e ≤ n * pw (0 - e) ∧ n * pw (0 - e) < 10 * (d * pw e) := by
  unfold IsExp
  by_cases h : 0 ≤ e
  · rw [if_pos h, pw_of_nonpos (z := 0 - e) (by omega), Int.mul_one]
  · rw [if_neg h, pw_of_nonpos (z := e) (by omega), Int.mul_one]
theorem IsExp_mono {n d e n' d' e' : Int} (hd : 0 < d) (hd' : 0 < d') (h : IsExp n d e) (h' : IsExp n' d' e') (hle : n * d' ≤ n' * d) : e ≤ e' := by
  obtain ⟨a1, _⟩ := isExp_iff.mp h
  obtain ⟨_, b2⟩ := isExp_iff.mp h'
  rcases Int.lt_or_le e' e with hlt | hge
  · exfalso
    have hp := pw_mono (show e' + 1 ≤ e by omega)
    have hs := pw_succ e'
    have p1 := pw_pos e
    have p2 := pw_pos (0 - e)
    have p3 := pw_pos e'
    have p4 := pw_pos (0 - e')
    have p5 := pw_pos (e' + 1)
    have p6 := pw_pos (0 - (e' + 1))
    generalize pw e = A at *
    generalize pw (0 - e) = B at *
    generalize pw e' = C at *
    generalize pw (0 - e') = G at *
    generalize pw (e' + 1) = H at *
    generalize pw (0 - (e' + 1)) = K at *
    have s1 := Int.mul_le_mul_of_nonneg_right a1 (Int.le_of_lt (Int.mul_pos hd' (Int.mul_pos p4 p6)))
    have s2 := Int.mul_le_mul_of_nonneg_right hle (Int.le_of_lt (Int.mul_pos p2 (Int.mul_pos p4 p6)))
    have s3 := Int.mul_lt_mul_of_pos_right b2 (Int.mul_pos hd (Int.mul_pos p2 p6))
    have s4 := Int.mul_le_mul_of_nonneg_right hp (Int.le_of_lt (Int.mul_pos hd (Int.mul_pos hd' p4)))
    have e1 : n * B * (d' * (G * K)) = n * d' * (B * (G * K)) := by grind
    have e2 : n' * d * (B * (G * K)) = n' * G * (d * (B * K)) := by grind
    have e3 : 10 * (d' * C) * (d * (B * K)) = (10 * C * K) * B * (d * d') := by grind
    have e4 : H * B * (d * (d' * G)) = (H * G) * B * (d * d') := by grind
    have e5 : A * K * (d * (d' * G)) = d * A * (d' * (G * K)) := by grind
    rw [e3, ← hs, ← e4] at s3
    omega
  · exact hge
theorem IsExp_unique {n d e e' : Int} (hd : 0 < d) (h : IsExp n d e) (h' : IsExp n d e') : e = e' :=
  Int.le_antisymm (IsExp_mono hd hd h h' (Int.le_refl _)) (IsExp_mono hd hd h' h (Int.le_refl _))
noncomputable def expo0 (n d : Int) : Int := open Classical in if h : ∃ e, IsExp n d e then Classical.choose h else 0
noncomputable def expo (n d : Int) : Int := expo0 (if n < 0 then -n else n) d
theorem pos_of_mul {a b : Int} (h : 0 < a * b) (hb : 0 < b) : 0 < a := by
  rcases Int.lt_or_le 0 a with h1 | h1
  · exact h1
  · have := Int.mul_nonpos_of_nonpos_of_nonneg h1 (Int.le_of_lt hb)
    omega
theorem expo_is {n d e : Int} (hd : 0 < d) (h : IsExp (if n < 0 then -n else n) d e) : e = expo n d := by
  have hx : ∃ e, IsExp (if n < 0 then -n else n) d e := ⟨e, h⟩
  unfold expo expo0
  rw [dif_pos hx]
  exact IsExp_unique hd h (Classical.choose_spec hx)
theorem expo_pos {n d e : Int} (hd : 0 < d) (hn : 0 < n) (h : IsExp n d e) : expo n d = e := by
  refine (expo_is hd ?_).symm
  rw [if_neg (by omega)]; exact h
theorem expo_neg (n d : Int) : expo (0 - n) d = expo n d := by
  have : (if 0 - n < 0 then -(0 - n) else 0 - n) = (if n < 0 then -n else n) := by split <;> split <;> omega
  unfold expo
  rw [this]
theorem exp_ex {n d : Int} (h0 : 0 < n) (h1 : n ≤ 99999) (h2 : 0 < d) (h3 : d ≤ 20000) : ∃ e, -5 ≤ e ∧ e ≤ 4 ∧ IsExp n d e := by
  rcases Int.lt_or_le n (d * 10000) with a | a
  · rcases Int.lt_or_le n (d * 1000) with a | a
    · rcases Int.lt_or_le n (d * 100) with a | a
      · rcases Int.lt_or_le n (d * 10) with a | a
        · rcases Int.lt_or_le n d with a | a
          · rcases Int.lt_or_le (n * 10) d with a | a
            · rcases Int.lt_or_le (n * 100) d with a | a
              · rcases Int.lt_or_le (n * 1000) d with a | a
                · rcases Int.lt_or_le (n * 10000) d with a | a
                  · exact ⟨-5, by decide, by decide, by simp [IsExp]; omega⟩
                  · exact ⟨-4, by decide, by decide, by simp [IsExp]; omega⟩
                · exact ⟨-3, by decide, by decide, by simp [IsExp]; omega⟩
              · exact ⟨-2, by decide, by decide, by simp [IsExp]; omega⟩
            · exact ⟨-1, by decide, by decide, by simp [IsExp]; omega⟩
          · exact ⟨0, by decide, by decide, by simp [IsExp]; omega⟩
        · exact ⟨1, by decide, by decide, by simp [IsExp]; omega⟩
      · exact ⟨2, by decide, by decide, by simp [IsExp]; omega⟩
    · exact ⟨3, by decide, by decide, by simp [IsExp]; omega⟩
  · exact ⟨4, by decide, by decide, by simp [IsExp]; omega⟩

noncomputable def sgN (n d k : Int) : Int := if n = 0 then n else rdN n d (k - 1 - expo n d)
noncomputable def sgD (n d k : Int) : Int := if n = 0 then d else rdD n d (k - 1 - expo n d)
-- the number x of a positive fraction with exponent e, rounded
theorem sg_core {n d e k : Int} (hd : 0 < d) (hk : 1 ≤ k) (h : IsExp n d e) :
    pw (k - 1) ≤ rm n d (k - 1 - e) ∧ rm n d (k - 1 - e) ≤ 10 * pw (k - 1) := by
  obtain ⟨a1, a2⟩ := isExp_iff.mp h
  have hn := rm_near (n := n) (p := k - 1 - e) hd
  have ha := pw_add (k - 1 - e) e (k - 1) (by omega)
  rw [pw_of_nonpos (z := 0 - (k - 1)) (by omega), Int.mul_one] at ha
  have p1 := pw_pos (k - 1 - e)
  have p2 := pw_pos (0 - (k - 1 - e))
  have p3 := pw_pos e
  have p4 := pw_pos (0 - e)
  have p5 := pw_pos (k - 1)
  generalize rm n d (k - 1 - e) = m at *
  generalize pw (k - 1 - e) = S at *
  generalize pw (0 - (k - 1 - e)) = T at *
  generalize pw e = U at *
  generalize pw (0 - e) = V at *
  generalize pw (k - 1) = K at *
  have hX := Int.mul_pos hd p2
  have b1 : K * (d * T) ≤ n * S := by
    have := Int.mul_le_mul_of_nonneg_right a1 (Int.le_of_lt p1)
    have e1 : d * U * S = K * (d * T) * V := by grind
    have e2 : n * V * S = n * S * V := by grind
    rw [e1, e2] at this
    exact Int.le_of_mul_le_mul_right this p4
  have b2 : n * S ≤ 10 * K * (d * T) := by
    have := Int.mul_le_mul_of_nonneg_right (Int.le_of_lt a2) (Int.le_of_lt p1)
    have e1 : 10 * (d * U) * S = 10 * K * (d * T) * V := by grind
    have e2 : n * V * S = n * S * V := by grind
    rw [e1, e2] at this
    exact Int.le_of_mul_le_mul_right this p4
  exact ⟨near_mono hX hX (near_exact hX) hn (Int.mul_le_mul_of_nonneg_right b1 (Int.le_of_lt hX)), near_mono hX hX hn (near_exact hX) (Int.mul_le_mul_of_nonneg_right b2 (Int.le_of_lt hX))⟩
structure SgP (N D k e : Int) : Prop where
  dpos : 0 < D
  npos : 0 < N
  low : D * pw e ≤ N * pw (0 - e)
  high : N * pw (0 - (e + 1)) ≤ D * pw (e + 1)
  ex : expo N D = e ∨ expo N D = e + 1
  again : sgN N D k = N ∧ sgD N D k = D
theorem sg_pos' {n d e k : Int} (hd : 0 < d) (hk : 1 ≤ k) (h : IsExp n d e) : SgP (rdN n d (k - 1 - e)) (rdD n d (k - 1 - e)) k e := by
  obtain ⟨c1, c2⟩ := sg_core hd hk h
  obtain ⟨r1, r2, r3⟩ := rd_facts n d (k - 1 - e)
  have ht := rd_twice n d (k - 1 - e)
  have ha := pw_add (k - 1 - e) e (k - 1) (by omega)
  have hb := pw_add (k - 1 - e) (e + 1) k (by omega)
  rw [pw_of_nonpos (z := 0 - (k - 1)) (by omega), Int.mul_one] at ha
  rw [pw_of_nonpos (z := 0 - k) (by omega), Int.mul_one] at hb
  have hK : pw k = 10 * pw (k - 1) := by
    have := pw_succ (k - 1)
    have e1 : k - 1 + 1 = k := by omega
    rw [e1, pw_of_nonpos (z := 0 - (k - 1)) (by omega), pw_of_nonpos (z := 0 - k) (by omega)] at this
    omega
  rw [hK] at hb
  have hs := pw_succ (k - 1 - (e + 1))
  have e2 : k - 1 - (e + 1) + 1 = k - 1 - e := by omega
  rw [e2] at hs
  have p1 := pw_pos (k - 1 - e)
  have p2 := pw_pos (0 - (k - 1 - e))
  have p3 := pw_pos e
  have p4 := pw_pos (0 - e)
  have p5 := pw_pos (k - 1)
  have p6 := pw_pos (e + 1)
  have p7 := pw_pos (0 - (e + 1))
  have hnp : 0 < rdN n d (k - 1 - e) := by
    have h1 : 0 < rdN n d (k - 1 - e) * pw (k - 1 - e) := by
      rw [r2]; exact Int.mul_pos (Int.mul_pos (by omega) p2) r1
    exact pos_of_mul h1 p1
  have low : rdD n d (k - 1 - e) * pw e ≤ rdN n d (k - 1 - e) * pw (0 - e) := by
    have h1 := Int.mul_le_mul_of_nonneg_right c1 (Int.le_of_lt (Int.mul_pos r1 (Int.mul_pos p2 p4)))
    generalize rdN n d (k - 1 - e) = N at *
    generalize rdD n d (k - 1 - e) = D at *
    generalize rm n d (k - 1 - e) = m at *
    have f1 : pw (k - 1) * (D * (pw (0 - (k - 1 - e)) * pw (0 - e))) = D * pw e * pw (k - 1 - e) := by grind
    have f2 : m * (D * (pw (0 - (k - 1 - e)) * pw (0 - e))) = N * pw (0 - e) * pw (k - 1 - e) := by grind
    rw [f1, f2] at h1
    exact Int.le_of_mul_le_mul_right h1 p1
  have high : rdN n d (k - 1 - e) * pw (0 - (e + 1)) ≤ rdD n d (k - 1 - e) * pw (e + 1) := by
    have h1 := Int.mul_le_mul_of_nonneg_right c2 (Int.le_of_lt (Int.mul_pos r1 (Int.mul_pos p2 p7)))
    generalize rdN n d (k - 1 - e) = N at *
    generalize rdD n d (k - 1 - e) = D at *
    generalize rm n d (k - 1 - e) = m at *
    have f1 : 10 * pw (k - 1) * (D * (pw (0 - (k - 1 - e)) * pw (0 - (e + 1)))) = D * pw (e + 1) * pw (k - 1 - e) := by grind
    have f2 : m * (D * (pw (0 - (k - 1 - e)) * pw (0 - (e + 1)))) = N * pw (0 - (e + 1)) * pw (k - 1 - e) := by grind
    rw [f1, f2] at h1
    exact Int.le_of_mul_le_mul_right h1 p1
  rcases Int.lt_or_eq_of_le c2 with hlt | heq
  · have hup : rdN n d (k - 1 - e) * pw (0 - e) < 10 * (rdD n d (k - 1 - e) * pw e) := by
      have h1 := Int.mul_lt_mul_of_pos_right hlt (Int.mul_pos r1 (Int.mul_pos p2 p4))
      generalize rdN n d (k - 1 - e) = N at *
      generalize rdD n d (k - 1 - e) = D at *
      generalize rm n d (k - 1 - e) = m at *
      have f1 : 10 * pw (k - 1) * (D * (pw (0 - (k - 1 - e)) * pw (0 - e))) = 10 * (D * pw e) * pw (k - 1 - e) := by grind
      have f2 : m * (D * (pw (0 - (k - 1 - e)) * pw (0 - e))) = N * pw (0 - e) * pw (k - 1 - e) := by grind
      rw [f1, f2] at h1
      exact Int.lt_of_mul_lt_mul_right h1 (Int.le_of_lt p1)
    have hex := expo_pos r1 hnp (isExp_iff.mpr ⟨low, hup⟩)
    refine ⟨r1, hnp, low, high, .inl hex, ?_⟩
    unfold sgN sgD
    rw [hex, if_neg (by omega), if_neg (by omega)]
    exact ht
  · have heq2 : rdD n d (k - 1 - e) * pw (e + 1) = rdN n d (k - 1 - e) * pw (0 - (e + 1)) := by
      have f0 : rdD n d (k - 1 - e) * pw (e + 1) * pw (k - 1 - e) = rdN n d (k - 1 - e) * pw (0 - (e + 1)) * pw (k - 1 - e) := by
        generalize rdN n d (k - 1 - e) = N at *
        generalize rdD n d (k - 1 - e) = D at *
        generalize rm n d (k - 1 - e) = m at *
        grind
      exact Int.eq_of_mul_eq_mul_right (by omega) f0
    have hpos : 0 < rdD n d (k - 1 - e) * pw (e + 1) := Int.mul_pos r1 p6
    have hex := expo_pos (e := e + 1) r1 hnp (isExp_iff.mpr ⟨by omega, by omega⟩)
    refine ⟨r1, hnp, low, high, .inr hex, ?_⟩
    unfold sgN sgD
    rw [hex, if_neg (by omega), if_neg (by omega)]
    refine rd_exact (m := pw (k - 1)) r1 r3 ?_
    have f0 : rdN n d (k - 1 - e) * pw (k - 1 - (e + 1)) * (10 * pw (0 - (k - 1 - e))) = pw (k - 1) * (rdD n d (k - 1 - e) * pw (0 - (k - 1 - (e + 1)))) * (10 * pw (0 - (k - 1 - e))) := by
      generalize rdN n d (k - 1 - e) = N at *
      generalize rdD n d (k - 1 - e) = D at *
      generalize rm n d (k - 1 - e) = m at *
      generalize pw (k - 1 - e) = S at *
      generalize pw (0 - (k - 1 - e)) = T at *
      generalize pw (k - 1 - (e + 1)) = S' at *
      generalize pw (0 - (k - 1 - (e + 1))) = T' at *
      generalize pw (k - 1) = K at *
      subst heq
      grind
    exact Int.eq_of_mul_eq_mul_right (by omega) f0
def sgIn (n d k : Int) : Prop := (-99999 ≤ n ∧ n ≤ 99999 ∧ 0 < d ∧ d ≤ 20000) ∨ (n = 0 ∨ (-6 ≤ k - 1 - expo n d ∧ k - 1 - expo n d ≤ 12))
abbrev Rng (n d : Int) : Prop := -99999 ≤ n ∧ n ≤ 99999 ∧ 0 < d ∧ d ≤ 20000
theorem sg_pos {n d k : Int} (hk : 1 ≤ k) (h : Rng n d) (hn : 0 < n) : -5 ≤ expo n d ∧ expo n d ≤ 4 ∧ IsExp n d (expo n d) ∧ SgP (sgN n d k) (sgD n d k) k (expo n d) := by
  obtain ⟨e, e1, e2, e3⟩ := exp_ex hn h.2.1 h.2.2.1 h.2.2.2
  have hx := expo_pos h.2.2.1 hn e3
  have := sg_pos' (k := k) h.2.2.1 hk e3
  unfold sgN sgD
  rw [hx, if_neg (by omega), if_neg (by omega)]
  exact ⟨e1, e2, e3, this⟩
theorem sg_neg {n d k : Int} (hd : 0 < d) : sgN (0 - n) d k = 0 - sgN n d k ∧ sgD (0 - n) d k = sgD n d k := by
  unfold sgN sgD
  by_cases h : n = 0
  · rw [if_pos h, if_pos (by omega), if_pos h, if_pos (by omega)]; exact ⟨rfl, rfl⟩
  · rw [if_neg h, if_neg (by omega), if_neg h, if_neg (by omega), expo_neg]
    exact rd_neg hd
theorem rng_neg {n d : Int} (h : Rng n d) : Rng (0 - n) d := by unfold Rng at *; omega
theorem sg_range {n d k : Int} (hk0 : 1 ≤ k) (hk1 : k ≤ 8) (h : sgIn n d k) : n = 0 ∨ (-6 ≤ k - 1 - expo n d ∧ k - 1 - expo n d ≤ 12) := by
  rcases h with h | h
  · rcases Int.lt_trichotomy n 0 with hn | hn | hn
    · have := sg_pos hk0 (rng_neg h) (by omega)
      rw [expo_neg] at this
      omega
    · exact .inl hn
    · have := sg_pos hk0 h hn
      omega
  · exact h
theorem sgD_pos {n d k : Int} (hd0 : 0 < d) (hd1 : d ≤ 10 ^ 12) (hk0 : 1 ≤ k) (hk1 : k ≤ 8) (h : sgIn n d k) : 0 < sgD n d k ∧ sgD n d k ≤ 10 ^ 12 := by
  have hr := sg_range hk0 hk1 h
  unfold sgD
  split
  · exact ⟨hd0, hd1⟩
  · exact rdD_pos (by omega)
theorem sg_next {n d k : Int} (hk0 : 1 ≤ k) (hk1 : k ≤ 8) (h : Rng n d) : sgIn (sgN n d k) (sgD n d k) k := by
  refine .inr ?_
  rcases Int.lt_trichotomy n 0 with hn | hn | hn
  · obtain ⟨a, b, c, P⟩ := sg_pos hk0 (rng_neg h) (by omega)
    have e := sg_neg (n := n) (k := k) h.2.2.1
    rw [e.1, e.2, expo_neg] at P
    rw [expo_neg] at a b
    have := P.ex
    rw [expo_neg] at this
    omega
  · left; unfold sgN; rw [if_pos hn]; exact hn
  · obtain ⟨a, b, c, P⟩ := sg_pos hk0 h hn
    have := P.ex
    omega
theorem sg_facts {n d k : Int} (hd0 : 0 < d) (hd1 : d ≤ 10 ^ 12) (hk0 : 1 ≤ k) (hk1 : k ≤ 8) (h : sgIn n d k) : 0 < sgD n d k ∧ sgD n d k ≤ 10 ^ 12 ∧ (Rng n d → sgIn (sgN n d k) (sgD n d k) k) :=
  ⟨(sgD_pos hd0 hd1 hk0 hk1 h).1, (sgD_pos hd0 hd1 hk0 hk1 h).2, sg_next hk0 hk1⟩
theorem sg_twice {n d k : Int} (hk : 1 ≤ k) (h : Rng n d) : sgN (sgN n d k) (sgD n d k) k = sgN n d k ∧ sgD (sgN n d k) (sgD n d k) k = sgD n d k := by
  rcases Int.lt_trichotomy n 0 with hn | hn | hn
  · obtain ⟨a, b, c, P⟩ := sg_pos hk (rng_neg h) (by omega)
    have e := sg_neg (n := n) (k := k) h.2.2.1
    have q := P.again
    have hp := P.dpos
    rw [e.1, e.2] at q
    rw [e.2] at hp
    have e' := sg_neg (n := sgN n d k) (k := k) hp
    rw [e'.1, e'.2] at q
    exact ⟨by omega, q.2⟩
  · have a1 : sgN n d k = n := by unfold sgN; rw [if_pos hn]
    have a2 : sgD n d k = d := by unfold sgD; rw [if_pos hn]
    rw [a1, a2]; exact ⟨a1, a2⟩
  · exact (sg_pos hk h hn).2.2.2.again
theorem sg_mono_pos {n d n' d' k : Int} (hk : 1 ≤ k) (h : Rng n d) (h' : Rng n' d') (hn : 0 < n) (hn' : 0 < n') (hle : n * d' ≤ n' * d) :
    sgN n d k * sgD n' d' k ≤ sgN n' d' k * sgD n d k := by
  obtain ⟨_, _, x1, P⟩ := sg_pos hk h hn
  obtain ⟨_, _, x2, P'⟩ := sg_pos hk h' hn'
  have he := IsExp_mono h.2.2.1 h'.2.2.1 x1 x2 hle
  rcases Int.lt_or_eq_of_le he with hlt | heq
  · have c1 := P.high
    have c2 := P'.low
    have d1 := P.dpos
    have d2 := P'.dpos
    have hp := pw_mono (show expo n d + 1 ≤ expo n' d' by omega)
    have p1 := pw_pos (expo n d + 1)
    have p2 := pw_pos (0 - (expo n d + 1))
    have p3 := pw_pos (expo n' d')
    have p4 := pw_pos (0 - expo n' d')
    have n2 := P'.npos
    clear P P' x1 x2
    generalize sgN n d k = N at *
    generalize sgD n d k = D at *
    generalize sgN n' d' k = N' at *
    generalize sgD n' d' k = D' at *
    generalize pw (expo n d + 1) = A at *
    generalize pw (0 - (expo n d + 1)) = B at *
    generalize pw (expo n' d') = C at *
    generalize pw (0 - expo n' d') = G at *
    have s1 := Int.mul_le_mul_of_nonneg_right c1 (Int.le_of_lt (Int.mul_pos d2 p3))
    have s2 := Int.mul_le_mul_of_nonneg_right c2 (Int.le_of_lt (Int.mul_pos d1 p1))
    have s3 := Int.mul_le_mul_of_nonneg_right hp (Int.le_of_lt (Int.mul_pos n2 d1))
    have e1 : N * B * (D' * C) = N * D' * (B * C) := by grind
    have e2 : D * A * (D' * C) = D' * C * (D * A) := by grind
    have e3 : N' * G * (D * A) = A * G * (N' * D) := by grind
    have e4 : C * B * (N' * D) = N' * D * (B * C) := by grind
    rw [e1, e2] at s1
    rw [e3] at s2
    rw [e4] at s3
    exact Int.le_of_mul_le_mul_right (Int.le_trans s1 (Int.le_trans s2 s3)) (Int.mul_pos p2 p3)
  · unfold sgN sgD
    rw [if_neg (by omega), if_neg (by omega), if_neg (by omega), if_neg (by omega), ← heq]
    exact rd_mono h.2.2.1 h'.2.2.1 hle
theorem sg_sign {n d k : Int} (hk : 1 ≤ k) (h : Rng n d) : (0 < n → 0 < sgN n d k) ∧ (n = 0 → sgN n d k = 0) ∧ (n < 0 → sgN n d k < 0) ∧ 0 < sgD n d k := by
  rcases Int.lt_trichotomy n 0 with hn | hn | hn
  · obtain ⟨_, _, _, P⟩ := sg_pos hk (rng_neg h) (by omega)
    have e := sg_neg (n := n) (k := k) h.2.2.1
    have a := P.npos
    have b := P.dpos
    rw [e.1] at a
    rw [e.2] at b
    omega
  · have a1 : sgN n d k = n := by unfold sgN; rw [if_pos hn]
    have a2 : sgD n d k = d := by unfold sgD; rw [if_pos hn]
    have := h.2.2.1
    omega
  · obtain ⟨_, _, _, P⟩ := sg_pos hk h hn
    have a := P.npos
    have b := P.dpos
    omega
theorem sg_mono {n d n' d' k : Int} (hk : 1 ≤ k) (h : Rng n d) (h' : Rng n' d') (hle : n * d' ≤ n' * d) :
    sgN n d k * sgD n' d' k ≤ sgN n' d' k * sgD n d k := by
  have g := sg_sign hk h
  have g' := sg_sign hk h'
  have hd := h.2.2.1
  have hd' := h'.2.2.1
  have key : 0 ≤ sgN n' d' k → sgN n d k ≤ 0 → sgN n d k * sgD n' d' k ≤ sgN n' d' k * sgD n d k := by
    intro a b
    have := Int.mul_nonneg a (Int.le_of_lt g.2.2.2)
    have := Int.mul_nonpos_of_nonpos_of_nonneg b (Int.le_of_lt g'.2.2.2)
    omega
  rcases Int.lt_trichotomy n 0 with hn | hn | hn
  · rcases Int.lt_or_le n' 0 with hn' | hn'
    · have e := sg_neg (n := n) (k := k) hd
      have e' := sg_neg (n := n') (k := k) hd'
      have := sg_mono_pos hk (rng_neg h') (rng_neg h) (by omega) (by omega) (by grind)
      rw [e.1, e.2, e'.1, e'.2] at this
      grind
    · exact key (by omega) (by omega)
  · have : 0 ≤ n' := by
      subst hn
      rcases Int.lt_or_le n' 0 with h | h
      · have := Int.mul_neg_of_neg_of_pos h hd
        omega
      · exact h
    exact key (by omega) (by omega)
  · have hn' : 0 < n' := by
      have : 0 < n' * d := Int.lt_of_lt_of_le (Int.mul_pos hn hd') hle
      exact pos_of_mul this hd
    exact sg_mono_pos hk h h' hn hn' hle
-- cutting toward nought
def tw (n d : Int) : Int := if 0 ≤ n then (if n < 0 then -n else n).fdiv d else 0 - (if n < 0 then -n else n).fdiv d
theorem tw_twice (n d : Int) : tw (tw n d) 1 = tw n d := by
  unfold tw
  simp only [Int.fdiv_one]
  split <;> split <;> omega
theorem tw_pos {n d : Int} (h : 0 ≤ n) (hd : 0 < d) : tw n d = n / d := by
  unfold tw
  rw [if_pos h, if_neg (by omega), Int.fdiv_eq_ediv_of_nonneg _ (by omega)]
theorem tw_neg {n d : Int} : tw (0 - n) d = 0 - tw n d := by
  unfold tw
  by_cases h : n = 0
  · subst h; simp
  · by_cases h1 : 0 ≤ n
    · have : - (0 - n) = n := by omega
      rw [if_neg (by omega), if_pos (by omega), if_pos h1, if_neg (by omega), this]
    · have : 0 - n = -n := by omega
      rw [if_pos (by omega), if_neg (by omega), if_neg h1, if_pos (by omega), this]; omega
theorem ediv_mono2 {n d n' d' : Int} (hd : 0 < d) (hd' : 0 < d') (h : n * d' ≤ n' * d) : n / d ≤ n' / d' := by
  apply Int.le_ediv_of_mul_le hd'
  have h1 := Int.ediv_mul_le n (b := d) (by omega)
  have h2 := Int.mul_le_mul_of_nonneg_right h1 (Int.le_of_lt hd')
  have h3 : n / d * d' * d ≤ n' * d := by
    have : n / d * d' * d = n / d * d * d' := by grind
    omega
  exact Int.le_of_mul_le_mul_right h3 hd
theorem tw_mono {n d n' d' : Int} (hd : 0 < d) (hd' : 0 < d') (hle : n * d' ≤ n' * d) : tw n d * 1 ≤ tw n' d' * 1 := by
  have q {n d : Int} (h : 0 ≤ n) (hd : 0 < d) : 0 ≤ tw n d := by rw [tw_pos h hd]; exact Int.ediv_nonneg h (by omega)
  rcases Int.lt_or_le n 0 with hn | hn
  · rcases Int.lt_or_le n' 0 with hn' | hn'
    · have a := tw_pos (n := 0 - n) (by omega) hd
      have a' := tw_pos (n := 0 - n') (by omega) hd'
      have := ediv_mono2 hd' hd (n := 0 - n') (n' := 0 - n) (by grind)
      rw [tw_neg] at a a'
      omega
    · have := q hn' hd'
      have := q (n := 0 - n) (by omega) hd
      rw [tw_neg] at this
      omega
  · have hn' : 0 ≤ n' := by
      have : 0 ≤ n' * d := Int.le_trans (Int.mul_nonneg hn (by omega)) hle
      rcases Int.lt_or_le n' 0 with h | h
      · have := Int.mul_neg_of_neg_of_pos h hd
        omega
      · exact h
    rw [tw_pos hn hd, tw_pos hn' hd']
    have := ediv_mono2 hd hd' hle
    omega
end Mine

namespace Mine
abbrev tup (n d : Int) (t1 t2 : Tok) (c : Nat) : Obj := { cls := .type "tuple", data := .seq #[.int n t1, .int d t2] c }

abbrev RetI (R : Int) (h₀ : Heap) (L : Addr) (m : Str → Option Value) (news : List (Addr × Obj)) (s : Shared) (Q : Value → Shared → Prop) : Prop :=
  ∀ (t : Tok) (h' : Heap) (tk' : Nat), Fr h₀ L h' m → News h₀ L h' news → Q (.int R t) { s with heap := h', toks := tk' }
abbrev RetIP (P : Int → Prop) (h₀ : Heap) (L : Addr) (m : Str → Option Value) (news : List (Addr × Obj)) (s : Shared) (Q : Value → Shared → Prop) : Prop :=
  ∀ (R : Int) (t : Tok) (h' : Heap) (tk' : Nat), P R → Fr h₀ L h' m → News h₀ L h' news → Q (.int R t) { s with heap := h', toks := tk' }
abbrev RetB (R : Bool) (h₀ : Heap) (L : Addr) (m : Str → Option Value) (news : List (Addr × Obj)) (s : Shared) (Q : Value → Shared → Prop) : Prop :=
  ∀ (h' : Heap) (tk' : Nat), Fr h₀ L h' m → News h₀ L h' news → Q (.bool R) { s with heap := h', toks := tk' }
abbrev RetT (N D : Int) (h₀ : Heap) (L : Addr) (m : Str → Option Value) (news : List (Addr × Obj)) (s : Shared) (Q : Value → Shared → Prop) : Prop :=
  ∀ (a : Addr) (t1 t2 : Tok) (c : Nat) (h' : Heap) (tk' : Nat), Fr h₀ L h' m → News h₀ L h' ((a, tup N D t1 t2 c) :: news) → Q (.ref a) { s with heap := h', toks := tk' }

abbrev Cut (k : Nat) (w : World) (mean : ExcName → Option Value) (mg mb : Str → Option Value) (f : Addr) (news : List (Addr × Obj)) (vs : List Value)
    (Ret : Heap → Addr → (Str → Option Value) → List (Addr × Obj) → Shared → (Value → Shared → Prop) → Prop) : Prop :=
  ∀ (dp un : Nat) (gd : Option (List Code)) (cn : Str) (cs : Scope) (a : Addr) (ccd : Value) (cl : List (Str × Addr)) (outer : List Env) (A₀ : Around) (base h₀ : Heap) (L : Addr) (m : Str → Option Value) (s : Shared) (Q E : Value → Shared → Prop),
    Below A₀ base outer h₀ → Fr h₀ L s.heap m → (hd.heap_39 w.params).In h₀ → News h₀ L s.heap news → Top hd.view_39 (looseW hd.view_39 []) mean mg mb h₀ → cs.kind = .function →
    dp + k < recursionLimit → un + 16 * k < cLine → Ret h₀ L m news s Q →
    wpAny (model PySem.Challenge.rw_ov0038_01.row.prog w) (ktrTop dp un gd cn cs L a ccd cl outer) (call (.ref f) vs) Q E s

abbrev RetTF (N D : Int) (P : Prop) (h₀ : Heap) (L : Addr) (m : Str → Option Value) (news : List (Addr × Obj)) (s : Shared) (Q : Value → Shared → Prop) : Prop :=
  ∀ (a : Addr) (t1 t2 : Tok) (c : Nat) (h' : Heap) (tk' : Nat), P → Fr h₀ L h' m → News h₀ L h' ((a, tup N D t1 t2 c) :: news) → Q (.ref a) { s with heap := h', toks := tk' }
abbrev RetTP (P : Int → Int → Prop) (h₀ : Heap) (L : Addr) (m : Str → Option Value) (news : List (Addr × Obj)) (s : Shared) (Q : Value → Shared → Prop) : Prop :=
  ∀ (N D : Int) (a : Addr) (t1 t2 : Tok) (c : Nat) (h' : Heap) (tk' : Nat), P N D → Fr h₀ L h' m → News h₀ L h' ((a, tup N D t1 t2 c) :: news) → Q (.ref a) { s with heap := h', toks := tk' }
theorem useCut {k : Nat} {w : World} {mean : ExcName → Option Value} {mg mb : Str → Option Value} {f : Addr} {news : List (Addr × Obj)} {vs : List Value}
    {Ret : Heap → Addr → (Str → Option Value) → List (Addr × Obj) → Shared → (Value → Shared → Prop) → Prop}
    {dp un : Nat} {gd : Option (List Code)} {cn : Str} {cs : Scope} {a : Addr} {ccd : Value} {cl : List (Str × Addr)} {outer : List Env} {A₀ : Around} {base h₀ : Heap} {L : Addr} {m : Str → Option Value} {s : Shared} {Q E : Value → Shared → Prop}
    (C : Cut k w mean mg mb f news vs Ret)
    (B : Below A₀ base outer h₀) (F : Fr h₀ L s.heap m) (X : (hd.heap_39 w.params).In h₀) (N : News h₀ L s.heap news) (T : Top hd.view_39 (looseW hd.view_39 []) mean mg mb h₀) (hk : cs.kind = .function)
    (hd : dp + k < recursionLimit) (hu : un + 16 * k < cLine) (ret : Ret h₀ L m news s Q) :
    wpAny (model PySem.Challenge.rw_ov0038_01.row.prog w) (ktrTop dp un gd cn cs L a ccd cl outer) (call (.ref f) vs) Q E s :=
  C _ _ _ _ _ _ _ _ _ _ _ _ _ _ _ _ _ B F X N T hk hd hu ret

theorem endI {R R' : Int} {h₀ h' : Heap} {L : Addr} {m : Str → Option Value} {news news' : List (Addr × Obj)} {s : Shared} {Q : Value → Shared → Prop} {t : Tok} {tk : Nat}
    (hret : RetI R h₀ L m news s Q) (e : R' = R) (F : Fr h₀ L h' m) (N : News h₀ L h' news') (hn : ∀ p ∈ news, p ∈ news') : Q (.int R' t) { s with heap := h', toks := tk } := by
  subst e; exact hret _ _ _ F (fun p hp => N p (hn p hp))
theorem endIP {R' : Int} {P : Int → Prop} {h₀ h' : Heap} {L : Addr} {m : Str → Option Value} {news news' : List (Addr × Obj)} {s : Shared} {Q : Value → Shared → Prop} {t : Tok} {tk : Nat}
    (hret : RetIP P h₀ L m news s Q) (e : P R') (F : Fr h₀ L h' m) (N : News h₀ L h' news') (hn : ∀ p ∈ news, p ∈ news') : Q (.int R' t) { s with heap := h', toks := tk } := by
  exact hret _ _ _ _ e F (fun p hp => N p (hn p hp))
theorem endB {R R' : Bool} {h₀ h' : Heap} {L : Addr} {m : Str → Option Value} {news news' : List (Addr × Obj)} {s : Shared} {Q : Value → Shared → Prop} {tk : Nat}
    (hret : RetB R h₀ L m news s Q) (e : R' = R) (F : Fr h₀ L h' m) (N : News h₀ L h' news') (hn : ∀ p ∈ news, p ∈ news') : Q (.bool R') { s with heap := h', toks := tk } := by
  subst e; exact hret _ _ F (fun p hp => N p (hn p hp))
theorem endT {N D N' D' : Int} {h₀ h' : Heap} {L a : Addr} {m : Str → Option Value} {news news' : List (Addr × Obj)} {s : Shared} {Q : Value → Shared → Prop} {t1 t2 : Tok} {c tk : Nat}
    (hret : RetT N D h₀ L m news s Q) (F : Fr h₀ L h' m) (NN : News h₀ L h' news') (hm : (a, tup N' D' t1 t2 c) ∈ news') (hn : ∀ p ∈ news, p ∈ news') (e1 : N' = N) (e2 : D' = D) : Q (.ref a) { s with heap := h', toks := tk } := by
  subst e1; subst e2
  refine hret a t1 t2 c h' tk F (fun p hp => ?_)
  rcases List.mem_cons.mp hp with rfl | hp
  · exact NN _ hm
  · exact NN p (hn p hp)

theorem endTF {N D N' D' : Int} {P : Prop} {h₀ h' : Heap} {L a : Addr} {m : Str → Option Value} {news news' : List (Addr × Obj)} {s : Shared} {Q : Value → Shared → Prop} {t1 t2 : Tok} {c tk : Nat}
    (hret : RetTF N D P h₀ L m news s Q) (F : Fr h₀ L h' m) (NN : News h₀ L h' news') (hm : (a, tup N' D' t1 t2 c) ∈ news') (hn : ∀ p ∈ news, p ∈ news') (e1 : N' = N) (e2 : D' = D) (hp : P) : Q (.ref a) { s with heap := h', toks := tk } :=
  endT (N := N) (D := D) (fun a t1 t2 c h' tk' => hret a t1 t2 c h' tk' hp) F NN hm hn e1 e2
theorem endTP {N' D' : Int} {P : Int → Int → Prop} {h₀ h' : Heap} {L a : Addr} {m : Str → Option Value} {news news' : List (Addr × Obj)} {s : Shared} {Q : Value → Shared → Prop} {t1 t2 : Tok} {c tk : Nat}
    (hret : RetTP P h₀ L m news s Q) (F : Fr h₀ L h' m) (NN : News h₀ L h' news') (hm : (a, tup N' D' t1 t2 c) ∈ news') (hn : ∀ p ∈ news, p ∈ news') (hp : P N' D') : Q (.ref a) { s with heap := h', toks := tk } :=
  endT (N := N') (D := D') (fun a t1 t2 c h' tk' => hret _ _ a t1 t2 c h' tk' hp) F NN hm hn rfl rfl
theorem log2_small {b : Int} (h0 : 0 < b) (h1 : b < 2 ^ 64) : b.natAbs.log2 < 9000 := by
  have h2 : b.natAbs ≠ 0 := by omega
  have h3 : b.natAbs < 2 ^ 64 := by omega
  have := (Nat.log2_lt h2).mpr h3
  omega
theorem fdiv_step {prog : Program} {w : World} {A : Around} {E : Value → Shared → Prop} {s : Shared} {a b : Int} {t u : Tok} {Q : Value → Shared → Prop}
    (h0 : 0 < b) (h1 : b < 2 ^ 64) (h : Q (.int (a.fdiv b) s.toks) { s with toks := s.toks + 1 }) : wpAny (model prog w) A (binaryOp .FloorDiv (.int a t) (.int b u)) Q E s :=
  floordiv_int (by omega) h (Or.inl (PyProof.noPylong_of_log2 (log2_small h0 h1)))
theorem fmod_step {prog : Program} {w : World} {A : Around} {E : Value → Shared → Prop} {s : Shared} {a b : Int} {t u : Tok} {Q : Value → Shared → Prop}
    (h0 : 0 < b) (h : Q (.int (a.fmod b) s.toks) { s with toks := s.toks + 1 }) : wpAny (model prog w) A (binaryOp .Mod (.int a t) (.int b u)) Q E s :=
  mod_int' (by omega) h
theorem mul_step {prog : Program} {w : World} {A : Around} {E : Value → Shared → Prop} {s : Shared} {a b : Int} {t u : Tok} {Q : Value → Shared → Prop}
    (hm : IntMulOk a b) (h : Q (.int (a * b) s.toks) { s with toks := s.toks + 1 }) : wpAny (model prog w) A (binaryOp .Mult (.int a t) (.int b u)) Q E s :=
  mul_int h hm
theorem gentok {M : Model} {A : Around} {cm : Sem Flow} {E : Value → Shared → Prop} {Q : Flow → Shared → Prop} {s₀ : Shared} {h : Heap} {tk : Nat}
    (H : ∀ tk', wpAny M A cm Q E { s₀ with heap := h, toks := tk' }) : wpAny M A cm Q E { s₀ with heap := h, toks := tk } := H tk
end Mine
local macro_rules | `(tactic| walk_at "execs cons") => `(tactic| (k_here; (with_reducible refine gentok ?_); (intro tk); (with_reducible refine wpAny_execs_cons ?_); (try dsimp only)))
local macro_rules | `(tactic| walk_at "binaryOp Mult int int") => `(tactic| (k_here; (with_reducible refine mul_step ?m0 ?_); (case m0 => first | exact IntMulOk.of_right (by decide) | exact IntMulOk.of_left (by decide) | exact IntMulOk.of_right (intBits_le_64 (by omega) (by omega)) | exact IntMulOk.of_left (intBits_le_64 (by omega) (by omega))); (try dsimp only)))
local macro_rules | `(tactic| walk_at "binaryOp FloorDiv int int") => `(tactic| (k_here; (with_reducible refine fdiv_step ?d0 ?d1 ?_); (case d0 => omega); (case d1 => omega); (try dsimp only)))
local macro_rules | `(tactic| walk_at "binaryOp Mod int int") => `(tactic| (k_here; (with_reducible refine fmod_step ?d0 ?_); (case d0 => omega); (try dsimp only)))
local macro_rules | `(tactic| k_mem) => `(tactic| first | with_reducible assumption | exact List.mem_cons_self | (refine List.mem_cons_of_mem _ ?_; k_mem))

namespace Mine
set_option maxHeartbeats 8000000 in
theorem cut_nw {w : World} {mean : ExcName → Option Value} {mg mb : Str → Option Value} {news : List (Addr × Obj)} {n d : Int} {t1 t2 : Tok} (hd0 : 0 < d) (hd1 : d < 2 ^ 64) :
    Cut 2 w mean mg mb 78 news [.int n t1, .int d t2] (RetI (nw n d)) := by
  unfold Cut
  k_fill
  intro dp un gd cn cs a ccd cl outer A₀ base h₀ L m s Q E B F X N T hk hdp hun hret
  refine wpAny_call ?_
  k_dflt cell_enter
  k_steps
  all_goals refine endI hret ?_ (by k_asm) (by k_asm) (fun _ h => h)
  all_goals (unfold nw; split <;> omega)
end Mine

namespace Mine
theorem gcd_turn {g : Nat} {b x y : Int} (h2 : 0 ≤ y) (h3 : y ≤ b) (h4 : Int.gcd x y = g) (hy : 0 < y) :
    0 ≤ y ∧ 0 ≤ x.fmod y ∧ x.fmod y ≤ b ∧ Int.gcd y (x.fmod y) = g := by
  have e : x.fmod y = x % y := Int.fmod_eq_emod_of_nonneg x h2
  rw [e]
  refine ⟨h2, Int.emod_nonneg _ (by omega), ?_, ?_⟩
  · have := Int.emod_lt_of_pos x hy; omega
  · rw [← h4, Int.gcd_comm x y]
    have := Int.gcd_add_mul_left_right y (x % y) (x / y)
    rw [Int.emod_add_mul_ediv] at this
    exact this.symm
theorem gcd_less {x y : Int} (hy : 0 < y) : (x.fmod y).toNat < y.toNat := by
  have e : x.fmod y = x % y := Int.fmod_eq_emod_of_nonneg x (by omega)
  have h1 := Int.emod_lt_of_pos x hy
  have h2 := Int.emod_nonneg x (b := y) (by omega)
  omega
theorem gcd_done {a b x y : Int} (hb : 0 < b) (h1 : 0 ≤ x) (h2 : 0 ≤ y) (h4 : Int.gcd x y = Int.gcd a b) (hy : ¬ 0 < y) : x = (Int.gcd a b : Int) ∧ 0 < x ∧ x ≤ b := by
  have : y = 0 := by omega
  subst this
  rw [Int.gcd_zero_right] at h4
  have h5 : x = (Int.gcd a b : Int) := by omega
  have h6 := Int.gcd_pos_of_ne_zero_right a (b := b) (by omega)
  have h7 := Int.gcd_le_right a hb
  omega
set_option maxHeartbeats 8000000 in
theorem cut_gcd {w : World} {mean : ExcName → Option Value} {mg mb : Str → Option Value} {news : List (Addr × Obj)} {a b : Int} {t1 t2 : Tok} (ha : 0 ≤ a) (hb : 0 < b) (hb1 : b < 2 ^ 64) :
    Cut 2 w mean mg mb 22 news [.int a t1, .int b t2] (RetIP (fun g => g = (Int.gcd a b : Int) ∧ 0 < g ∧ g ≤ b)) := by
  unfold Cut
  k_fill
  intro dp un gd cn cs aa ccd cl outer A₀ base h₀ L m s Q E B F X N T hk hdp hun hret
  refine wpAny_call ?_
  k_dflt cell_enter
  k_with_none
  k_with "exec While Compare cons nil" => k_while (fun _ x y => 0 ≤ x ∧ 0 ≤ y ∧ y ≤ b ∧ Int.gcd x y = Int.gcd a b) (fun _ x y => y.toNat) "a" "b"
  k_with "state" => exact gcd_turn (by assumption) (by assumption) (by assumption) (by omega)
  k_with "measure" => exact gcd_less (by omega)
  k_steps
  k_with_none
  all_goals refine endIP hret ?_ (by k_asm) (by k_asm) (fun _ h => h)
  all_goals exact gcd_done hb (by assumption) (by assumption) (by assumption) (by omega)
end Mine
local macro_rules | `(tactic| walk_at "call ref") => `(tactic| (k_here; (with_reducible show wpAny _ _ (PySem.call (Value.ref 22) [Value.int _ _, Value.int _ _]) _ _ _); k_dflt (refine' useCut (cut_gcd ?p1 ?p2 ?p3) ?k1 ?k2 ?k3 ?k4 ?k5 ?kK ?kd ?ku ?_; (case k1 => k_asm); (case k2 => k_asm); (case k3 => k_asm); (case k4 => k_asm); (case k5 => k_asm); (case kK => first | exact rfl | assumption); (case kd => ktr_room); (case ku => ktr_units); (case p1 => omega); (case p2 => omega); (case p3 => omega)); (intro g9 t9 h9 tk9 P9 F9 N9); (try dsimp only); (try k_fold)))

namespace Mine
theorem gcd_abs (n d : Int) : Int.gcd (if n < 0 then -n else n) d = Int.gcd n d := by
  split
  · exact Int.neg_gcd
  · rfl
theorem gcd_q {g n d : Int} (h : g = (Int.gcd (if n < 0 then -n else n) d : Int) ∧ 0 < g ∧ g ≤ d) (x : Int) : x.fdiv g = x.fdiv (Int.gcd n d) := by
  rw [h.1, gcd_abs]
set_option maxHeartbeats 8000000 in
theorem cut_make {w : World} {mean : ExcName → Option Value} {mg mb : Str → Option Value} {news : List (Addr × Obj)} {n d : Int} {t1 t2 : Tok} (hd0 : 0 < d) (hd1 : d < 2 ^ 64) :
    Cut 3 w mean mg mb 29 news [.int n t1, .int d t2] (RetT (n.fdiv (Int.gcd n d)) (d.fdiv (Int.gcd n d))) := by
  unfold Cut
  k_fill
  intro dp un gd cn cs aa ccd cl outer A₀ base h₀ L m s Q E B F X N T hk hdp hun hret
  refine wpAny_call ?_
  k_dflt cell_enter
  k_steps
  all_goals first | (exfalso; omega) | skip
  all_goals refine endT hret (by k_asm) (by k_asm) (by k_mem) (by kcj_all) ?_ ?_
  all_goals exact gcd_q (by assumption) _
end Mine
local macro_rules | `(tactic| walk_at "call ref") => `(tactic| (k_here; (with_reducible show wpAny _ _ (PySem.call (Value.ref 29) [Value.int _ _, Value.int _ _]) _ _ _); k_dflt (refine' useCut (cut_make ?p1 ?p2) ?k1 ?k2 ?k3 ?k4 ?k5 ?kK ?kd ?ku ?_; (case k1 => k_asm); (case k2 => k_asm); (case k3 => k_asm); (case k4 => k_asm); (case k5 => k_asm); (case kK => first | exact rfl | assumption); (case kd => ktr_room); (case ku => ktr_units); (case p1 => omega); (case p2 => omega)); (intro a9 t9 u9 c9 h9 tk9 F9 N9); (try dsimp only); (try k_fold)))

namespace Mine
set_option maxHeartbeats 8000000 in
theorem cut_fin {w : World} {mean : ExcName → Option Value} {mg mb : Str → Option Value} {news : List (Addr × Obj)} {x : Addr} {n d : Int} {t1 t2 : Tok} {c : Nat} (hx : (x, tup n d t1 t2 c) ∈ news) (hd0 : 0 < d) :
    Cut 2 w mean mg mb 36 news [.ref x] (RetB true) := by
  unfold Cut
  k_fill
  intro dp un gd cn cs aa ccd cl outer A₀ base h₀ L m s Q E B F X N T hk hdp hun hret
  refine wpAny_call ?_
  k_dflt cell_enter
  k_steps
  all_goals refine endB hret (by simp; omega) (by k_asm) (by k_asm) (by kcj_all)
end Mine
local macro_rules | `(tactic| walk_at "call ref") => `(tactic| (k_here; (with_reducible show wpAny _ _ (PySem.call (Value.ref 36) [Value.ref _]) _ _ _); k_dflt (refine' useCut (cut_fin ?p1 ?p2) ?k1 ?k2 ?k3 ?k4 ?k5 ?kK ?kd ?ku ?_; (case k1 => k_asm); (case k2 => k_asm); (case k3 => k_asm); (case k4 => k_asm); (case k5 => k_asm); (case kK => first | exact rfl | assumption); (case kd => ktr_room); (case ku => ktr_units); (case p1 => k_mem); (case p2 => omega)); (intro h9 tk9 F9 N9); (try dsimp only); (try k_fold)))

namespace Mine
set_option maxHeartbeats 8000000 in
theorem cut_neg {w : World} {mean : ExcName → Option Value} {mg mb : Str → Option Value} {news : List (Addr × Obj)} {x : Addr} {n d : Int} {t1 t2 : Tok} {c : Nat} (hx : (x, tup n d t1 t2 c) ∈ news) :
    Cut 2 w mean mg mb 43 news [.ref x] (RetT (0 - n) d) := by
  unfold Cut
  k_fill
  intro dp un gd cn cs aa ccd cl outer A₀ base h₀ L m s Q E B F X N T hk hdp hun hret
  refine wpAny_call ?_
  k_dflt cell_enter
  k_steps
  all_goals refine endT hret (by k_asm) (by k_asm) (by k_mem) (by kcj_all) rfl rfl
end Mine
local macro_rules | `(tactic| walk_at "call ref") => `(tactic| (k_here; (with_reducible show wpAny _ _ (PySem.call (Value.ref 43) [Value.ref _]) _ _ _); k_dflt (refine' useCut (cut_neg ?p1) ?k1 ?k2 ?k3 ?k4 ?k5 ?kK ?kd ?ku ?_; (case k1 => k_asm); (case k2 => k_asm); (case k3 => k_asm); (case k4 => k_asm); (case k5 => k_asm); (case kK => first | exact rfl | assumption); (case kd => ktr_room); (case ku => ktr_units); (case p1 => k_mem)); (intro a9 t9 u9 c9 h9 tk9 F9 N9); (try dsimp only); (try k_fold)))

namespace Mine
set_option maxHeartbeats 8000000 in
theorem cut_floor {w : World} {mean : ExcName → Option Value} {mg mb : Str → Option Value} {news : List (Addr × Obj)} {x : Addr} {n d : Int} {t1 t2 : Tok} {c : Nat} (hx : (x, tup n d t1 t2 c) ∈ news) (hd0 : 0 < d) (hd1 : d < 2 ^ 64) :
    Cut 3 w mean mg mb 50 news [.ref x] (RetT (n.fdiv d) 1) := by
  unfold Cut
  k_fill
  intro dp un gd cn cs aa ccd cl outer A₀ base h₀ L m s Q E B F X N T hk hdp hun hret
  refine wpAny_call ?_
  k_dflt cell_enter
  k_steps
  all_goals refine endT hret (by k_asm) (by k_asm) (by k_mem) (by kcj_all) rfl rfl
end Mine
local macro_rules | `(tactic| walk_at "call ref") => `(tactic| (k_here; (with_reducible show wpAny _ _ (PySem.call (Value.ref 50) [Value.ref _]) _ _ _); k_dflt (refine' useCut (cut_floor ?p1 ?p2 ?p3) ?k1 ?k2 ?k3 ?k4 ?k5 ?kK ?kd ?ku ?_; (case k1 => k_asm); (case k2 => k_asm); (case k3 => k_asm); (case k4 => k_asm); (case k5 => k_asm); (case kK => first | exact rfl | assumption); (case kd => ktr_room); (case ku => ktr_units); (case p1 => k_mem); (case p2 => omega); (case p3 => omega)); (intro a9 t9 u9 c9 h9 tk9 F9 N9); (try dsimp only); (try k_fold)))

namespace Mine
set_option maxHeartbeats 8000000 in
theorem cut_ceil {w : World} {mean : ExcName → Option Value} {mg mb : Str → Option Value} {news : List (Addr × Obj)} {x : Addr} {n d : Int} {t1 t2 : Tok} {c : Nat} (hx : (x, tup n d t1 t2 c) ∈ news) (hd0 : 0 < d) (hd1 : d < 2 ^ 64) :
    Cut 4 w mean mg mb 57 news [.ref x] (RetT (0 - (0 - n).fdiv d) 1) := by
  unfold Cut
  k_fill
  intro dp un gd cn cs aa ccd cl outer A₀ base h₀ L m s Q E B F X N T hk hdp hun hret
  refine wpAny_call ?_
  k_dflt cell_enter
  k_steps
  all_goals refine endT hret (by k_asm) (by k_asm) (by k_mem) (by kcj_all) rfl rfl
end Mine
local macro_rules | `(tactic| walk_at "call ref") => `(tactic| (k_here; (with_reducible show wpAny _ _ (PySem.call (Value.ref 57) [Value.ref _]) _ _ _); k_dflt (refine' useCut (cut_ceil ?p1 ?p2 ?p3) ?k1 ?k2 ?k3 ?k4 ?k5 ?kK ?kd ?ku ?_; (case k1 => k_asm); (case k2 => k_asm); (case k3 => k_asm); (case k4 => k_asm); (case k5 => k_asm); (case kK => first | exact rfl | assumption); (case kd => ktr_room); (case ku => ktr_units); (case p1 => k_mem); (case p2 => omega); (case p3 => omega)); (intro a9 t9 u9 c9 h9 tk9 F9 N9); (try dsimp only); (try k_fold)))

namespace Mine
set_option maxHeartbeats 8000000 in
theorem cut_tw {w : World} {mean : ExcName → Option Value} {mg mb : Str → Option Value} {news : List (Addr × Obj)} {x : Addr} {n d : Int} {t1 t2 : Tok} {c : Nat} (hx : (x, tup n d t1 t2 c) ∈ news) (hd0 : 0 < d) (hd1 : d < 2 ^ 64) :
    Cut 3 w mean mg mb 71 news [.ref x] (RetI (tw n d)) := by
  unfold Cut
  k_fill
  intro dp un gd cn cs aa ccd cl outer A₀ base h₀ L m s Q E B F X N T hk hdp hun hret
  refine wpAny_call ?_
  k_dflt cell_enter
  k_steps
  all_goals refine endI hret ?_ (by k_asm) (by k_asm) (by kcj_all)
  all_goals (unfold tw; simp only [*, if_true, if_false]; done)
end Mine
local macro_rules | `(tactic| walk_at "call ref") => `(tactic| (k_here; (with_reducible show wpAny _ _ (PySem.call (Value.ref 71) [Value.ref _]) _ _ _); k_dflt (refine' useCut (cut_tw ?p1 ?p2 ?p3) ?k1 ?k2 ?k3 ?k4 ?k5 ?kK ?kd ?ku ?_; (case k1 => k_asm); (case k2 => k_asm); (case k3 => k_asm); (case k4 => k_asm); (case k5 => k_asm); (case kK => first | exact rfl | assumption); (case kd => ktr_room); (case ku => ktr_units); (case p1 => k_mem); (case p2 => omega); (case p3 => omega)); (intro t9 h9 tk9 F9 N9); (try dsimp only); (try k_fold)))

namespace Mine
set_option maxHeartbeats 8000000 in
theorem cut_trunc {w : World} {mean : ExcName → Option Value} {mg mb : Str → Option Value} {news : List (Addr × Obj)} {x : Addr} {n d : Int} {t1 t2 : Tok} {c : Nat} (hx : (x, tup n d t1 t2 c) ∈ news) (hd0 : 0 < d) (hd1 : d < 2 ^ 64) :
    Cut 4 w mean mg mb 64 news [.ref x] (RetT (tw n d) 1) := by
  unfold Cut
  k_fill
  intro dp un gd cn cs aa ccd cl outer A₀ base h₀ L m s Q E B F X N T hk hdp hun hret
  refine wpAny_call ?_
  k_dflt cell_enter
  k_steps
  all_goals refine endT hret (by k_asm) (by k_asm) (by k_mem) (by kcj_all) rfl rfl
end Mine
local macro_rules | `(tactic| walk_at "call ref") => `(tactic| (k_here; (with_reducible show wpAny _ _ (PySem.call (Value.ref 64) [Value.ref _]) _ _ _); k_dflt (refine' useCut (cut_trunc ?p1 ?p2 ?p3) ?k1 ?k2 ?k3 ?k4 ?k5 ?kK ?kd ?ku ?_; (case k1 => k_asm); (case k2 => k_asm); (case k3 => k_asm); (case k4 => k_asm); (case k5 => k_asm); (case kK => first | exact rfl | assumption); (case kd => ktr_room); (case ku => ktr_units); (case p1 => k_mem); (case p2 => omega); (case p3 => omega)); (intro a9 t9 u9 c9 h9 tk9 F9 N9); (try dsimp only); (try k_fold)))

namespace Mine
theorem pow_pos10 (k : Nat) : (0 : Int) < 10 ^ k := Int.pow_pos (by decide)
theorem pow_facts {d p : Int} (hd0 : 0 < d) (hd1 : d ≤ 10 ^ 12) (hp0 : -6 ≤ p) (hp1 : p ≤ 12) :
    0 < (10 : Int) ^ p.toNat ∧ (10 : Int) ^ p.toNat < 2 ^ 64 ∧ 0 < (10 : Int) ^ (0 - p).toNat ∧ (10 : Int) ^ (0 - p).toNat < 2 ^ 64 ∧
      0 < d * (10 : Int) ^ (0 - p).toNat ∧ d * (10 : Int) ^ (0 - p).toNat < 2 ^ 64 := by
  have a1 := pow_le (p := p) (k := 12) (by omega)
  have a2 := pow_le (p := 0 - p) (k := 6) (by omega)
  have b1 := pow_pos10 p.toNat
  have b2 := pow_pos10 (0 - p).toNat
  have c1 := Int.mul_pos hd0 b2
  have c2 : d * (10 : Int) ^ (0 - p).toNat ≤ 10 ^ 12 * 10 ^ 6 := Int.mul_le_mul hd1 a2 (by omega) (by decide)
  refine ⟨b1, ?_, b2, ?_, c1, ?_⟩
  · exact Int.lt_of_le_of_lt a1 (by decide)
  · exact Int.lt_of_le_of_lt a2 (by decide)
  · exact Int.lt_of_le_of_lt c2 (by decide)
end Mine
local macro_rules | `(tactic| walk_at "call ref") => `(tactic| (k_here; (with_reducible show wpAny _ _ (PySem.call (Value.ref 78) [Value.int _ _, Value.int _ _]) _ _ _); k_dflt (refine' useCut (cut_nw ?p1 ?p2) ?k1 ?k2 ?k3 ?k4 ?k5 ?kK ?kd ?ku ?_; (case k1 => k_asm); (case k2 => k_asm); (case k3 => k_asm); (case k4 => k_asm); (case k5 => k_asm); (case kK => first | exact rfl | assumption); (case kd => ktr_room); (case ku => ktr_units); (case p1 => omega); (case p2 => omega)); (intro t9 h9 tk9 F9 N9); (try dsimp only); (try k_fold)))

namespace Mine
set_option maxHeartbeats 8000000 in
theorem cut_rounded {w : World} {mean : ExcName → Option Value} {mg mb : Str → Option Value} {news : List (Addr × Obj)} {x : Addr} {n d : Int} {t1 t2 : Tok} {c : Nat} (hx : (x, tup n d t1 t2 c) ∈ news) {p : Int} {u : Tok} (hd0 : 0 < d) (hd1 : d ≤ 10 ^ 12) (hp0 : -6 ≤ p) (hp1 : p ≤ 12) :
    Cut 4 w mean mg mb 85 news [.ref x, .int p u] (RetT (rdN n d p) (rdD n d p)) := by
  unfold Cut
  k_fill
  intro dp un gd cn cs aa ccd cl outer A₀ base h₀ L m s Q E B F X N T hk hdp hun hret
  refine wpAny_call ?_
  k_dflt cell_enter
  obtain ⟨q1, q2, q3, q4, q5, q6⟩ := pow_facts hd0 hd1 hp0 hp1
  k_steps
  all_goals refine endT hret (by k_asm) (by k_asm) (by k_mem) (by kcj_all) ?_ ?_
  all_goals ((try unfold rdN); (try unfold rdD); (try unfold rdM); (split <;> first | rfl | (exfalso; omega)))
end Mine
local macro_rules | `(tactic| walk_at "call ref") => `(tactic| (k_here; (with_reducible show wpAny _ _ (PySem.call (Value.ref 85) [Value.ref _, Value.int _ _]) _ _ _); k_dflt (refine' useCut (cut_rounded ?p1 ?p2 ?p3 ?p4 ?p5) ?k1 ?k2 ?k3 ?k4 ?k5 ?kK ?kd ?ku ?_; (case k1 => k_asm); (case k2 => k_asm); (case k3 => k_asm); (case k4 => k_asm); (case k5 => k_asm); (case kK => first | exact rfl | assumption); (case kd => ktr_room); (case ku => ktr_units); (case p1 => k_mem); (case p2 => omega); (case p3 => omega); (case p4 => omega); (case p5 => omega)); (intro a9 t9 u9 c9 h9 tk9 F9 N9); (try dsimp only); (try k_fold)))

namespace Mine
set_option maxHeartbeats 8000000 in
theorem cut_rhe {w : World} {mean : ExcName → Option Value} {mg mb : Str → Option Value} {news : List (Addr × Obj)} {x : Addr} {n d : Int} {t1 t2 : Tok} {c : Nat} (hx : (x, tup n d t1 t2 c) ∈ news) {p : Int} {u : Tok} (hd0 : 0 < d) (hd1 : d ≤ 10 ^ 12) (hp0 : -6 ≤ p) (hp1 : p ≤ 12) :
    Cut 5 w mean mg mb 92 news [.ref x, .int p u] (RetT (rdN n d p) (rdD n d p)) := by
  unfold Cut
  k_fill
  intro dp un gd cn cs aa ccd cl outer A₀ base h₀ L m s Q E B F X N T hk hdp hun hret
  refine wpAny_call ?_
  k_dflt cell_enter
  have hmax : (if (-400 : Int) > p then (-400 : Int) else p) = p := by split <;> omega
  k_steps
  all_goals refine endT hret (by k_asm) (by k_asm) (by k_mem) (by kcj_all) ?_ ?_
  all_goals rw [hmax]
end Mine
local macro_rules | `(tactic| walk_at "call ref") => `(tactic| (k_here; (with_reducible show wpAny _ _ (PySem.call (Value.ref 92) [Value.ref _, Value.int _ _]) _ _ _); k_dflt (refine' useCut (cut_rhe ?p1 ?p2 ?p3 ?p4 ?p5) ?k1 ?k2 ?k3 ?k4 ?k5 ?kK ?kd ?ku ?_; (case k1 => k_asm); (case k2 => k_asm); (case k3 => k_asm); (case k4 => k_asm); (case k5 => k_asm); (case kK => first | exact rfl | assumption); (case kd => ktr_room); (case ku => ktr_units); (case p1 => k_mem); (case p2 => omega); (case p3 => omega); (case p4 => omega); (case p5 => omega)); (intro a9 t9 u9 c9 h9 tk9 F9 N9); (try dsimp only); (try k_fold)))

namespace Mine
def E1 (M d y e : Int) : Prop := 0 ≤ e ∧ y = d * 10 ^ e.toNat ∧ (e = 0 ∨ y ≤ M)
def E2 (M d y x e : Int) : Prop := x < 10 * y ∧ ((x = M ∧ E1 M d y e) ∨ (e ≤ 0 ∧ y = d ∧ x = M * 10 ^ (0 - e).toNat))
theorem E1_start {M d : Int} (h : 0 < d) : 0 < d ∧ E1 M d d 0 := ⟨h, Int.le_refl _, by simp, .inl rfl⟩
theorem E1_turn {M d y e : Int} (h0 : 0 < y) (h : E1 M d y e) (ht : 10 * y ≤ M) : 0 < y * 10 ∧ E1 M d (y * 10) (e + 1) := by
  obtain ⟨a, b, _⟩ := h
  have e1 : (e + 1).toNat = e.toNat + 1 := by omega
  refine ⟨by omega, by omega, ?_, .inr (by omega)⟩
  rw [e1, Int.pow_succ, b, Int.mul_assoc]
theorem E2_start {M d y e : Int} (hM : 0 < M) (h : E1 M d y e) (ht : ¬ 10 * y ≤ M) : 0 < M ∧ E2 M d y M e := ⟨hM, by omega, .inl ⟨rfl, h⟩⟩
theorem E2_turn {M d y x e : Int} (h0 : 0 < x) (h : E2 M d y x e) (ht : x < y) : 0 < x * 10 ∧ E2 M d y (x * 10) (e - 1) := by
  obtain ⟨a, b⟩ := h
  refine ⟨by omega, by omega, .inr ?_⟩
  rcases b with ⟨rfl, c, d1, e1⟩ | ⟨c, d1, e1⟩
  · have h1 : e = 0 := by omega
    subst h1
    refine ⟨by omega, ?_, by simp⟩
    simpa using d1
  · refine ⟨by omega, d1, ?_⟩
    have e2 : (0 - (e - 1)).toNat = (0 - e).toNat + 1 := by omega
    rw [e2, Int.pow_succ, e1, Int.mul_assoc]
theorem E2_end {M d y x e : Int} (h : E2 M d y x e) (ht : ¬ x < y) : IsExp M d e := by
  obtain ⟨a, b⟩ := h
  unfold IsExp
  rcases b with ⟨rfl, c, d1, e1⟩ | ⟨c, d1, e1⟩
  · rw [if_pos c, ← d1]; omega
  · by_cases h0 : 0 ≤ e
    · have h1 : e = 0 := by omega
      subst h1
      simp at e1 ⊢
      omega
    · rw [if_neg h0, ← e1]; omega
set_option maxHeartbeats 8000000 in
theorem cut_expo {w : World} {mean : ExcName → Option Value} {mg mb : Str → Option Value} {news : List (Addr × Obj)} {x : Addr} {n d : Int} {t1 t2 : Tok} {c : Nat} (hx : (x, tup n d t1 t2 c) ∈ news) (hd0 : 0 < d) (hn : n ≠ 0) :
    Cut 2 w mean mg mb 99 news [.ref x] (RetIP (fun e => e = expo n d)) := by
  unfold Cut
  k_fill
  intro dp un gd cn cs aa ccd cl outer A₀ base h₀ L m s Q E B F X N T hk hdp hun hret
  refine wpAny_call ?_
  k_dflt cell_enter
  have hM : 0 < (if n < 0 then -n else n) := by split <;> omega
  k_with_none
  k_with "exec While Compare cons nil" => k_while (fun _ y e => 0 < y ∧ E1 (if n < 0 then -n else n) d y e) (fun _ y _ => ((if n < 0 then -n else n) - y).toNat) "d" "e"
  k_with "exec While Compare cons nil" => k_while_given ["d"] (fun y _ x e => 0 < x ∧ E2 (if n < 0 then -n else n) d y x e) (fun y _ x _ => (y - x).toNat) "n" "e"
  k_with "state" => first | exact E1_start hd0 | exact E1_turn (by assumption) (by assumption) (by omega) | exact E2_start hM (by assumption) (by assumption) | exact E2_turn (by assumption) (by assumption) (by assumption)
  k_steps
  k_with_none
  all_goals refine endIP hret ?_ (by k_asm) (by k_asm) (by kcj_all)
  all_goals exact expo_is hd0 (E2_end (by assumption) (by assumption))
end Mine
local macro_rules | `(tactic| walk_at "call ref") => `(tactic| (k_here; (with_reducible show wpAny _ _ (PySem.call (Value.ref 99) [Value.ref _]) _ _ _); k_dflt (refine' useCut (cut_expo ?p1 ?p2 ?p3) ?k1 ?k2 ?k3 ?k4 ?k5 ?kK ?kd ?ku ?_; (case k1 => k_asm); (case k2 => k_asm); (case k3 => k_asm); (case k4 => k_asm); (case k5 => k_asm); (case kK => first | exact rfl | assumption); (case kd => ktr_room); (case ku => ktr_units); (case p1 => k_mem); (case p2 => omega); (case p3 => omega)); (intro e9 t9 h9 tk9 P9 F9 N9); (try dsimp only); (try k_fold)))

namespace Mine
theorem max_eq1 {k : Int} (hk : 1 ≤ k) : (if (1 : Int) > k then (1 : Int) else k) = k := by split <;> omega
theorem sgN_eq {n d k e : Int} (hn0 : ¬ n = 0) (hk : 1 ≤ k) (he : e = expo n d) : rdN n d ((if (1 : Int) > k then (1 : Int) else k) - 1 - e) = sgN n d k := by
  unfold sgN
  rw [if_neg hn0, he, max_eq1 hk]
theorem sgD_eq {n d k e : Int} (hn0 : ¬ n = 0) (hk : 1 ≤ k) (he : e = expo n d) : rdD n d ((if (1 : Int) > k then (1 : Int) else k) - 1 - e) = sgD n d k := by
  unfold sgD
  rw [if_neg hn0, he, max_eq1 hk]
set_option maxHeartbeats 8000000 in
theorem cut_signif {w : World} {mean : ExcName → Option Value} {mg mb : Str → Option Value} {news : List (Addr × Obj)} {x : Addr} {n d : Int} {t1 t2 : Tok} {c : Nat} (hx : (x, tup n d t1 t2 c) ∈ news) {k : Int} {u : Tok} (hd0 : 0 < d) (hd1 : d ≤ 10 ^ 12) (hk0 : 1 ≤ k) (hk1 : k ≤ 8) (hr : n = 0 ∨ (-6 ≤ k - 1 - expo n d ∧ k - 1 - expo n d ≤ 12)) :
    Cut 5 w mean mg mb 106 news [.ref x, .int k u] (RetT (sgN n d k) (sgD n d k)) := by
  unfold Cut
  k_fill
  intro dp un gd cn cs aa ccd cl outer A₀ base h₀ L m s Q E B F X N T hk hdp hun hret
  refine wpAny_call ?_
  k_dflt cell_enter
  have hmax : (if (1 : Int) > k then (1 : Int) else k) = k := by split <;> omega
  by_cases hn0 : n = 0
  · k_steps
    all_goals refine endT hret (by k_asm) (by k_asm) (by k_mem) (by kcj_all) ?_ ?_
    all_goals ((try unfold sgN); (try unfold sgD); rw [if_pos hn0])
  · k_steps
    all_goals first | (exfalso; omega) | skip
    all_goals refine endT hret (by k_asm) (by k_asm) (by k_mem) (by kcj_all) ?_ ?_
    all_goals first | exact sgN_eq hn0 hk0 (by assumption) | exact sgD_eq hn0 hk0 (by assumption)
end Mine
local macro_rules | `(tactic| walk_at "call ref") => `(tactic| (k_here; (with_reducible show wpAny _ _ (PySem.call (Value.ref 106) [Value.ref _, Value.int _ _]) _ _ _); k_dflt (refine' useCut (cut_signif ?p1 ?p2 ?p3 ?p4 ?p5 ?p6) ?k1 ?k2 ?k3 ?k4 ?k5 ?kK ?kd ?ku ?_; (case k1 => k_asm); (case k2 => k_asm); (case k3 => k_asm); (case k4 => k_asm); (case k5 => k_asm); (case kK => first | exact rfl | assumption); (case kd => ktr_room); (case ku => ktr_units); (case p1 => k_mem); (case p2 => omega); (case p3 => omega); (case p4 => omega); (case p5 => omega); (case p6 => omega)); (intro a9 t9 u9 c9 h9 tk9 F9 N9); (try dsimp only); (try k_fold)))

namespace Mine
theorem reads_tup {h₀ h : Heap} {L a : Addr} {news : List (Addr × Obj)} {n d : Int} {t1 t2 : Tok} {c : Nat} (N : News h₀ L h news) (ha : (a, tup n d t1 t2 c) ∈ news) :
    Reads h (.ref a) (.tuple [.int n, .int d]) [] :=
  reads_tuple_at (N _ ha).1 rfl rfl (readsAll_cons_val (Reads.int _ _) (readsAll_cons_val (Reads.int _ _) .nil))
theorem eq_tup {prog : Program} {w : World} {A : Around} {E : Value → Shared → Prop} {s : Shared} {a b : Addr} {news : List (Addr × Obj)} {n d n' d' : Int} {t1 t2 t1' t2' : Tok} {c c' : Nat} {Q : Value → Shared → Prop} {h₀ : Heap} {L : Addr}
    (N : News h₀ L s.heap news) (ha : (a, tup n d t1 t2 c) ∈ news) (hb : (b, tup n' d' t1' t2' c') ∈ news) (hu : A.units + 64 < cLine) (e1 : n = n') (e2 : d = d') (h : Q (.bool true) s) :
    wpAny (model prog w) A (compareOp .Eq (.ref a) (.ref b)) Q E s := by
  subst e1; subst e2
  exact eq_dataH (reads_tup N ha) (reads_tup N hb) rfl rfl hu (by simpa [PyData.eqv, PyData.eqvAll] using h)
theorem ne_tup {prog : Program} {w : World} {A : Around} {E : Value → Shared → Prop} {s : Shared} {a b : Addr} {news : List (Addr × Obj)} {n d n' d' : Int} {t1 t2 t1' t2' : Tok} {c c' : Nat} {Q : Value → Shared → Prop} {h₀ : Heap} {L : Addr}
    (N : News h₀ L s.heap news) (ha : (a, tup n d t1 t2 c) ∈ news) (hb : (b, tup n' d' t1' t2' c') ∈ news) (hu : A.units + 64 < cLine) (e1 : n = n') (e2 : d = d') (h : Q (.bool false) s) :
    wpAny (model prog w) A (compareOp .NotEq (.ref a) (.ref b)) Q E s := by
  subst e1; subst e2
  exact ne_dataH (reads_tup N ha) (reads_tup N hb) rfl rfl hu (by simpa [PyData.eqv, PyData.eqvAll] using h)
end Mine
local macro_rules | `(tactic| walk_at "compareOp Eq ref ref") => `(tactic| (k_here; (with_reducible show wpAny _ _ (compareOp CmpOp.Eq (Value.ref _) (Value.ref _)) _ _ _); k_dflt (refine' eq_tup ?k1 ?k2 ?k3 ?k4 ?k5 ?k6 ?_; (case k1 => k_asm); (case k2 => k_mem); (case k3 => k_mem); (case k4 => first | ke_room | ktr_units); (case k5 => rfl); (case k6 => rfl))))

namespace Mine
set_option maxHeartbeats 8000000 in
theorem cut_minus {w : World} {mean : ExcName → Option Value} {mg mb : Str → Option Value} {news : List (Addr × Obj)} {x : Addr} {n d : Int} {t1 t2 : Tok} {c : Nat} (hx : (x, tup n d t1 t2 c) ∈ news) :
    Cut 2 w mean mg mb 127 news [.ref x] (RetT (0 - n) d) := by
  unfold Cut
  k_fill
  intro dp un gd cn cs aa ccd cl outer A₀ base h₀ L m s Q E B F X N T hk hdp hun hret
  refine wpAny_call ?_
  k_dflt cell_enter
  k_steps
  all_goals refine endT hret (by k_asm) (by k_asm) (by k_mem) (by kcj_all) rfl rfl
end Mine
local macro_rules | `(tactic| walk_at "call ref") => `(tactic| (k_here; (with_reducible show wpAny _ _ (PySem.call (Value.ref 127) [Value.ref _]) _ _ _); k_dflt (refine' useCut (cut_minus ?p1) ?k1 ?k2 ?k3 ?k4 ?k5 ?kK ?kd ?ku ?_; (case k1 => k_asm); (case k2 => k_asm); (case k3 => k_asm); (case k4 => k_asm); (case k5 => k_asm); (case kK => first | exact rfl | assumption); (case kd => ktr_room); (case ku => ktr_units); (case p1 => k_mem)); (intro a9 t9 u9 c9 h9 tk9 F9 N9); (try dsimp only); (try k_fold)))

namespace Mine
set_option maxHeartbeats 8000000 in
theorem cut_above {w : World} {mean : ExcName → Option Value} {mg mb : Str → Option Value} {news : List (Addr × Obj)} {x y : Addr} {n d n' d' : Int} {t1 t2 u1 u2 : Tok} {c c' : Nat} (hx : (x, tup n d t1 t2 c) ∈ news) (hy : (y, tup n' d' u1 u2 c') ∈ news) (hd0 : 0 < d) (hd1 : d < 2 ^ 64) (hd2 : 0 < d') (hd3 : d' < 2 ^ 64) :
    Cut 2 w mean mg mb 134 news [.ref x, .ref y] (RetB (decide (n * d' > n' * d))) := by
  unfold Cut
  k_fill
  intro dp un gd cn cs aa ccd cl outer A₀ base h₀ L m s Q E B F X N T hk hdp hun hret
  refine wpAny_call ?_
  k_dflt cell_enter
  k_steps
  all_goals refine endB hret (by first | rfl | simp) (by k_asm) (by k_asm) (by kcj_all)
end Mine
local macro_rules | `(tactic| walk_at "call ref") => `(tactic| (k_here; (with_reducible show wpAny _ _ (PySem.call (Value.ref 134) [Value.ref _, Value.ref _]) _ _ _); k_dflt (refine' useCut (cut_above ?p1 ?p2 ?p3 ?p4 ?p5 ?p6) ?k1 ?k2 ?k3 ?k4 ?k5 ?kK ?kd ?ku ?_; (case k1 => k_asm); (case k2 => k_asm); (case k3 => k_asm); (case k4 => k_asm); (case k5 => k_asm); (case kK => first | exact rfl | assumption); (case kd => ktr_room); (case ku => ktr_units); (case p1 => k_mem); (case p2 => k_mem); (case p3 => omega); (case p4 => omega); (case p5 => omega); (case p6 => omega)); (intro h9 tk9 F9 N9); (try dsimp only); (try k_fold)))

namespace Mine
theorem sides_facts {n d : Int} (hd0 : 0 < d) : n.fdiv d * d ≤ n * 1 ∧ (n.fdiv d + 1) * d > n * 1 := by
  rw [Int.fdiv_eq_ediv_of_nonneg n (Int.le_of_lt hd0)]
  have h1 := Int.emod_add_mul_ediv n d
  have h2 := Int.emod_nonneg n (b := d) (by omega)
  have h3 := Int.emod_lt_of_pos n hd0
  rw [Int.add_mul, Int.mul_comm (n / d) d]
  omega
set_option maxHeartbeats 8000000 in
theorem cut_sides {w : World} {mean : ExcName → Option Value} {mg mb : Str → Option Value} {news : List (Addr × Obj)} {x : Addr} {n d : Int} {t1 t2 : Tok} {c : Nat} (hx : (x, tup n d t1 t2 c) ∈ news) (hd0 : 0 < d) (hd1 : d < 2 ^ 64) :
    Cut 6 w mean mg mb 169 news [.ref x] (RetB true) := by
  unfold Cut
  k_fill
  intro dp un gd cn cs aa ccd cl outer A₀ base h₀ L m s Q E B F X N T hk hdp hun hret
  refine wpAny_call ?_
  k_dflt cell_enter
  obtain ⟨q1, q2⟩ := sides_facts (n := n) hd0
  k_steps
  all_goals refine endB hret rfl (by k_asm) (by k_asm) (by kcj_all)
end Mine
local macro_rules | `(tactic| walk_at "call ref") => `(tactic| (k_here; (with_reducible show wpAny _ _ (PySem.call (Value.ref 169) [Value.ref _]) _ _ _); k_dflt (refine' useCut (cut_sides ?p1 ?p2 ?p3) ?k1 ?k2 ?k3 ?k4 ?k5 ?kK ?kd ?ku ?_; (case k1 => k_asm); (case k2 => k_asm); (case k3 => k_asm); (case k4 => k_asm); (case k5 => k_asm); (case kK => first | exact rfl | assumption); (case kd => ktr_room); (case ku => ktr_units); (case p1 => k_mem); (case p2 => omega); (case p3 => omega)); (intro h9 tk9 F9 N9); (try dsimp only); (try k_fold)))

namespace Mine
theorem menu_facts (x : Int) : 0 < [(1 : Int), 2, 20, 200, 3, 7, 16, 1000, 20000].getD (x.fmod 9).toNat 0 ∧ [(1 : Int), 2, 20, 200, 3, 7, 16, 1000, 20000].getD (x.fmod 9).toNat 0 ≤ 20000 := by
  rw [Int.fmod_eq_emod_of_nonneg x (by decide)]
  have h1 : (x % 9).toNat < 9 := by omega
  revert h1
  generalize (x % 9).toNat = k
  revert k
  decide
theorem fm0 (x : Int) : 0 ≤ x.fmod 100000 ∧ x.fmod 100000 ≤ 99999 := by
  rw [Int.fmod_eq_emod_of_nonneg x (by decide)]
  omega
theorem sz1 (x : Int) : -99999 ≤ x.fmod 100000 := by have := fm0 x; omega
theorem sz2 (x : Int) : x.fmod 100000 ≤ 99999 := by have := fm0 x; omega
theorem sz3 (x : Int) : -99999 ≤ 0 - x.fmod 100000 := by have := fm0 x; omega
theorem sz4 (x : Int) : 0 - x.fmod 100000 ≤ 99999 := by have := fm0 x; omega
theorem menu_lt (x : Int) : [(1 : Int), 2, 20, 200, 3, 7, 16, 1000, 20000].getD (x.fmod 9).toNat 0 < 2 ^ 64 := by have := (menu_facts x).2; omega
theorem fdiv_bounds {n x b : Int} (hx : 0 < x) (h0 : -b ≤ n) (h1 : n ≤ b) : -b ≤ n.fdiv x ∧ n.fdiv x ≤ b := by
  rw [Int.fdiv_eq_ediv_of_nonneg n (Int.le_of_lt hx)]
  have hb : 0 ≤ b := by omega
  have h2 : b * 1 ≤ b * x := Int.mul_le_mul_of_nonneg_left (by omega) hb
  refine ⟨Int.le_ediv_of_mul_le hx ?_, Int.ediv_le_of_le_mul hx (by omega)⟩
  rw [Int.neg_mul]; omega
theorem fdiv_pos' {d x : Int} (hx : 0 < x) (h : x ≤ d) : 0 < d.fdiv x := by
  rw [Int.fdiv_eq_ediv_of_nonneg d (Int.le_of_lt hx)]
  have : 1 ≤ d / x := Int.le_ediv_of_mul_le hx (by omega)
  omega
theorem shorter_end {n d x : Int} (hd : 0 < d) (h1 : 0 < x) (h2 : x ≤ d) (hn0 : -99999 ≤ n) (hn1 : n ≤ 99999) : 0 < d.fdiv x ∧ d.fdiv x ≤ d ∧ -99999 ≤ n.fdiv x ∧ n.fdiv x ≤ 99999 :=
  ⟨fdiv_pos' h1 h2, (fdiv_bounds h1 (by omega) (Int.le_refl d)).2, (fdiv_bounds h1 hn0 hn1).1, (fdiv_bounds h1 hn0 hn1).2⟩
theorem shorter_turn {d b x y : Int} {g : Nat} (h2 : 0 ≤ y) (h3 : y ≤ b) (h4 : Int.gcd x y = g) (hy : y ≠ 0) (hb : b = d) :
    0 ≤ y ∧ 0 ≤ x.fmod y ∧ x.fmod y ≤ b ∧ Int.gcd y (x.fmod y) = g ∧ (0 < y ∨ 0 < x.fmod y) ∧ (y ≤ d ∨ 0 < x.fmod y) := by
  obtain ⟨a, b, c, e⟩ := gcd_turn h2 h3 h4 (by omega)
  exact ⟨a, b, c, e, .inl (by omega), .inl (by omega)⟩
set_option maxHeartbeats 8000000 in
theorem cut_shorter {w : World} {mean : ExcName → Option Value} {mg mb : Str → Option Value} {news : List (Addr × Obj)} {n d : Int} {t1 t2 : Tok} (hd0 : 0 < d) (hd1 : d < 2 ^ 64) (hn0 : -99999 ≤ n) (hn1 : n ≤ 99999) :
    Cut 2 w mean mg mb 113 news [.int n t1, .int d t2] (RetTP (fun N D => 0 < D ∧ D ≤ d ∧ -99999 ≤ N ∧ N ≤ 99999)) := by
  unfold Cut
  k_fill
  intro dp un gd cn cs aa ccd cl outer A₀ base h₀ L m s Q E B F X N T hk hdp hun hret
  refine wpAny_call ?_
  k_dflt cell_enter
  have hM : 0 ≤ (if n < 0 then -n else n) := by split <;> omega
  k_with_none
  k_with "exec While Compare cons nil" => k_while (fun _ x y => 0 ≤ x ∧ 0 ≤ y ∧ y ≤ d ∧ Int.gcd x y = Int.gcd (if n < 0 then -n else n) d ∧ (0 < x ∨ 0 < y) ∧ (x ≤ d ∨ 0 < y)) (fun _ x y => y.toNat) "big" "small"
  k_with "state" => exact shorter_turn (by assumption) (by assumption) (by assumption) (by omega) rfl
  k_with "measure" => exact gcd_less (by omega)
  k_steps
  k_with_none
  all_goals refine endTP hret (by k_asm) (by k_asm) (by k_mem) (by kcj_all) ?_
  all_goals exact shorter_end hd0 (by omega) (by omega) hn0 hn1
end Mine
local macro_rules | `(tactic| walk_at "call ref") => `(tactic| (k_here; (with_reducible show wpAny _ _ (PySem.call (Value.ref 113) [Value.int _ _, Value.int _ _]) _ _ _); k_dflt (refine' useCut (cut_shorter ?p1 ?p2 ?p3 ?p4) ?k1 ?k2 ?k3 ?k4 ?k5 ?kK ?kd ?ku ?_; (case k1 => k_asm); (case k2 => k_asm); (case k3 => k_asm); (case k4 => k_asm); (case k5 => k_asm); (case kK => first | exact rfl | assumption); (case kd => ktr_room); (case ku => ktr_units); (case p1 => first | exact (menu_facts _).1 | omega); (case p2 => first | exact menu_lt _ | omega); (case p3 => first | exact sz1 _ | exact sz3 _ | omega); (case p4 => first | exact sz2 _ | exact sz4 _ | omega)); (intro n9 d9 a9 t9 u9 c9 h9 tk9 P9 F9 N9); (try dsimp only); (try k_fold)))

namespace Mine
set_option maxHeartbeats 8000000 in
theorem cut_places {w : World} {mean : ExcName → Option Value} {mg mb : Str → Option Value} {news : List (Addr × Obj)} {x : Addr} {n d : Int} {t1 t2 : Tok} {c : Nat} (hx : (x, tup n d t1 t2 c) ∈ news) {p : Int} {u : Tok} (hd0 : 0 < d) (hd1 : d ≤ 10 ^ 12) (hp0 : -6 ≤ p) (hp1 : p ≤ 12) :
    Cut 6 w mean mg mb 148 news [.ref x, .int p u] (RetTF (rdN n d p) (rdD n d p) (0 < rdD n d p ∧ rdD n d p ≤ 10 ^ 12)) := by
  unfold Cut
  k_fill
  intro dp un gd cn cs aa ccd cl outer A₀ base h₀ L m s Q E B F X N T hk hdp hun hret
  refine wpAny_call ?_
  k_dflt cell_enter
  k_steps
  all_goals refine endTF hret (by k_asm) (by k_asm) (by k_mem) (by kcj_all) rfl rfl (rdD_pos hp1)
end Mine
local macro_rules | `(tactic| walk_at "call ref") => `(tactic| (k_here; (with_reducible show wpAny _ _ (PySem.call (Value.ref 148) [Value.ref _, Value.int _ _]) _ _ _); k_dflt (refine' useCut (cut_places ?p1 ?p2 ?p3 ?p4 ?p5) ?k1 ?k2 ?k3 ?k4 ?k5 ?kK ?kd ?ku ?_; (case k1 => k_asm); (case k2 => k_asm); (case k3 => k_asm); (case k4 => k_asm); (case k5 => k_asm); (case kK => first | exact rfl | assumption); (case kd => ktr_room); (case ku => ktr_units); (case p1 => k_mem); (case p2 => omega); (case p3 => omega); (case p4 => omega); (case p5 => omega)); (intro a9 t9 u9 c9 h9 tk9 P9 F9 N9); (try dsimp only); (try k_fold)))

namespace Mine
set_option maxHeartbeats 8000000 in
theorem cut_cut {w : World} {mean : ExcName → Option Value} {mg mb : Str → Option Value} {news : List (Addr × Obj)} {x : Addr} {n d : Int} {t1 t2 : Tok} {c : Nat} (hx : (x, tup n d t1 t2 c) ∈ news) {p : Int} {u : Tok} (hd0 : 0 < d) (hd1 : d < 2 ^ 64) :
    Cut 6 w mean mg mb 162 news [.ref x, .int p u] (RetT (tw n d) 1) := by
  unfold Cut
  k_fill
  intro dp un gd cn cs aa ccd cl outer A₀ base h₀ L m s Q E B F X N T hk hdp hun hret
  refine wpAny_call ?_
  k_dflt cell_enter
  k_steps
  all_goals refine endT hret (by k_asm) (by k_asm) (by k_mem) (by kcj_all) rfl rfl
end Mine
local macro_rules | `(tactic| walk_at "call ref") => `(tactic| (k_here; (with_reducible show wpAny _ _ (PySem.call (Value.ref 162) [Value.ref _, Value.int _ _]) _ _ _); k_dflt (refine' useCut (cut_cut ?p1 ?p2 ?p3) ?k1 ?k2 ?k3 ?k4 ?k5 ?kK ?kd ?ku ?_; (case k1 => k_asm); (case k2 => k_asm); (case k3 => k_asm); (case k4 => k_asm); (case k5 => k_asm); (case kK => first | exact rfl | assumption); (case kd => ktr_room); (case ku => ktr_units); (case p1 => k_mem); (case p2 => omega); (case p3 => omega)); (intro a9 t9 u9 c9 h9 tk9 F9 N9); (try dsimp only); (try k_fold)))

namespace Mine
set_option maxHeartbeats 8000000 in
theorem cut_digits {w : World} {mean : ExcName → Option Value} {mg mb : Str → Option Value} {news : List (Addr × Obj)} {x : Addr} {n d : Int} {t1 t2 : Tok} {c : Nat} (hx : (x, tup n d t1 t2 c) ∈ news) {p : Int} {u : Tok} (hd0 : 0 < d) (hd1 : d ≤ 10 ^ 12) (hk0 : -3 ≤ p) (hk1 : p ≤ 4) (he : sgIn n d (p + 4)) :
    Cut 6 w mean mg mb 155 news [.ref x, .int p u] (RetTF (sgN n d (p + 4)) (sgD n d (p + 4)) (0 < sgD n d (p + 4) ∧ sgD n d (p + 4) ≤ 10 ^ 12 ∧ (Rng n d → sgIn (sgN n d (p + 4)) (sgD n d (p + 4)) (p + 4)))) := by
  unfold Cut
  k_fill
  intro dp un gd cn cs aa ccd cl outer A₀ base h₀ L m s Q E B F X N T hk hdp hun hret
  refine wpAny_call ?_
  k_dflt cell_enter
  have hr : n = 0 ∨ (-6 ≤ p + 4 - 1 - expo n d ∧ p + 4 - 1 - expo n d ≤ 12) := sg_range (by omega) (by omega) he
  k_steps
  all_goals refine endTF hret (by k_asm) (by k_asm) (by k_mem) (by kcj_all) rfl rfl (sg_facts hd0 hd1 (by omega) (by omega) he)
end Mine
local macro_rules | `(tactic| walk_at "call ref") => `(tactic| (k_here; (with_reducible show wpAny _ _ (PySem.call (Value.ref 155) [Value.ref _, Value.int _ _]) _ _ _); k_dflt (refine' useCut (cut_digits ?p1 ?p2 ?p3 ?p4 ?p5 ?p6) ?k1 ?k2 ?k3 ?k4 ?k5 ?kK ?kd ?ku ?_; (case k1 => k_asm); (case k2 => k_asm); (case k3 => k_asm); (case k4 => k_asm); (case k5 => k_asm); (case kK => first | exact rfl | assumption); (case kd => ktr_room); (case ku => ktr_units); (case p1 => k_mem); (case p2 => omega); (case p3 => omega); (case p4 => omega); (case p5 => omega); (case p6 => first | with_reducible assumption | exact .inl (by omega))); (intro a9 t9 u9 c9 h9 tk9 P9 F9 N9); (obtain ⟨P91, P92, P93⟩ := P9); (try (replace P93 := P93 ⟨by omega, by omega, by omega, by omega⟩)); (try dsimp only); (try k_fold)))

namespace Mine
set_option maxHeartbeats 8000000 in
theorem cut_near1 {w : World} {mean : ExcName → Option Value} {mg mb : Str → Option Value} {news : List (Addr × Obj)} {x y : Addr} {n d n' d' : Int} {t1 t2 u1 u2 : Tok} {c c' : Nat} (hx : (x, tup n d t1 t2 c) ∈ news) (hy : (y, tup n' d' u1 u2 c') ∈ news) {p : Int} {u : Tok} (hd0 : 0 < d) (hd1 : d ≤ 10 ^ 12) (hd2 : 0 < d') (hd3 : d' ≤ 10 ^ 12) (hp0 : -6 ≤ p) (hp1 : p ≤ 12) (hp : p > 0) (q1 : 0 < (10 : Int) ^ p.toNat) (q2 : (10 : Int) ^ p.toNat < 2 ^ 64) (q3 : 0 < (10 : Int) ^ Int.toNat 0) (q4 : (10 : Int) ^ Int.toNat 0 < 2 ^ 64) (q5 : 0 < d' * (10 : Int) ^ Int.toNat 0) (q6 : d' * (10 : Int) ^ Int.toNat 0 < 2 ^ 64) (hnear : nearP n d n' d' (10 ^ p.toNat) (10 ^ Int.toNat 0)) :
    Cut 3 w mean mg mb 141 news [.ref x, .ref y, .int p u] (RetB true) := by
  unfold Cut
  k_fill
  intro dp un gd cn cs aa ccd cl outer A₀ base h₀ L m s Q E B F X N T hk hdp hun hret
  refine wpAny_call ?_
  k_dflt cell_enter
  k_steps
  all_goals refine endB hret ?_ (by k_asm) (by k_asm) (by kcj_all)
  all_goals obtain ⟨h1, h2⟩ := hnear
  all_goals first | (exfalso; omega) | (simp only [decide_eq_true_eq, beq_iff_eq]; omega)
set_option maxHeartbeats 8000000 in
theorem cut_near2 {w : World} {mean : ExcName → Option Value} {mg mb : Str → Option Value} {news : List (Addr × Obj)} {x y : Addr} {n d n' d' : Int} {t1 t2 u1 u2 : Tok} {c c' : Nat} (hx : (x, tup n d t1 t2 c) ∈ news) (hy : (y, tup n' d' u1 u2 c') ∈ news) {p : Int} {u : Tok} (hd0 : 0 < d) (hd1 : d ≤ 10 ^ 12) (hd2 : 0 < d') (hd3 : d' ≤ 10 ^ 12) (hp0 : -6 ≤ p) (hp1 : p ≤ 12) (hp : p < 0) (q1 : 0 < (10 : Int) ^ Int.toNat 0) (q2 : (10 : Int) ^ Int.toNat 0 < 2 ^ 64) (q3 : 0 < (10 : Int) ^ (0 - p).toNat) (q4 : (10 : Int) ^ (0 - p).toNat < 2 ^ 64) (q5 : 0 < d' * (10 : Int) ^ (0 - p).toNat) (q6 : d' * (10 : Int) ^ (0 - p).toNat < 2 ^ 64) (hnear : nearP n d n' d' (10 ^ Int.toNat 0) (10 ^ (0 - p).toNat)) :
    Cut 3 w mean mg mb 141 news [.ref x, .ref y, .int p u] (RetB true) := by
  unfold Cut
  k_fill
  intro dp un gd cn cs aa ccd cl outer A₀ base h₀ L m s Q E B F X N T hk hdp hun hret
  refine wpAny_call ?_
  k_dflt cell_enter
  k_steps
  all_goals refine endB hret ?_ (by k_asm) (by k_asm) (by kcj_all)
  all_goals obtain ⟨h1, h2⟩ := hnear
  all_goals first | (exfalso; omega) | (simp only [decide_eq_true_eq, beq_iff_eq]; omega)
set_option maxHeartbeats 8000000 in
theorem cut_near3 {w : World} {mean : ExcName → Option Value} {mg mb : Str → Option Value} {news : List (Addr × Obj)} {x y : Addr} {n d n' d' : Int} {t1 t2 u1 u2 : Tok} {c c' : Nat} (hx : (x, tup n d t1 t2 c) ∈ news) (hy : (y, tup n' d' u1 u2 c') ∈ news) {p : Int} {u : Tok} (hd0 : 0 < d) (hd1 : d ≤ 10 ^ 12) (hd2 : 0 < d') (hd3 : d' ≤ 10 ^ 12) (hp0 : -6 ≤ p) (hp1 : p ≤ 12) (hp : p = 0) (q1 : 0 < (10 : Int) ^ Int.toNat 0) (q2 : (10 : Int) ^ Int.toNat 0 < 2 ^ 64) (q3 : 0 < (10 : Int) ^ Int.toNat 0) (q4 : (10 : Int) ^ Int.toNat 0 < 2 ^ 64) (q5 : 0 < d' * (10 : Int) ^ Int.toNat 0) (q6 : d' * (10 : Int) ^ Int.toNat 0 < 2 ^ 64) (hnear : nearP n d n' d' (10 ^ Int.toNat 0) (10 ^ Int.toNat 0)) :
    Cut 3 w mean mg mb 141 news [.ref x, .ref y, .int p u] (RetB true) := by
  unfold Cut
  k_fill
  intro dp un gd cn cs aa ccd cl outer A₀ base h₀ L m s Q E B F X N T hk hdp hun hret
  refine wpAny_call ?_
  k_dflt cell_enter
  k_steps
  all_goals refine endB hret ?_ (by k_asm) (by k_asm) (by kcj_all)
  all_goals obtain ⟨h1, h2⟩ := hnear
  all_goals first | (exfalso; omega) | (simp only [decide_eq_true_eq, beq_iff_eq]; omega)
theorem cut_near {w : World} {mean : ExcName → Option Value} {mg mb : Str → Option Value} {news : List (Addr × Obj)} {x y : Addr} {n d n' d' : Int} {t1 t2 u1 u2 : Tok} {c c' : Nat} (hx : (x, tup n d t1 t2 c) ∈ news) (hy : (y, tup n' d' u1 u2 c') ∈ news) {p : Int} {u : Tok} (hd0 : 0 < d) (hd1 : d ≤ 10 ^ 12) (hd2 : 0 < d') (hd3 : d' ≤ 10 ^ 12) (hp0 : -6 ≤ p) (hp1 : p ≤ 12)
    (hnear : nearP n d n' d' (10 ^ p.toNat) (10 ^ (0 - p).toNat)) : Cut 3 w mean mg mb 141 news [.ref x, .ref y, .int p u] (RetB true) := by
  obtain ⟨q1, q2, q3, q4, q5, q6⟩ := pow_facts (d := d') hd2 hd3 hp0 hp1
  rcases Int.lt_trichotomy p 0 with hp | hp | hp
  · have e : p.toNat = Int.toNat 0 := by rw [Int.toNat_zero]; omega
    rw [e] at q1 q2 hnear
    exact cut_near2 hx hy hd0 hd1 hd2 hd3 hp0 hp1 hp q1 q2 q3 q4 q5 q6 hnear
  · have e : p.toNat = Int.toNat 0 := by rw [Int.toNat_zero]; omega
    have e' : (0 - p).toNat = Int.toNat 0 := by rw [Int.toNat_zero]; omega
    rw [e] at q1 q2
    rw [e'] at q3 q4 q5 q6
    rw [e, e'] at hnear
    exact cut_near3 hx hy hd0 hd1 hd2 hd3 hp0 hp1 hp q1 q2 q3 q4 q5 q6 hnear
  · have e : (0 - p).toNat = Int.toNat 0 := by rw [Int.toNat_zero]; omega
    rw [e] at q3 q4 q5 q6 hnear
    exact cut_near1 hx hy hd0 hd1 hd2 hd3 hp0 hp1 hp q1 q2 q3 q4 q5 q6 hnear
end Mine
local macro_rules | `(tactic| walk_at "call ref") => `(tactic| (k_here; (with_reducible show wpAny _ _ (PySem.call (Value.ref 141) [Value.ref _, Value.ref _, Value.int _ _]) _ _ _); k_dflt (refine' useCut (cut_near ?p1 ?p2 ?p3 ?p4 ?p5 ?p6 ?p7 ?p8 ?p9) ?k1 ?k2 ?k3 ?k4 ?k5 ?kK ?kd ?ku ?_; (case k1 => k_asm); (case k2 => k_asm); (case k3 => k_asm); (case k4 => k_asm); (case k5 => k_asm); (case kK => first | exact rfl | assumption); (case kd => ktr_room); (case ku => ktr_units); (case p1 => k_mem); (case p2 => k_mem); (case p3 => omega); (case p4 => omega); (case p5 => first | exact (rdD_pos (by omega)).1 | omega); (case p6 => first | exact (rdD_pos (by omega)).2 | omega); (case p7 => omega); (case p8 => omega); (case p9 => exact near_rd (by omega))); (intro h9 tk9 F9 N9); (try dsimp only); (try k_fold)))

namespace Mine
abbrev CutP (w : World) (mean : ExcName → Option Value) (mg mb : Str → Option Value) : Prop :=
  ∀ (dp un : Nat) (gd : Option (List Code)) (cn : Str) (cs : Scope) (a : Addr) (ccd : Value) (cl : List (Str × Addr)) (outer : List Env) (A₀ : Around) (base h₀ : Heap) (L : Addr) (m : Str → Option Value) (news : List (Addr × Obj)) (s : Shared) (l : Addr) (vs : List Value) (ns : List Int) (i : Int) (t : Tok) (Q E : Value → Shared → Prop),
    Below A₀ base outer h₀ → Fr h₀ L s.heap m → (hd.heap_39 w.params).In h₀ → News h₀ L s.heap news → Top hd.view_39 (looseW hd.view_39 []) mean mg mb h₀ → cs.kind = .function → base.IsList l vs.toArray → IntsAre vs ns → ns.length < 2 ^ 62 → 0 ≤ i → i ≤ 3 →
    dp + 3 < recursionLimit → un + 48 < cLine → RetTP (fun N D => Rng N D) h₀ L m news s Q →
    wpAny (model PySem.Challenge.rw_ov0038_01.row.prog w) (ktrTop dp un gd cn cs L a ccd cl outer) (call (.ref 120) [.ref l, .int i t]) Q E s
theorem useCutP {w : World} {mean : ExcName → Option Value} {mg mb : Str → Option Value}
    {dp un : Nat} {gd : Option (List Code)} {cn : Str} {cs : Scope} {a : Addr} {ccd : Value} {cl : List (Str × Addr)} {outer : List Env} {A₀ : Around} {base h₀ : Heap} {L : Addr} {m : Str → Option Value} {news : List (Addr × Obj)} {s : Shared} {l : Addr} {vs : List Value} {ns : List Int} {i : Int} {t : Tok} {Q E : Value → Shared → Prop}
    (C : CutP w mean mg mb)
    (B : Below A₀ base outer h₀) (F : Fr h₀ L s.heap m) (X : (hd.heap_39 w.params).In h₀) (N : News h₀ L s.heap news) (T : Top hd.view_39 (looseW hd.view_39 []) mean mg mb h₀) (hk : cs.kind = .function)
    (hl : base.IsList l vs.toArray) (hi : IntsAre vs ns) (hfit : ns.length < 2 ^ 62) (h0 : 0 ≤ i) (h1 : i ≤ 3) (hdp : dp + 3 < recursionLimit) (hun : un + 48 < cLine)
    (ret : RetTP (fun N D => Rng N D) h₀ L m news s Q) :
    wpAny (model PySem.Challenge.rw_ov0038_01.row.prog w) (ktrTop dp un gd cn cs L a ccd cl outer) (call (.ref 120) [.ref l, .int i t]) Q E s :=
  C _ _ _ _ _ _ _ _ _ _ _ _ _ _ _ _ _ _ _ _ _ _ _ B F X N T hk hl hi hfit h0 h1 hdp hun ret
theorem pair_end {N D d : Int} (h : 0 < D ∧ D ≤ d ∧ -99999 ≤ N ∧ N ≤ 99999) (hd : d ≤ 20000) : Rng N D := by unfold Rng; omega
set_option maxHeartbeats 8000000 in
theorem cut_pair {w : World} {mean : ExcName → Option Value} {mg mb : Str → Option Value} : CutP w mean mg mb := by
  unfold CutP
  k_fill
  intro dp un gd cn cs aa ccd cl outer A₀ base h₀ L m news s l vs ns i t Q E B F X N T hk hl hi hfit h0 h1 hdp hun hret
  refine wpAny_call ?_
  k_dflt cell_enter
  k_steps
  all_goals refine endTP hret (by k_asm) (by k_asm) (by k_mem) (by kcj_all) ?_
  all_goals exact pair_end (by assumption) (by first | exact (menu_facts _).2 | decide)
end Mine
local macro_rules | `(tactic| walk_at "call ref") => `(tactic| (k_here; (with_reducible show wpAny _ _ (PySem.call (Value.ref 120) [Value.ref _, Value.int _ _]) _ _ _); k_dflt (refine' useCutP cut_pair ?k1 ?k2 ?k3 ?k4 ?k5 ?kK ?kl ?ki ?kt ?k0 ?kh ?kd ?ku ?_; (case k1 => k_asm); (case k2 => k_asm); (case k3 => k_asm); (case k4 => k_asm); (case k5 => k_asm); (case kK => first | exact rfl | assumption); (case kl => k_asm); (case ki => l_ints); (case kt => l_fit); (case k0 => decide); (case kh => decide); (case kd => ktr_room); (case ku => ktr_units)); (intro n9 d9 a9 t9 u9 c9 h9 tk9 P9 F9 N9); (obtain ⟨P91, P92, P93, P94⟩ := P9); (try dsimp only); (try k_fold)))

namespace Mine
theorem empty_absurd {xs : List Int} (h : decide (xs = []) = false) (h1 : 0 < -(xs.length : Int) ∨ (xs.length : Int) ≤ 0) : False := by
  have h2 : xs ≠ [] := of_decide_eq_false h
  have h3 := List.length_pos_iff.mpr h2
  omega
theorem fmod_gen {prog : Program} {w : World} {A : Around} {E : Value → Shared → Prop} {s : Shared} {a : Int} {t u : Tok} {Q : Value → Shared → Prop}
    (h : ∀ r : Int, 0 ≤ r → r < 8 → Q (.int r s.toks) { s with toks := s.toks + 1 }) : wpAny (model prog w) A (binaryOp .Mod (.int a t) (.int 8 u)) Q E s := by
  refine fmod_step (by decide) (h _ ?_ ?_)
  · rw [Int.fmod_eq_emod_of_nonneg a (by decide)]; omega
  · rw [Int.fmod_eq_emod_of_nonneg a (by decide)]; omega
def J8 (h₀ : Heap) (L : Addr) (m : Str → Option Value) (news : List (Addr × Obj)) (s : Shared) (v : Value) (s₂ : Shared) : Prop :=
  ∃ (r : Int) (t : Tok) (h : Heap) (tk : Nat), v = .int r t ∧ 0 ≤ r ∧ r < 8 ∧ s₂ = { s with heap := h, toks := tk } ∧ Fr h₀ L h m ∧ News h₀ L h news
theorem j8_end {h₀ h : Heap} {L : Addr} {m : Str → Option Value} {news news' : List (Addr × Obj)} {s : Shared} {r : Int} {t : Tok} {tk : Nat} (F : Fr h₀ L h m) (N : News h₀ L h news') (hn : ∀ p ∈ news, p ∈ news') (h0 : 0 ≤ r) (h1 : r < 8) :
    J8 h₀ L m news s (.int r t) { s with heap := h, toks := tk } := ⟨r, t, h, tk, rfl, h0, h1, rfl, F, fun p hp => N p (hn p hp)⟩
theorem j8 {M : Model} {A : Around} {c : Sem Value} {E Q : Value → Shared → Prop} {s : Shared} {h₀ : Heap} {L : Addr} {m : Str → Option Value} {news : List (Addr × Obj)} (_ : Fr h₀ L s.heap m) (_ : News h₀ L s.heap news)
    (hc : wpAny M A c (J8 h₀ L m news s) E s) (hk : ∀ (r : Int) (t : Tok) (h : Heap) (tk : Nat), 0 ≤ r → r < 8 → Fr h₀ L h m → News h₀ L h news → Q (.int r t) { s with heap := h, toks := tk }) : wpAny M A c Q E s := by
  refine wpAny_mono hc ?_ (fun _ _ h => h)
  intro v s₂ h
  obtain ⟨r, t, h, tk, rfl, h0, h1, rfl, F, N⟩ := h
  exact hk r t h tk h0 h1 F N
def JI (x y : Str) (h₀ : Heap) (L : Addr) (m : Str → Option Value) (s : Shared) (f : Flow) (s₂ : Shared) : Prop :=
  ∃ (a b : Addr) (n d n' d' : Int) (t1 t2 u1 u2 : Tok) (c c' : Nat) (h : Heap) (tk : Nat), f = .next ∧ Rng n d ∧ Rng n' d' ∧ n * d' ≤ n' * d ∧ s₂ = { s with heap := h, toks := tk } ∧
    Fr h₀ L h (fun z => if z = x then some (.ref a) else if z = y then some (.ref b) else m z) ∧ News h₀ L h [(a, tup n d t1 t2 c), (b, tup n' d' u1 u2 c')]
theorem ji_end {x y : Str} {h₀ h : Heap} {L : Addr} {m : Str → Option Value} {news : List (Addr × Obj)} {s : Shared} {a b : Addr} {n d n' d' : Int} {t1 t2 u1 u2 : Tok} {c c' tk : Nat}
    (F : Fr h₀ L h (fun z => if z = x then some (.ref a) else if z = y then some (.ref b) else m z)) (N : News h₀ L h news) (ha : (a, tup n d t1 t2 c) ∈ news) (hb : (b, tup n' d' u1 u2 c') ∈ news) (h1 : Rng n d) (h2 : Rng n' d') (hle : n * d' ≤ n' * d) :
    JI x y h₀ L m s .next { s with heap := h, toks := tk } :=
  ⟨a, b, n, d, n', d', t1, t2, u1, u2, c, c', h, tk, rfl, h1, h2, hle, rfl, F, fun p hp => by
    rcases List.mem_cons.mp hp with rfl | hp
    · exact N _ ha
    · rcases List.mem_cons.mp hp with rfl | hp
      · exact N _ hb
      · exact nomatch hp⟩
theorem ji_same {x y : Str} {h₀ h : Heap} {L : Addr} {m : Str → Option Value} {news : List (Addr × Obj)} {s : Shared} {a b : Addr} {n d n' d' : Int} {t1 t2 u1 u2 : Tok} {c c' tk : Nat}
    (F : Fr h₀ L h (fun z => if z = y then some (.ref b) else if z = x then some (.ref a) else m z)) (N : News h₀ L h news) (hxy : x ≠ y) (ha : (a, tup n d t1 t2 c) ∈ news) (hb : (b, tup n' d' u1 u2 c') ∈ news) (h1 : Rng n d) (h2 : Rng n' d') (hle : n * d' ≤ n' * d) :
    JI x y h₀ L (fun z => if z = y then some (.ref b) else if z = x then some (.ref a) else m z) s .next { s with heap := h, toks := tk } := by
  refine ji_end ?_ N ha hb h1 h2 hle
  have e : (fun z => if z = x then some (Value.ref a) else if z = y then some (.ref b) else if z = y then some (.ref b) else if z = x then some (.ref a) else m z) = (fun z => if z = y then some (.ref b) else if z = x then some (.ref a) else m z) := by
    funext z
    by_cases h1 : z = x
    · show (if z = x then _ else _) = (if z = y then _ else (if z = x then _ else _))
      rw [if_pos h1, if_neg (by rw [h1]; exact hxy), if_pos h1]
    · show (if z = x then _ else (if z = y then _ else _)) = _
      rw [if_neg h1]
      by_cases h2 : z = y
      · rw [if_pos h2, if_pos h2]
      · rw [if_neg h2, if_neg h2]
  rw [e]
  exact F
theorem ji {M : Model} {A : Around} {cm : Sem Flow} {E : Value → Shared → Prop} {Q : Flow → Shared → Prop} {s : Shared} (x y : Str) {h₀ : Heap} {L : Addr} {m : Str → Option Value} (_ : Fr h₀ L s.heap m)
    (hc : wpAny M A cm (JI x y h₀ L m s) E s)
    (hk : ∀ (a b : Addr) (n d n' d' : Int) (t1 t2 u1 u2 : Tok) (c c' : Nat) (h : Heap) (tk : Nat), Rng n d → Rng n' d' → n * d' ≤ n' * d →
      Fr h₀ L h (fun z => if z = x then some (.ref a) else if z = y then some (.ref b) else m z) → News h₀ L h [(a, tup n d t1 t2 c), (b, tup n' d' u1 u2 c')] → Q .next { s with heap := h, toks := tk }) : wpAny M A cm Q E s := by
  refine wpAny_mono hc ?_ (fun _ _ h => h)
  intro v s₂ h
  obtain ⟨a, b, n, d, n', d', t1, t2, u1, u2, c, c', h, tk, rfl, h1, h2, hle, rfl, F, N⟩ := h
  exact hk a b n d n' d' t1 t2 u1 u2 c c' h tk h1 h2 hle F N
theorem cut_le {w : World} {mean : ExcName → Option Value} {mg mb : Str → Option Value} {news : List (Addr × Obj)} {x y : Addr} {n d n' d' : Int} {t1 t2 u1 u2 : Tok} {c c' : Nat} (hx : (x, tup n d t1 t2 c) ∈ news) (hy : (y, tup n' d' u1 u2 c') ∈ news) (hd0 : 0 < d) (hd1 : d < 2 ^ 64) (hd2 : 0 < d') (hd3 : d' < 2 ^ 64) (hle : n * d' ≤ n' * d) :
    Cut 2 w mean mg mb 134 news [.ref x, .ref y] (RetB false) := by
  have h := cut_above (w := w) (mean := mean) (mg := mg) (mb := mb) hx hy hd0 hd1 hd2 hd3
  have e : decide (n * d' > n' * d) = false := decide_eq_false (by omega)
  rw [e] at h
  exact h
end Mine
local macro_rules | `(tactic| walk_at "eval IfExp") => `(tactic| (k_here; (with_reducible show wpAny _ _ (eval (PySem.Expr.IfExp _ _ _ _) _) _ _ _); (fail_if_success (with_reducible show wpAny _ _ _ (J8 _ _ _ _ _) _ _)); (refine' j8 ?k1 ?k2 ?kc ?km; (case k1 => k_asm); (case k2 => k_asm)); (case' km => (intro r9 t9 h9 tk9 R90 R91 F9 N9; (try dsimp only))); (all_goals (try k_fold))))
local macro_rules | `(tactic| walk_at "J8") => `(tactic| ((refine' j8_end ?k1 ?k2 ?k3 ?k4 ?k5; (case k1 => k_asm); (case k2 => k_asm); (case k3 => kcj_all); (case k4 => omega); (case k5 => omega))))
local macro_rules | `(tactic| walk_at "exec If") => `(tactic| (k_here; (with_reducible show wpAny _ _ (exec (PySem.Stmt.If _ [PySem.Stmt.Assign _ _ _] [] _) _) _ _ _); (fail_if_success (with_reducible show wpAny _ _ _ (JI _ _ _ _ _ _) _ _)); (refine' ji (Str.ofString "one") (Str.ofString "two") ?k1 ?kc ?km; (case k1 => k_asm)); (case' km => (intro a9 b9 n9 d9 e9 g9 t9 u9 v9 w9 c9 cc9 h9 tk9 RA9 RB9 HL9 F9 N9; (obtain ⟨P91, P92, P93, P94⟩ := RA9); (obtain ⟨Q91, Q92, Q93, Q94⟩ := RB9); (try dsimp only))); (all_goals (try k_fold))))
local macro_rules | `(tactic| walk_at "JI") => `(tactic| (first | (refine' ji_end ?k1 ?k2 ?k3 ?k4 ?k5 ?k6 ?k7; (case k1 => k_asm); (case k2 => k_asm); (case k3 => k_mem); (case k4 => k_mem); (case k5 => exact ⟨by omega, by omega, by omega, by omega⟩); (case k6 => exact ⟨by omega, by omega, by omega, by omega⟩); (case k7 => ((simp only [decide_eq_true_eq, decide_eq_false_iff_not, gt_iff_lt, Int.not_lt] at *); omega))) | (refine' ji_same ?k1 ?k2 ?k0 ?k3 ?k4 ?k5 ?k6 ?k7; (case k1 => k_asm); (case k2 => k_asm); (case k0 => decide); (case k3 => k_mem); (case k4 => k_mem); (case k5 => exact ⟨by omega, by omega, by omega, by omega⟩); (case k6 => exact ⟨by omega, by omega, by omega, by omega⟩); (case k7 => ((simp only [decide_eq_true_eq, decide_eq_false_iff_not, gt_iff_lt, Int.not_lt] at *); omega)))))
local macro_rules | `(tactic| walk_at "KCj") => `(tactic| (refine' kcj_end (t := (0 : Nat)) ?kce ?kcv ?kcs ?kcF ?kcN ?kcl; (case kcv => with_unfolding_all rfl); (case kcs => exact rfl); (case kcF => k_asm); (case kcN => k_asm); (case kcl => kcj_all); (case kce => exact rfl)))
local macro_rules | `(tactic| walk_at "binaryOp Mod int int") => `(tactic| (k_here; (with_reducible refine fmod_gen ?_); (intro r9 R90 R91); (try dsimp only); (try k_fold)))
local macro_rules | `(tactic| walk_at "compareOp NotEq ref ref") => `(tactic| (k_here; (with_reducible show wpAny _ _ (compareOp CmpOp.NotEq (Value.ref _) (Value.ref _)) _ _ _); k_dflt (refine' ne_tup ?k1 ?k2 ?k3 ?k4 ?k5 ?k6 ?_; (case k1 => k_asm); (case k2 => k_mem); (case k3 => k_mem); (case k4 => first | ke_room | ktr_units); (case k5 => first | with_reducible rfl | with_reducible exact (rd_twice _ _ _).1 | (with_reducible refine (rd_neg ?q1).1; (case q1 => omega)) | (with_reducible refine (sg_twice ?q1 ?q2).1; (case q1 => omega); (case q2 => exact ⟨by omega, by omega, by omega, by omega⟩)) | (with_reducible refine (sg_neg ?q1).1; (case q1 => omega)) | with_reducible exact tw_twice _ _ | with_reducible exact tw_neg); (case k6 => first | with_reducible rfl | with_reducible exact (rd_twice _ _ _).2 | (with_reducible refine (rd_neg ?q1).2; (case q1 => omega)) | (with_reducible refine (sg_twice ?q1 ?q2).2; (case q1 => omega); (case q2 => exact ⟨by omega, by omega, by omega, by omega⟩)) | (with_reducible refine (sg_neg ?q1).2; (case q1 => omega))))))
local macro_rules | `(tactic| walk_at "call ref") => `(tactic| (k_here; (with_reducible show wpAny _ _ (PySem.call (Value.ref 134) [Value.ref _, Value.ref _]) _ _ _); k_dflt (refine' useCut (cut_le ?p1 ?p2 ?p3 ?p4 ?p5 ?p6 ?p7) ?k1 ?k2 ?k3 ?k4 ?k5 ?kK ?kd ?ku ?_; (case k1 => k_asm); (case k2 => k_asm); (case k3 => k_asm); (case k4 => k_asm); (case k5 => k_asm); (case kK => first | exact rfl | assumption); (case kd => ktr_room); (case ku => ktr_units); (case p1 => k_mem); (case p2 => k_mem); (case p3 => omega); (case p4 => omega); (case p5 => omega); (case p6 => omega); (case p7 => first | (with_reducible refine rd_mono ?q1 ?q2 ?q3; (case q1 => omega); (case q2 => omega); (case q3 => omega)) | (with_reducible refine sg_mono ?q1 ?q2 ?q3 ?q4; (case q1 => omega); (case q2 => exact ⟨by omega, by omega, by omega, by omega⟩); (case q3 => exact ⟨by omega, by omega, by omega, by omega⟩); (case q4 => omega)) | (with_reducible refine tw_mono ?q1 ?q2 ?q3; (case q1 => omega); (case q2 => omega); (case q3 => omega)))); (intro h9 tk9 F9 N9); (try dsimp only); (try k_fold)))

set_option maxHeartbeats 40000000 in
set_option rowWalk.seconds 0 in
theorem PySem.Challenge.cw_ov0038_01_holds : PySem.Challenge.rw_ov0038_01.Holds := by
  refine hd ?_
  k_go0
  (all_goals try k_fold)
  k_steps
  all_goals exact (empty_absurd (by assumption) (by assumption)).elim
